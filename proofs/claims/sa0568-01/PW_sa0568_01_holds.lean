import PyProof.Rows.All
import Wide.All
import OpenK.AllK
import Wide.FinOn
import PySem.Challenge.RW_sa0568_01
open PySem PySem.W PyProof.Rows
set_option Elab.async false
-- HeadM
section
open PySem PySem.W PyProof.Rows
set_option maxRecDepth 100000
namespace Mine
/-- the statements of a def, of a class or of a loop of the text -/
def fdBody : Stmt → List Stmt
  | .FunctionDef _ _ b _ _ _ _ _ _ _ => b
  | .ClassDef _ _ _ b _ _ _ _ _ _ _ => b
  | .For _ _ b _ _ => b
  | _ => []
def fdScope : Stmt → Scope
  | .FunctionDef _ _ _ _ _ _ sc _ _ _ => sc
  | _ => default
def fdArgs : Stmt → Arguments
  | .FunctionDef _ a _ _ _ _ _ _ _ _ => a
  | _ => default
def top (i : Nat) : Stmt := Challenge.pw_sa0568_01.main.body.getD i default
def meth (i j : Nat) : Stmt := (fdBody (top i)).getD j default
/-- the part of the heap behind the top that the walk knows -/
noncomputable def hK : Params → Frag := fun P =>
  (nat_lit 2, ({ cls := Value.none, data := Data.dict #[] } : Obj)) ::
  (nat_lit 3, ({ cls := Value.type "dict", data := Data.dict #[{ hash := PyData.keyHash P (Str.ofString "__name__"), key := Value.str (Str.ofString "__name__") 165, val := Value.str (Str.ofString "law_sa0568_01") 503 }, { hash := PyData.keyHash P (Str.ofString "__doc__"), key := Value.str (Str.ofString "__doc__") 166, val := Value.none }, { hash := PyData.keyHash P (Str.ofString "__package__"), key := Value.str (Str.ofString "__package__") 167, val := Value.none }, { hash := PyData.keyHash P (Str.ofString "__loader__"), key := Value.str (Str.ofString "__loader__") 168, val := Value.builtin "__main__.__loader__#opaque" }, { hash := PyData.keyHash P (Str.ofString "__spec__"), key := Value.str (Str.ofString "__spec__") 169, val := Value.none }, { hash := PyData.keyHash P (Str.ofString "__annotations__"), key := Value.str (Str.ofString "__annotations__") 170, val := Value.ref 6 }, { hash := PyData.keyHash P (Str.ofString "__builtins__"), key := Value.str (Str.ofString "__builtins__") 171, val := Value.ref 4 }, { hash := PyData.keyHash P (Str.ofString "__file__"), key := Value.str (Str.ofString "__file__") 173, val := Value.str (Str.ofString "/claim/cut.py") 172 }, { hash := PyData.keyHash P (Str.ofString "__cached__"), key := Value.str (Str.ofString "__cached__") 174, val := Value.none }, { hash := PyData.keyHash P (Str.ofString "_wall"), key := Value.str (Str.ofString "_wall") 193, val := Value.ref 21 }, { hash := PyData.keyHash P (Str.ofString "PACKET_THRESHOLD"), key := Value.str (Str.ofString "PACKET_THRESHOLD") 197, val := Value.int 3 196 }, { hash := PyData.keyHash P (Str.ofString "is_lost"), key := Value.str (Str.ofString "is_lost") 208, val := Value.ref 28 }, { hash := PyData.keyHash P (Str.ofString "detect_lost"), key := Value.str (Str.ofString "detect_lost") 222, val := Value.ref 35 }, { hash := PyData.keyHash P (Str.ofString "flight_size"), key := Value.str (Str.ofString "flight_size") 228, val := Value.ref 40 }, { hash := PyData.keyHash P (Str.ofString "NOT_ELICITING"), key := Value.str (Str.ofString "NOT_ELICITING") 234, val := Value.ref 41 }, { hash := PyData.keyHash P (Str.ofString "is_eliciting"), key := Value.str (Str.ofString "is_eliciting") 241, val := Value.ref 48 }, { hash := PyData.keyHash P (Str.ofString "counts_in_flight"), key := Value.str (Str.ofString "counts_in_flight") 248, val := Value.ref 55 }, { hash := PyData.keyHash P (Str.ofString "any_eliciting"), key := Value.str (Str.ofString "any_eliciting") 254, val := Value.ref 60 }, { hash := PyData.keyHash P (Str.ofString "any_in_flight"), key := Value.str (Str.ofString "any_in_flight") 260, val := Value.ref 65 }, { hash := PyData.keyHash P (Str.ofString "has_number"), key := Value.str (Str.ofString "has_number") 268, val := Value.ref 70 }, { hash := PyData.keyHash P (Str.ofString "newly_acked"), key := Value.str (Str.ofString "newly_acked") 274, val := Value.ref 75 }, { hash := PyData.keyHash P (Str.ofString "SentPacket"), key := Value.str (Str.ofString "SentPacket") 313, val := Value.ref 92 }, { hash := PyData.keyHash P (Str.ofString "Space"), key := Value.str (Str.ofString "Space") 502, val := Value.ref 235 }, { hash := PyData.keyHash P (Str.ofString "_law_take"), key := Value.str (Str.ofString "_law_take") 512, val := Value.ref 246 }, { hash := PyData.keyHash P (Str.ofString "_law_run"), key := Value.str (Str.ofString "_law_run") 518, val := Value.ref 251 }, { hash := PyData.keyHash P (Str.ofString "law"), key := Value.str (Str.ofString "law") 524, val := Value.ref 256 }] 26 } : Obj)) ::
  (nat_lit 15, ({ cls := Value.type "tuple", data := Data.seq #[] } : Obj)) ::
  (nat_lit 17, ({ cls := Value.type "tuple", data := Data.seq #[Value.str (Str.ofString "k") 190] } : Obj)) ::
  (nat_lit 18, ({ cls := Value.type "tuple", data := Data.seq #[] } : Obj)) ::
  (nat_lit 20, ({ cls := Value.type "code", data := Data.fields #[Value.str (Str.ofString "_wall") 187, Value.str (Str.ofString "_wall") 188, Value.str (Str.ofString "/claim/cut.py") 189, Value.int 1 0, Value.int 1 0, Value.int 0 0, Value.int 0 0, Value.int 3 0, Value.ref 15, Value.bool true, Value.int 181 0, Value.ref 16, Value.none, Value.ref 17, Value.ref 18, Value.ref 19, Value.int 191 0, Value.int 1 0, Value.str (Str.ofString "/claim/cut.py") 192] } : Obj)) ::
  (nat_lit 21, ({ cls := Value.type "function", data := Data.func { name := Str.ofString "_wall", qualname := Str.ofString "_wall", params := fdArgs (top 0), body := FuncBody.stmts (fdBody (top 0)), scope := fdScope (top 0), globals := 3, closure := [], defaults := Value.none, kwdefaults := Value.none, pyModule := Value.str (Str.ofString "__main__") 164, code := Value.ref 20 } } : Obj)) ::
  (nat_lit 22, ({ cls := Value.type "tuple", data := Data.seq #[] } : Obj)) ::
  (nat_lit 24, ({ cls := Value.type "tuple", data := Data.seq #[Value.str (Str.ofString "number") 201, Value.str (Str.ofString "sent_at") 202, Value.str (Str.ofString "largest") 203, Value.str (Str.ofString "now") 204, Value.str (Str.ofString "delay") 205] } : Obj)) ::
  (nat_lit 25, ({ cls := Value.type "tuple", data := Data.seq #[] } : Obj)) ::
  (nat_lit 27, ({ cls := Value.type "code", data := Data.fields #[Value.str (Str.ofString "is_lost") 198, Value.str (Str.ofString "is_lost") 199, Value.str (Str.ofString "/claim/cut.py") 200, Value.int 6 0, Value.int 5 0, Value.int 0 0, Value.int 0 0, Value.int 3 0, Value.ref 22, Value.bool true, Value.int 181 0, Value.ref 23, Value.none, Value.ref 24, Value.ref 25, Value.ref 26, Value.int 206 0, Value.int 6 0, Value.str (Str.ofString "/claim/cut.py") 207] } : Obj)) ::
  (nat_lit 28, ({ cls := Value.type "function", data := Data.func { name := Str.ofString "is_lost", qualname := Str.ofString "is_lost", params := fdArgs (top 3), body := FuncBody.stmts (fdBody (top 3)), scope := fdScope (top 3), globals := 3, closure := [], defaults := Value.none, kwdefaults := Value.none, pyModule := Value.str (Str.ofString "quic.loss") 194, code := Value.ref 27 } } : Obj)) ::
  (nat_lit 29, ({ cls := Value.type "tuple", data := Data.seq #[] } : Obj)) ::
  (nat_lit 31, ({ cls := Value.type "tuple", data := Data.seq #[Value.str (Str.ofString "sent") 212, Value.str (Str.ofString "largest") 213, Value.str (Str.ofString "now") 214, Value.str (Str.ofString "delay") 215, Value.str (Str.ofString "lost") 216, Value.str (Str.ofString "later") 217, Value.str (Str.ofString "number") 218, Value.str (Str.ofString "sent_at") 219] } : Obj)) ::
  (nat_lit 32, ({ cls := Value.type "tuple", data := Data.seq #[] } : Obj)) ::
  (nat_lit 34, ({ cls := Value.type "code", data := Data.fields #[Value.str (Str.ofString "detect_lost") 209, Value.str (Str.ofString "detect_lost") 210, Value.str (Str.ofString "/claim/cut.py") 211, Value.int 8 0, Value.int 4 0, Value.int 0 0, Value.int 0 0, Value.int 3 0, Value.ref 29, Value.bool true, Value.int 181 0, Value.ref 30, Value.none, Value.ref 31, Value.ref 32, Value.ref 33, Value.int 220 0, Value.int 8 0, Value.str (Str.ofString "/claim/cut.py") 221] } : Obj)) ::
  (nat_lit 35, ({ cls := Value.type "function", data := Data.func { name := Str.ofString "detect_lost", qualname := Str.ofString "detect_lost", params := fdArgs (top 4), body := FuncBody.stmts (fdBody (top 4)), scope := fdScope (top 4), globals := 3, closure := [], defaults := Value.none, kwdefaults := Value.none, pyModule := Value.str (Str.ofString "quic.loss") 194, code := Value.ref 34 } } : Obj)) ::
  (nat_lit 36, ({ cls := Value.type "tuple", data := Data.seq #[] } : Obj)) ::
  (nat_lit 39, ({ cls := Value.type "code", data := Data.fields #[Value.str (Str.ofString "flight_size") 223, Value.str (Str.ofString "flight_size") 224, Value.str (Str.ofString "/claim/cut.py") 225, Value.int 19 0, Value.int 2 0, Value.int 0 0, Value.int 0 0, Value.int 3 0, Value.ref 36, Value.bool true, Value.int 181 0, Value.ref 37, Value.none, Value.none, Value.none, Value.ref 38, Value.int 226 0, Value.int 19 0, Value.str (Str.ofString "/claim/cut.py") 227] } : Obj)) ::
  (nat_lit 40, ({ cls := Value.type "function", data := Data.func { name := Str.ofString "flight_size", qualname := Str.ofString "flight_size", params := fdArgs (top 5), body := FuncBody.stmts (fdBody (top 5)), scope := fdScope (top 5), globals := 3, closure := [], defaults := Value.none, kwdefaults := Value.none, pyModule := Value.str (Str.ofString "quic.loss") 194, code := Value.ref 39 } } : Obj)) ::
  (nat_lit 41, ({ cls := Value.type "tuple", data := Data.seq #[Value.str (Str.ofString "ack") 231, Value.str (Str.ofString "padding") 232, Value.str (Str.ofString "close") 233] } : Obj)) ::
  (nat_lit 42, ({ cls := Value.type "tuple", data := Data.seq #[] } : Obj)) ::
  (nat_lit 44, ({ cls := Value.type "tuple", data := Data.seq #[Value.str (Str.ofString "f") 238] } : Obj)) ::
  (nat_lit 45, ({ cls := Value.type "tuple", data := Data.seq #[] } : Obj)) ::
  (nat_lit 47, ({ cls := Value.type "code", data := Data.fields #[Value.str (Str.ofString "is_eliciting") 235, Value.str (Str.ofString "is_eliciting") 236, Value.str (Str.ofString "/claim/cut.py") 237, Value.int 23 0, Value.int 1 0, Value.int 0 0, Value.int 0 0, Value.int 3 0, Value.ref 42, Value.bool true, Value.int 181 0, Value.ref 43, Value.none, Value.ref 44, Value.ref 45, Value.ref 46, Value.int 239 0, Value.int 23 0, Value.str (Str.ofString "/claim/cut.py") 240] } : Obj)) ::
  (nat_lit 48, ({ cls := Value.type "function", data := Data.func { name := Str.ofString "is_eliciting", qualname := Str.ofString "is_eliciting", params := fdArgs (top 8), body := FuncBody.stmts (fdBody (top 8)), scope := fdScope (top 8), globals := 3, closure := [], defaults := Value.none, kwdefaults := Value.none, pyModule := Value.str (Str.ofString "quic.framerules") 229, code := Value.ref 47 } } : Obj)) ::
  (nat_lit 49, ({ cls := Value.type "tuple", data := Data.seq #[] } : Obj)) ::
  (nat_lit 51, ({ cls := Value.type "tuple", data := Data.seq #[Value.str (Str.ofString "f") 245] } : Obj)) ::
  (nat_lit 52, ({ cls := Value.type "tuple", data := Data.seq #[] } : Obj)) ::
  (nat_lit 54, ({ cls := Value.type "code", data := Data.fields #[Value.str (Str.ofString "counts_in_flight") 242, Value.str (Str.ofString "counts_in_flight") 243, Value.str (Str.ofString "/claim/cut.py") 244, Value.int 25 0, Value.int 1 0, Value.int 0 0, Value.int 0 0, Value.int 3 0, Value.ref 49, Value.bool true, Value.int 181 0, Value.ref 50, Value.none, Value.ref 51, Value.ref 52, Value.ref 53, Value.int 246 0, Value.int 25 0, Value.str (Str.ofString "/claim/cut.py") 247] } : Obj)) ::
  (nat_lit 55, ({ cls := Value.type "function", data := Data.func { name := Str.ofString "counts_in_flight", qualname := Str.ofString "counts_in_flight", params := fdArgs (top 9), body := FuncBody.stmts (fdBody (top 9)), scope := fdScope (top 9), globals := 3, closure := [], defaults := Value.none, kwdefaults := Value.none, pyModule := Value.str (Str.ofString "quic.framerules") 229, code := Value.ref 54 } } : Obj)) ::
  (nat_lit 56, ({ cls := Value.type "tuple", data := Data.seq #[] } : Obj)) ::
  (nat_lit 59, ({ cls := Value.type "code", data := Data.fields #[Value.str (Str.ofString "any_eliciting") 249, Value.str (Str.ofString "any_eliciting") 250, Value.str (Str.ofString "/claim/cut.py") 251, Value.int 27 0, Value.int 1 0, Value.int 0 0, Value.int 0 0, Value.int 3 0, Value.ref 56, Value.bool true, Value.int 181 0, Value.ref 57, Value.none, Value.none, Value.none, Value.ref 58, Value.int 252 0, Value.int 27 0, Value.str (Str.ofString "/claim/cut.py") 253] } : Obj)) ::
  (nat_lit 60, ({ cls := Value.type "function", data := Data.func { name := Str.ofString "any_eliciting", qualname := Str.ofString "any_eliciting", params := fdArgs (top 10), body := FuncBody.stmts (fdBody (top 10)), scope := fdScope (top 10), globals := 3, closure := [], defaults := Value.none, kwdefaults := Value.none, pyModule := Value.str (Str.ofString "quic.framerules") 229, code := Value.ref 59 } } : Obj)) ::
  (nat_lit 61, ({ cls := Value.type "tuple", data := Data.seq #[] } : Obj)) ::
  (nat_lit 64, ({ cls := Value.type "code", data := Data.fields #[Value.str (Str.ofString "any_in_flight") 255, Value.str (Str.ofString "any_in_flight") 256, Value.str (Str.ofString "/claim/cut.py") 257, Value.int 29 0, Value.int 1 0, Value.int 0 0, Value.int 0 0, Value.int 3 0, Value.ref 61, Value.bool true, Value.int 181 0, Value.ref 62, Value.none, Value.none, Value.none, Value.ref 63, Value.int 258 0, Value.int 29 0, Value.str (Str.ofString "/claim/cut.py") 259] } : Obj)) ::
  (nat_lit 65, ({ cls := Value.type "function", data := Data.func { name := Str.ofString "any_in_flight", qualname := Str.ofString "any_in_flight", params := fdArgs (top 11), body := FuncBody.stmts (fdBody (top 11)), scope := fdScope (top 11), globals := 3, closure := [], defaults := Value.none, kwdefaults := Value.none, pyModule := Value.str (Str.ofString "quic.framerules") 229, code := Value.ref 64 } } : Obj)) ::
  (nat_lit 66, ({ cls := Value.type "tuple", data := Data.seq #[] } : Obj)) ::
  (nat_lit 69, ({ cls := Value.type "code", data := Data.fields #[Value.str (Str.ofString "has_number") 263, Value.str (Str.ofString "has_number") 264, Value.str (Str.ofString "/claim/cut.py") 265, Value.int 32 0, Value.int 2 0, Value.int 0 0, Value.int 0 0, Value.int 3 0, Value.ref 66, Value.bool true, Value.int 181 0, Value.ref 67, Value.none, Value.none, Value.none, Value.ref 68, Value.int 266 0, Value.int 32 0, Value.str (Str.ofString "/claim/cut.py") 267] } : Obj)) ::
  (nat_lit 70, ({ cls := Value.type "function", data := Data.func { name := Str.ofString "has_number", qualname := Str.ofString "has_number", params := fdArgs (top 13), body := FuncBody.stmts (fdBody (top 13)), scope := fdScope (top 13), globals := 3, closure := [], defaults := Value.none, kwdefaults := Value.none, pyModule := Value.str (Str.ofString "quic.ranges") 261, code := Value.ref 69 } } : Obj)) ::
  (nat_lit 71, ({ cls := Value.type "tuple", data := Data.seq #[] } : Obj)) ::
  (nat_lit 74, ({ cls := Value.type "code", data := Data.fields #[Value.str (Str.ofString "newly_acked") 269, Value.str (Str.ofString "newly_acked") 270, Value.str (Str.ofString "/claim/cut.py") 271, Value.int 34 0, Value.int 2 0, Value.int 0 0, Value.int 0 0, Value.int 3 0, Value.ref 71, Value.bool true, Value.int 181 0, Value.ref 72, Value.none, Value.none, Value.none, Value.ref 73, Value.int 272 0, Value.int 34 0, Value.str (Str.ofString "/claim/cut.py") 273] } : Obj)) ::
  (nat_lit 75, ({ cls := Value.type "function", data := Data.func { name := Str.ofString "newly_acked", qualname := Str.ofString "newly_acked", params := fdArgs (top 14), body := FuncBody.stmts (fdBody (top 14)), scope := fdScope (top 14), globals := 3, closure := [], defaults := Value.none, kwdefaults := Value.none, pyModule := Value.str (Str.ofString "quic.ranges") 261, code := Value.ref 74 } } : Obj)) ::
  (nat_lit 83, ({ cls := Value.type "tuple", data := Data.seq #[] } : Obj)) ::
  (nat_lit 85, ({ cls := Value.type "tuple", data := Data.seq #[Value.str (Str.ofString "self") 292, Value.str (Str.ofString "number") 293, Value.str (Str.ofString "time") 294, Value.str (Str.ofString "size") 295, Value.str (Str.ofString "frames") 296] } : Obj)) ::
  (nat_lit 86, ({ cls := Value.type "tuple", data := Data.seq #[] } : Obj)) ::
  (nat_lit 88, ({ cls := Value.type "code", data := Data.fields #[Value.str (Str.ofString "__init__") 289, Value.str (Str.ofString "SentPacket.__init__") 290, Value.str (Str.ofString "/claim/cut.py") 291, Value.int 39 0, Value.int 5 0, Value.int 0 0, Value.int 0 0, Value.int 3 0, Value.ref 83, Value.bool true, Value.int 181 0, Value.ref 84, Value.none, Value.ref 85, Value.ref 86, Value.ref 87, Value.int 297 0, Value.int 39 0, Value.str (Str.ofString "/claim/cut.py") 298] } : Obj)) ::
  (nat_lit 89, ({ cls := Value.type "function", data := Data.func { name := Str.ofString "__init__", qualname := Str.ofString "SentPacket.__init__", params := fdArgs (meth 16 0), body := FuncBody.stmts (fdBody (meth 16 0)), scope := fdScope (meth 16 0), globals := 3, closure := [], defaults := Value.none, kwdefaults := Value.none, pyModule := Value.str (Str.ofString "quic.spaces") 275, code := Value.ref 88 } } : Obj)) ::
  (nat_lit 90, ({ cls := Value.type "tuple", data := Data.seq #[Value.str (Str.ofString "frames") 300, Value.str (Str.ofString "in_flight") 301, Value.str (Str.ofString "is_eliciting") 302, Value.str (Str.ofString "number") 303, Value.str (Str.ofString "size") 304, Value.str (Str.ofString "time") 305] } : Obj)) ::
  (nat_lit 91, ({ cls := Value.type "dict", data := Data.dict #[{ hash := PyData.keyHash P (Str.ofString "__module__"), key := Value.str (Str.ofString "__module__") 284, val := Value.str (Str.ofString "quic.spaces") 275 }, { hash := PyData.keyHash P (Str.ofString "__firstlineno__"), key := Value.str (Str.ofString "__firstlineno__") 288, val := Value.int 37 287 }, { hash := PyData.keyHash P (Str.ofString "__init__"), key := Value.str (Str.ofString "__init__") 299, val := Value.ref 89 }, { hash := PyData.keyHash P (Str.ofString "__static_attributes__"), key := Value.str (Str.ofString "__static_attributes__") 306, val := Value.ref 90 }, { hash := PyData.keyHash P (Str.ofString "__dict__"), key := Value.str (Str.ofString "__dict__") 308, val := Value.ref 93 }, { hash := PyData.keyHash P (Str.ofString "__weakref__"), key := Value.str (Str.ofString "__weakref__") 310, val := Value.ref 94 }, { hash := PyData.keyHash P (Str.ofString "__doc__"), key := Value.str (Str.ofString "__doc__") 311, val := Value.none }] 4 } : Obj)) ::
  (nat_lit 92, ({ cls := Value.type "type", data := Data.cls { name := Str.ofString "SentPacket", bases := [Value.type "object"], mro := [Value.ref 92, Value.type "object"], ns := 91, qualname := Str.ofString "SentPacket" }, slots := #[none, none, some (Value.str (Str.ofString "SentPacket") 277), some (Value.str (Str.ofString "SentPacket") 285), some (Value.builtin "object.__new__"), some (Value.bool true)] } : Obj)) ::
  (nat_lit 93, ({ cls := Value.type "getset_descriptor", data := Data.fields #[Value.str (Str.ofString "__dict__") 307, Value.ref 92, Value.builtin "function.__dict__", Value.builtin "function.__dict__#set"] } : Obj)) ::
  (nat_lit 94, ({ cls := Value.type "getset_descriptor", data := Data.fields #[Value.str (Str.ofString "__weakref__") 309, Value.ref 92, Value.builtin "ExceptionGroup.__weakref__", Value.none] } : Obj)) ::
  (nat_lit 104, ({ cls := Value.type "tuple", data := Data.seq #[] } : Obj)) ::
  (nat_lit 106, ({ cls := Value.type "tuple", data := Data.seq #[Value.str (Str.ofString "self") 329, Value.str (Str.ofString "name") 330] } : Obj)) ::
  (nat_lit 107, ({ cls := Value.type "tuple", data := Data.seq #[] } : Obj)) ::
  (nat_lit 109, ({ cls := Value.type "code", data := Data.fields #[Value.str (Str.ofString "__init__") 326, Value.str (Str.ofString "Space.__init__") 327, Value.str (Str.ofString "/claim/cut.py") 328, Value.int 48 0, Value.int 2 0, Value.int 0 0, Value.int 0 0, Value.int 3 0, Value.ref 104, Value.bool true, Value.int 181 0, Value.ref 105, Value.none, Value.ref 106, Value.ref 107, Value.ref 108, Value.int 331 0, Value.int 48 0, Value.str (Str.ofString "/claim/cut.py") 332] } : Obj)) ::
  (nat_lit 110, ({ cls := Value.type "function", data := Data.func { name := Str.ofString "__init__", qualname := Str.ofString "Space.__init__", params := fdArgs (meth 17 0), body := FuncBody.stmts (fdBody (meth 17 0)), scope := fdScope (meth 17 0), globals := 3, closure := [], defaults := Value.none, kwdefaults := Value.none, pyModule := Value.str (Str.ofString "quic.spaces") 275, code := Value.ref 109 } } : Obj)) ::
  (nat_lit 111, ({ cls := Value.type "tuple", data := Data.seq #[] } : Obj)) ::
  (nat_lit 113, ({ cls := Value.type "tuple", data := Data.seq #[Value.str (Str.ofString "self") 337, Value.str (Str.ofString "number") 338] } : Obj)) ::
  (nat_lit 114, ({ cls := Value.type "tuple", data := Data.seq #[] } : Obj)) ::
  (nat_lit 116, ({ cls := Value.type "code", data := Data.fields #[Value.str (Str.ofString "is_known") 334, Value.str (Str.ofString "Space.is_known") 335, Value.str (Str.ofString "/claim/cut.py") 336, Value.int 67 0, Value.int 2 0, Value.int 0 0, Value.int 0 0, Value.int 3 0, Value.ref 111, Value.bool true, Value.int 181 0, Value.ref 112, Value.none, Value.ref 113, Value.ref 114, Value.ref 115, Value.int 339 0, Value.int 67 0, Value.str (Str.ofString "/claim/cut.py") 340] } : Obj)) ::
  (nat_lit 117, ({ cls := Value.type "function", data := Data.func { name := Str.ofString "is_known", qualname := Str.ofString "Space.is_known", params := fdArgs (meth 17 1), body := FuncBody.stmts (fdBody (meth 17 1)), scope := fdScope (meth 17 1), globals := 3, closure := [], defaults := Value.none, kwdefaults := Value.none, pyModule := Value.str (Str.ofString "quic.spaces") 275, code := Value.ref 116 } } : Obj)) ::
  (nat_lit 118, ({ cls := Value.type "tuple", data := Data.seq #[] } : Obj)) ::
  (nat_lit 120, ({ cls := Value.type "tuple", data := Data.seq #[Value.str (Str.ofString "self") 345, Value.str (Str.ofString "number") 346, Value.str (Str.ofString "now") 347, Value.str (Str.ofString "has_eliciting") 348, Value.str (Str.ofString "mark") 349] } : Obj)) ::
  (nat_lit 121, ({ cls := Value.type "tuple", data := Data.seq #[] } : Obj)) ::
  (nat_lit 123, ({ cls := Value.type "code", data := Data.fields #[Value.str (Str.ofString "on_received") 342, Value.str (Str.ofString "Space.on_received") 343, Value.str (Str.ofString "/claim/cut.py") 344, Value.int 70 0, Value.int 5 0, Value.int 0 0, Value.int 0 0, Value.int 3 0, Value.ref 118, Value.bool true, Value.int 181 0, Value.ref 119, Value.none, Value.ref 120, Value.ref 121, Value.ref 122, Value.int 350 0, Value.int 70 0, Value.str (Str.ofString "/claim/cut.py") 351] } : Obj)) ::
  (nat_lit 124, ({ cls := Value.type "function", data := Data.func { name := Str.ofString "on_received", qualname := Str.ofString "Space.on_received", params := fdArgs (meth 17 2), body := FuncBody.stmts (fdBody (meth 17 2)), scope := fdScope (meth 17 2), globals := 3, closure := [], defaults := Value.none, kwdefaults := Value.none, pyModule := Value.str (Str.ofString "quic.spaces") 275, code := Value.ref 123 } } : Obj)) ::
  (nat_lit 125, ({ cls := Value.type "tuple", data := Data.seq #[] } : Obj)) ::
  (nat_lit 127, ({ cls := Value.type "tuple", data := Data.seq #[Value.str (Str.ofString "self") 356, Value.str (Str.ofString "now") 357, Value.str (Str.ofString "exponent") 358] } : Obj)) ::
  (nat_lit 128, ({ cls := Value.type "tuple", data := Data.seq #[] } : Obj)) ::
  (nat_lit 130, ({ cls := Value.type "code", data := Data.fields #[Value.str (Str.ofString "ack_frame") 353, Value.str (Str.ofString "Space.ack_frame") 354, Value.str (Str.ofString "/claim/cut.py") 355, Value.int 73 0, Value.int 3 0, Value.int 0 0, Value.int 0 0, Value.int 3 0, Value.ref 125, Value.bool true, Value.int 181 0, Value.ref 126, Value.none, Value.ref 127, Value.ref 128, Value.ref 129, Value.int 359 0, Value.int 73 0, Value.str (Str.ofString "/claim/cut.py") 360] } : Obj)) ::
  (nat_lit 131, ({ cls := Value.type "function", data := Data.func { name := Str.ofString "ack_frame", qualname := Str.ofString "Space.ack_frame", params := fdArgs (meth 17 3), body := FuncBody.stmts (fdBody (meth 17 3)), scope := fdScope (meth 17 3), globals := 3, closure := [], defaults := Value.none, kwdefaults := Value.none, pyModule := Value.str (Str.ofString "quic.spaces") 275, code := Value.ref 130 } } : Obj)) ::
  (nat_lit 132, ({ cls := Value.type "tuple", data := Data.seq #[] } : Obj)) ::
  (nat_lit 134, ({ cls := Value.type "tuple", data := Data.seq #[Value.str (Str.ofString "self") 365] } : Obj)) ::
  (nat_lit 135, ({ cls := Value.type "tuple", data := Data.seq #[] } : Obj)) ::
  (nat_lit 137, ({ cls := Value.type "code", data := Data.fields #[Value.str (Str.ofString "on_ack_sent") 362, Value.str (Str.ofString "Space.on_ack_sent") 363, Value.str (Str.ofString "/claim/cut.py") 364, Value.int 76 0, Value.int 1 0, Value.int 0 0, Value.int 0 0, Value.int 3 0, Value.ref 132, Value.bool true, Value.int 181 0, Value.ref 133, Value.none, Value.ref 134, Value.ref 135, Value.ref 136, Value.int 366 0, Value.int 76 0, Value.str (Str.ofString "/claim/cut.py") 367] } : Obj)) ::
  (nat_lit 138, ({ cls := Value.type "function", data := Data.func { name := Str.ofString "on_ack_sent", qualname := Str.ofString "Space.on_ack_sent", params := fdArgs (meth 17 4), body := FuncBody.stmts (fdBody (meth 17 4)), scope := fdScope (meth 17 4), globals := 3, closure := [], defaults := Value.none, kwdefaults := Value.none, pyModule := Value.str (Str.ofString "quic.spaces") 275, code := Value.ref 137 } } : Obj)) ::
  (nat_lit 139, ({ cls := Value.type "tuple", data := Data.seq #[] } : Obj)) ::
  (nat_lit 141, ({ cls := Value.type "tuple", data := Data.seq #[Value.str (Str.ofString "self") 372] } : Obj)) ::
  (nat_lit 142, ({ cls := Value.type "tuple", data := Data.seq #[] } : Obj)) ::
  (nat_lit 144, ({ cls := Value.type "code", data := Data.fields #[Value.str (Str.ofString "owes_ack") 369, Value.str (Str.ofString "Space.owes_ack") 370, Value.str (Str.ofString "/claim/cut.py") 371, Value.int 79 0, Value.int 1 0, Value.int 0 0, Value.int 0 0, Value.int 3 0, Value.ref 139, Value.bool true, Value.int 181 0, Value.ref 140, Value.none, Value.ref 141, Value.ref 142, Value.ref 143, Value.int 373 0, Value.int 79 0, Value.str (Str.ofString "/claim/cut.py") 374] } : Obj)) ::
  (nat_lit 145, ({ cls := Value.type "function", data := Data.func { name := Str.ofString "owes_ack", qualname := Str.ofString "Space.owes_ack", params := fdArgs (meth 17 5), body := FuncBody.stmts (fdBody (meth 17 5)), scope := fdScope (meth 17 5), globals := 3, closure := [], defaults := Value.none, kwdefaults := Value.none, pyModule := Value.str (Str.ofString "quic.spaces") 275, code := Value.ref 144 } } : Obj)) ::
  (nat_lit 146, ({ cls := Value.type "tuple", data := Data.seq #[] } : Obj)) ::
  (nat_lit 148, ({ cls := Value.type "tuple", data := Data.seq #[Value.str (Str.ofString "self") 379] } : Obj)) ::
  (nat_lit 149, ({ cls := Value.type "tuple", data := Data.seq #[] } : Obj)) ::
  (nat_lit 151, ({ cls := Value.type "code", data := Data.fields #[Value.str (Str.ofString "take_number") 376, Value.str (Str.ofString "Space.take_number") 377, Value.str (Str.ofString "/claim/cut.py") 378, Value.int 82 0, Value.int 1 0, Value.int 0 0, Value.int 0 0, Value.int 3 0, Value.ref 146, Value.bool true, Value.int 181 0, Value.ref 147, Value.none, Value.ref 148, Value.ref 149, Value.ref 150, Value.int 380 0, Value.int 82 0, Value.str (Str.ofString "/claim/cut.py") 381] } : Obj)) ::
  (nat_lit 152, ({ cls := Value.type "function", data := Data.func { name := Str.ofString "take_number", qualname := Str.ofString "Space.take_number", params := fdArgs (meth 17 6), body := FuncBody.stmts (fdBody (meth 17 6)), scope := fdScope (meth 17 6), globals := 3, closure := [], defaults := Value.none, kwdefaults := Value.none, pyModule := Value.str (Str.ofString "quic.spaces") 275, code := Value.ref 151 } } : Obj)) ::
  (nat_lit 153, ({ cls := Value.type "tuple", data := Data.seq #[] } : Obj)) ::
  (nat_lit 155, ({ cls := Value.type "tuple", data := Data.seq #[Value.str (Str.ofString "self") 386, Value.str (Str.ofString "number") 387, Value.str (Str.ofString "now") 388, Value.str (Str.ofString "size") 389, Value.str (Str.ofString "frames") 390, Value.str (Str.ofString "packet") 391] } : Obj)) ::
  (nat_lit 156, ({ cls := Value.type "tuple", data := Data.seq #[] } : Obj)) ::
  (nat_lit 158, ({ cls := Value.type "code", data := Data.fields #[Value.str (Str.ofString "on_sent") 383, Value.str (Str.ofString "Space.on_sent") 384, Value.str (Str.ofString "/claim/cut.py") 385, Value.int 86 0, Value.int 5 0, Value.int 0 0, Value.int 0 0, Value.int 3 0, Value.ref 153, Value.bool true, Value.int 181 0, Value.ref 154, Value.none, Value.ref 155, Value.ref 156, Value.ref 157, Value.int 392 0, Value.int 86 0, Value.str (Str.ofString "/claim/cut.py") 393] } : Obj)) ::
  (nat_lit 159, ({ cls := Value.type "function", data := Data.func { name := Str.ofString "on_sent", qualname := Str.ofString "Space.on_sent", params := fdArgs (meth 17 7), body := FuncBody.stmts (fdBody (meth 17 7)), scope := fdScope (meth 17 7), globals := 3, closure := [], defaults := Value.none, kwdefaults := Value.none, pyModule := Value.str (Str.ofString "quic.spaces") 275, code := Value.ref 158 } } : Obj)) ::
  (nat_lit 160, ({ cls := Value.type "tuple", data := Data.seq #[] } : Obj)) ::
  (nat_lit 163, ({ cls := Value.type "code", data := Data.fields #[Value.str (Str.ofString "take") 395, Value.str (Str.ofString "Space.take") 396, Value.str (Str.ofString "/claim/cut.py") 397, Value.int 93 0, Value.int 2 0, Value.int 0 0, Value.int 0 0, Value.int 3 0, Value.ref 160, Value.bool true, Value.int 181 0, Value.ref 161, Value.none, Value.none, Value.none, Value.ref 162, Value.int 398 0, Value.int 93 0, Value.str (Str.ofString "/claim/cut.py") 399] } : Obj)) ::
  (nat_lit 164, ({ cls := Value.type "function", data := Data.func { name := Str.ofString "take", qualname := Str.ofString "Space.take", params := fdArgs (meth 17 8), body := FuncBody.stmts (fdBody (meth 17 8)), scope := fdScope (meth 17 8), globals := 3, closure := [], defaults := Value.none, kwdefaults := Value.none, pyModule := Value.str (Str.ofString "quic.spaces") 275, code := Value.ref 163 } } : Obj)) ::
  (nat_lit 165, ({ cls := Value.type "tuple", data := Data.seq #[] } : Obj)) ::
  (nat_lit 167, ({ cls := Value.type "tuple", data := Data.seq #[Value.str (Str.ofString "self") 404, Value.str (Str.ofString "ranges") 405] } : Obj)) ::
  (nat_lit 168, ({ cls := Value.type "tuple", data := Data.seq #[] } : Obj)) ::
  (nat_lit 170, ({ cls := Value.type "code", data := Data.fields #[Value.str (Str.ofString "acked_by") 401, Value.str (Str.ofString "Space.acked_by") 402, Value.str (Str.ofString "/claim/cut.py") 403, Value.int 97 0, Value.int 2 0, Value.int 0 0, Value.int 0 0, Value.int 3 0, Value.ref 165, Value.bool true, Value.int 181 0, Value.ref 166, Value.none, Value.ref 167, Value.ref 168, Value.ref 169, Value.int 406 0, Value.int 97 0, Value.str (Str.ofString "/claim/cut.py") 407] } : Obj)) ::
  (nat_lit 171, ({ cls := Value.type "function", data := Data.func { name := Str.ofString "acked_by", qualname := Str.ofString "Space.acked_by", params := fdArgs (meth 17 9), body := FuncBody.stmts (fdBody (meth 17 9)), scope := fdScope (meth 17 9), globals := 3, closure := [], defaults := Value.none, kwdefaults := Value.none, pyModule := Value.str (Str.ofString "quic.spaces") 275, code := Value.ref 170 } } : Obj)) ::
  (nat_lit 172, ({ cls := Value.type "tuple", data := Data.seq #[] } : Obj)) ::
  (nat_lit 174, ({ cls := Value.type "tuple", data := Data.seq #[Value.str (Str.ofString "self") 412, Value.str (Str.ofString "numbers") 413] } : Obj)) ::
  (nat_lit 175, ({ cls := Value.type "tuple", data := Data.seq #[] } : Obj)) ::
  (nat_lit 177, ({ cls := Value.type "code", data := Data.fields #[Value.str (Str.ofString "note_acked") 409, Value.str (Str.ofString "Space.note_acked") 410, Value.str (Str.ofString "/claim/cut.py") 411, Value.int 100 0, Value.int 2 0, Value.int 0 0, Value.int 0 0, Value.int 3 0, Value.ref 172, Value.bool true, Value.int 181 0, Value.ref 173, Value.none, Value.ref 174, Value.ref 175, Value.ref 176, Value.int 414 0, Value.int 100 0, Value.str (Str.ofString "/claim/cut.py") 415] } : Obj)) ::
  (nat_lit 178, ({ cls := Value.type "function", data := Data.func { name := Str.ofString "note_acked", qualname := Str.ofString "Space.note_acked", params := fdArgs (meth 17 10), body := FuncBody.stmts (fdBody (meth 17 10)), scope := fdScope (meth 17 10), globals := 3, closure := [], defaults := Value.none, kwdefaults := Value.none, pyModule := Value.str (Str.ofString "quic.spaces") 275, code := Value.ref 177 } } : Obj)) ::
  (nat_lit 179, ({ cls := Value.type "tuple", data := Data.seq #[] } : Obj)) ::
  (nat_lit 181, ({ cls := Value.type "tuple", data := Data.seq #[Value.str (Str.ofString "self") 420, Value.str (Str.ofString "ranges") 421] } : Obj)) ::
  (nat_lit 182, ({ cls := Value.type "tuple", data := Data.seq #[] } : Obj)) ::
  (nat_lit 184, ({ cls := Value.type "code", data := Data.fields #[Value.str (Str.ofString "note_ranges") 417, Value.str (Str.ofString "Space.note_ranges") 418, Value.str (Str.ofString "/claim/cut.py") 419, Value.int 103 0, Value.int 2 0, Value.int 0 0, Value.int 0 0, Value.int 3 0, Value.ref 179, Value.bool true, Value.int 181 0, Value.ref 180, Value.none, Value.ref 181, Value.ref 182, Value.ref 183, Value.int 422 0, Value.int 103 0, Value.str (Str.ofString "/claim/cut.py") 423] } : Obj)) ::
  (nat_lit 185, ({ cls := Value.type "function", data := Data.func { name := Str.ofString "note_ranges", qualname := Str.ofString "Space.note_ranges", params := fdArgs (meth 17 11), body := FuncBody.stmts (fdBody (meth 17 11)), scope := fdScope (meth 17 11), globals := 3, closure := [], defaults := Value.none, kwdefaults := Value.none, pyModule := Value.str (Str.ofString "quic.spaces") 275, code := Value.ref 184 } } : Obj)) ::
  (nat_lit 186, ({ cls := Value.type "tuple", data := Data.seq #[] } : Obj)) ::
  (nat_lit 188, ({ cls := Value.type "tuple", data := Data.seq #[Value.str (Str.ofString "self") 428, Value.str (Str.ofString "ranges") 429] } : Obj)) ::
  (nat_lit 189, ({ cls := Value.type "tuple", data := Data.seq #[] } : Obj)) ::
  (nat_lit 191, ({ cls := Value.type "code", data := Data.fields #[Value.str (Str.ofString "is_beyond") 425, Value.str (Str.ofString "Space.is_beyond") 426, Value.str (Str.ofString "/claim/cut.py") 427, Value.int 106 0, Value.int 2 0, Value.int 0 0, Value.int 0 0, Value.int 3 0, Value.ref 186, Value.bool true, Value.int 181 0, Value.ref 187, Value.none, Value.ref 188, Value.ref 189, Value.ref 190, Value.int 430 0, Value.int 106 0, Value.str (Str.ofString "/claim/cut.py") 431] } : Obj)) ::
  (nat_lit 192, ({ cls := Value.type "function", data := Data.func { name := Str.ofString "is_beyond", qualname := Str.ofString "Space.is_beyond", params := fdArgs (meth 17 12), body := FuncBody.stmts (fdBody (meth 17 12)), scope := fdScope (meth 17 12), globals := 3, closure := [], defaults := Value.none, kwdefaults := Value.none, pyModule := Value.str (Str.ofString "quic.spaces") 275, code := Value.ref 191 } } : Obj)) ::
  (nat_lit 193, ({ cls := Value.type "tuple", data := Data.seq #[] } : Obj)) ::
  (nat_lit 195, ({ cls := Value.type "tuple", data := Data.seq #[Value.str (Str.ofString "self") 436, Value.str (Str.ofString "number") 437] } : Obj)) ::
  (nat_lit 196, ({ cls := Value.type "tuple", data := Data.seq #[] } : Obj)) ::
  (nat_lit 198, ({ cls := Value.type "code", data := Data.fields #[Value.str (Str.ofString "note_largest") 433, Value.str (Str.ofString "Space.note_largest") 434, Value.str (Str.ofString "/claim/cut.py") 435, Value.int 109 0, Value.int 2 0, Value.int 0 0, Value.int 0 0, Value.int 3 0, Value.ref 193, Value.bool true, Value.int 181 0, Value.ref 194, Value.none, Value.ref 195, Value.ref 196, Value.ref 197, Value.int 438 0, Value.int 109 0, Value.str (Str.ofString "/claim/cut.py") 439] } : Obj)) ::
  (nat_lit 199, ({ cls := Value.type "function", data := Data.func { name := Str.ofString "note_largest", qualname := Str.ofString "Space.note_largest", params := fdArgs (meth 17 13), body := FuncBody.stmts (fdBody (meth 17 13)), scope := fdScope (meth 17 13), globals := 3, closure := [], defaults := Value.none, kwdefaults := Value.none, pyModule := Value.str (Str.ofString "quic.spaces") 275, code := Value.ref 198 } } : Obj)) ::
  (nat_lit 200, ({ cls := Value.type "tuple", data := Data.seq #[] } : Obj)) ::
  (nat_lit 202, ({ cls := Value.type "tuple", data := Data.seq #[Value.str (Str.ofString "self") 444] } : Obj)) ::
  (nat_lit 203, ({ cls := Value.type "tuple", data := Data.seq #[] } : Obj)) ::
  (nat_lit 205, ({ cls := Value.type "code", data := Data.fields #[Value.str (Str.ofString "eliciting_left") 441, Value.str (Str.ofString "Space.eliciting_left") 442, Value.str (Str.ofString "/claim/cut.py") 443, Value.int 113 0, Value.int 1 0, Value.int 0 0, Value.int 0 0, Value.int 3 0, Value.ref 200, Value.bool true, Value.int 181 0, Value.ref 201, Value.none, Value.ref 202, Value.ref 203, Value.ref 204, Value.int 445 0, Value.int 113 0, Value.str (Str.ofString "/claim/cut.py") 446] } : Obj)) ::
  (nat_lit 206, ({ cls := Value.type "function", data := Data.func { name := Str.ofString "eliciting_left", qualname := Str.ofString "Space.eliciting_left", params := fdArgs (meth 17 14), body := FuncBody.stmts (fdBody (meth 17 14)), scope := fdScope (meth 17 14), globals := 3, closure := [], defaults := Value.none, kwdefaults := Value.none, pyModule := Value.str (Str.ofString "quic.spaces") 275, code := Value.ref 205 } } : Obj)) ::
  (nat_lit 207, ({ cls := Value.type "tuple", data := Data.seq #[] } : Obj)) ::
  (nat_lit 209, ({ cls := Value.type "tuple", data := Data.seq #[Value.str (Str.ofString "self") 451] } : Obj)) ::
  (nat_lit 210, ({ cls := Value.type "tuple", data := Data.seq #[] } : Obj)) ::
  (nat_lit 212, ({ cls := Value.type "code", data := Data.fields #[Value.str (Str.ofString "bare_numbers") 448, Value.str (Str.ofString "Space.bare_numbers") 449, Value.str (Str.ofString "/claim/cut.py") 450, Value.int 116 0, Value.int 1 0, Value.int 0 0, Value.int 0 0, Value.int 3 0, Value.ref 207, Value.bool true, Value.int 181 0, Value.ref 208, Value.none, Value.ref 209, Value.ref 210, Value.ref 211, Value.int 452 0, Value.int 116 0, Value.str (Str.ofString "/claim/cut.py") 453] } : Obj)) ::
  (nat_lit 213, ({ cls := Value.type "function", data := Data.func { name := Str.ofString "bare_numbers", qualname := Str.ofString "Space.bare_numbers", params := fdArgs (meth 17 15), body := FuncBody.stmts (fdBody (meth 17 15)), scope := fdScope (meth 17 15), globals := 3, closure := [], defaults := Value.none, kwdefaults := Value.none, pyModule := Value.str (Str.ofString "quic.spaces") 275, code := Value.ref 212 } } : Obj)) ::
  (nat_lit 214, ({ cls := Value.type "tuple", data := Data.seq #[] } : Obj)) ::
  (nat_lit 217, ({ cls := Value.type "code", data := Data.fields #[Value.str (Str.ofString "octets_out") 455, Value.str (Str.ofString "Space.octets_out") 456, Value.str (Str.ofString "/claim/cut.py") 457, Value.int 119 0, Value.int 1 0, Value.int 0 0, Value.int 0 0, Value.int 3 0, Value.ref 214, Value.bool true, Value.int 181 0, Value.ref 215, Value.none, Value.none, Value.none, Value.ref 216, Value.int 458 0, Value.int 119 0, Value.str (Str.ofString "/claim/cut.py") 459] } : Obj)) ::
  (nat_lit 218, ({ cls := Value.type "function", data := Data.func { name := Str.ofString "octets_out", qualname := Str.ofString "Space.octets_out", params := fdArgs (meth 17 16), body := FuncBody.stmts (fdBody (meth 17 16)), scope := fdScope (meth 17 16), globals := 3, closure := [], defaults := Value.none, kwdefaults := Value.none, pyModule := Value.str (Str.ofString "quic.spaces") 275, code := Value.ref 217 } } : Obj)) ::
  (nat_lit 219, ({ cls := Value.type "tuple", data := Data.seq #[] } : Obj)) ::
  (nat_lit 221, ({ cls := Value.type "tuple", data := Data.seq #[Value.str (Str.ofString "self") 464, Value.str (Str.ofString "found") 465, Value.str (Str.ofString "number") 466, Value.str (Str.ofString "packet") 467] } : Obj)) ::
  (nat_lit 222, ({ cls := Value.type "tuple", data := Data.seq #[] } : Obj)) ::
  (nat_lit 224, ({ cls := Value.type "code", data := Data.fields #[Value.str (Str.ofString "sent_rows") 461, Value.str (Str.ofString "Space.sent_rows") 462, Value.str (Str.ofString "/claim/cut.py") 463, Value.int 122 0, Value.int 1 0, Value.int 0 0, Value.int 0 0, Value.int 3 0, Value.ref 219, Value.bool true, Value.int 181 0, Value.ref 220, Value.none, Value.ref 221, Value.ref 222, Value.ref 223, Value.int 468 0, Value.int 122 0, Value.str (Str.ofString "/claim/cut.py") 469] } : Obj)) ::
  (nat_lit 225, ({ cls := Value.type "function", data := Data.func { name := Str.ofString "sent_rows", qualname := Str.ofString "Space.sent_rows", params := fdArgs (meth 17 17), body := FuncBody.stmts (fdBody (meth 17 17)), scope := fdScope (meth 17 17), globals := 3, closure := [], defaults := Value.none, kwdefaults := Value.none, pyModule := Value.str (Str.ofString "quic.spaces") 275, code := Value.ref 224 } } : Obj)) ::
  (nat_lit 226, ({ cls := Value.type "tuple", data := Data.seq #[] } : Obj)) ::
  (nat_lit 228, ({ cls := Value.type "tuple", data := Data.seq #[Value.str (Str.ofString "self") 474] } : Obj)) ::
  (nat_lit 229, ({ cls := Value.type "tuple", data := Data.seq #[] } : Obj)) ::
  (nat_lit 231, ({ cls := Value.type "code", data := Data.fields #[Value.str (Str.ofString "forget") 471, Value.str (Str.ofString "Space.forget") 472, Value.str (Str.ofString "/claim/cut.py") 473, Value.int 129 0, Value.int 1 0, Value.int 0 0, Value.int 0 0, Value.int 3 0, Value.ref 226, Value.bool true, Value.int 181 0, Value.ref 227, Value.none, Value.ref 228, Value.ref 229, Value.ref 230, Value.int 475 0, Value.int 129 0, Value.str (Str.ofString "/claim/cut.py") 476] } : Obj)) ::
  (nat_lit 232, ({ cls := Value.type "function", data := Data.func { name := Str.ofString "forget", qualname := Str.ofString "Space.forget", params := fdArgs (meth 17 18), body := FuncBody.stmts (fdBody (meth 17 18)), scope := fdScope (meth 17 18), globals := 3, closure := [], defaults := Value.none, kwdefaults := Value.none, pyModule := Value.str (Str.ofString "quic.spaces") 275, code := Value.ref 231 } } : Obj)) ::
  (nat_lit 233, ({ cls := Value.type "tuple", data := Data.seq #[Value.str (Str.ofString "acked") 478, Value.str (Str.ofString "ecn") 479, Value.str (Str.ofString "first_unacked") 480, Value.str (Str.ofString "floor") 481, Value.str (Str.ofString "has_new") 482, Value.str (Str.ofString "is_gone") 483, Value.str (Str.ofString "largest_acked") 484, Value.str (Str.ofString "largest_seen") 485, Value.str (Str.ofString "largest_time") 486, Value.str (Str.ofString "last_eliciting_time") 487, Value.str (Str.ofString "loss_time") 488, Value.str (Str.ofString "name") 489, Value.str (Str.ofString "next_number") 490, Value.str (Str.ofString "received") 491, Value.str (Str.ofString "sent") 492, Value.str (Str.ofString "unacked") 493, Value.str (Str.ofString "wants_now") 494] } : Obj)) ::
  (nat_lit 234, ({ cls := Value.type "dict", data := Data.dict #[{ hash := PyData.keyHash P (Str.ofString "__module__"), key := Value.str (Str.ofString "__module__") 321, val := Value.str (Str.ofString "quic.spaces") 275 }, { hash := PyData.keyHash P (Str.ofString "__firstlineno__"), key := Value.str (Str.ofString "__firstlineno__") 325, val := Value.int 46 324 }, { hash := PyData.keyHash P (Str.ofString "__init__"), key := Value.str (Str.ofString "__init__") 333, val := Value.ref 110 }, { hash := PyData.keyHash P (Str.ofString "is_known"), key := Value.str (Str.ofString "is_known") 341, val := Value.ref 117 }, { hash := PyData.keyHash P (Str.ofString "on_received"), key := Value.str (Str.ofString "on_received") 352, val := Value.ref 124 }, { hash := PyData.keyHash P (Str.ofString "ack_frame"), key := Value.str (Str.ofString "ack_frame") 361, val := Value.ref 131 }, { hash := PyData.keyHash P (Str.ofString "on_ack_sent"), key := Value.str (Str.ofString "on_ack_sent") 368, val := Value.ref 138 }, { hash := PyData.keyHash P (Str.ofString "owes_ack"), key := Value.str (Str.ofString "owes_ack") 375, val := Value.ref 145 }, { hash := PyData.keyHash P (Str.ofString "take_number"), key := Value.str (Str.ofString "take_number") 382, val := Value.ref 152 }, { hash := PyData.keyHash P (Str.ofString "on_sent"), key := Value.str (Str.ofString "on_sent") 394, val := Value.ref 159 }, { hash := PyData.keyHash P (Str.ofString "take"), key := Value.str (Str.ofString "take") 400, val := Value.ref 164 }, { hash := PyData.keyHash P (Str.ofString "acked_by"), key := Value.str (Str.ofString "acked_by") 408, val := Value.ref 171 }, { hash := PyData.keyHash P (Str.ofString "note_acked"), key := Value.str (Str.ofString "note_acked") 416, val := Value.ref 178 }, { hash := PyData.keyHash P (Str.ofString "note_ranges"), key := Value.str (Str.ofString "note_ranges") 424, val := Value.ref 185 }, { hash := PyData.keyHash P (Str.ofString "is_beyond"), key := Value.str (Str.ofString "is_beyond") 432, val := Value.ref 192 }, { hash := PyData.keyHash P (Str.ofString "note_largest"), key := Value.str (Str.ofString "note_largest") 440, val := Value.ref 199 }, { hash := PyData.keyHash P (Str.ofString "eliciting_left"), key := Value.str (Str.ofString "eliciting_left") 447, val := Value.ref 206 }, { hash := PyData.keyHash P (Str.ofString "bare_numbers"), key := Value.str (Str.ofString "bare_numbers") 454, val := Value.ref 213 }, { hash := PyData.keyHash P (Str.ofString "octets_out"), key := Value.str (Str.ofString "octets_out") 460, val := Value.ref 218 }, { hash := PyData.keyHash P (Str.ofString "sent_rows"), key := Value.str (Str.ofString "sent_rows") 470, val := Value.ref 225 }, { hash := PyData.keyHash P (Str.ofString "forget"), key := Value.str (Str.ofString "forget") 477, val := Value.ref 232 }, { hash := PyData.keyHash P (Str.ofString "__static_attributes__"), key := Value.str (Str.ofString "__static_attributes__") 495, val := Value.ref 233 }, { hash := PyData.keyHash P (Str.ofString "__dict__"), key := Value.str (Str.ofString "__dict__") 497, val := Value.ref 236 }, { hash := PyData.keyHash P (Str.ofString "__weakref__"), key := Value.str (Str.ofString "__weakref__") 499, val := Value.ref 237 }, { hash := PyData.keyHash P (Str.ofString "__doc__"), key := Value.str (Str.ofString "__doc__") 500, val := Value.none }] 4 } : Obj)) ::
  (nat_lit 235, ({ cls := Value.type "type", data := Data.cls { name := Str.ofString "Space", bases := [Value.type "object"], mro := [Value.ref 235, Value.type "object"], ns := 234, qualname := Str.ofString "Space" }, slots := #[none, none, some (Value.str (Str.ofString "Space") 314), some (Value.str (Str.ofString "Space") 322), some (Value.builtin "object.__new__"), some (Value.bool true)] } : Obj)) ::
  (nat_lit 236, ({ cls := Value.type "getset_descriptor", data := Data.fields #[Value.str (Str.ofString "__dict__") 496, Value.ref 235, Value.builtin "function.__dict__", Value.builtin "function.__dict__#set"] } : Obj)) ::
  (nat_lit 237, ({ cls := Value.type "getset_descriptor", data := Data.fields #[Value.str (Str.ofString "__weakref__") 498, Value.ref 235, Value.builtin "ExceptionGroup.__weakref__", Value.none] } : Obj)) ::
  (nat_lit 240, ({ cls := Value.type "tuple", data := Data.seq #[] } : Obj)) ::
  (nat_lit 242, ({ cls := Value.type "tuple", data := Data.seq #[Value.str (Str.ofString "box") 508, Value.str (Str.ofString "many") 509] } : Obj)) ::
  (nat_lit 243, ({ cls := Value.type "tuple", data := Data.seq #[] } : Obj)) ::
  (nat_lit 245, ({ cls := Value.type "code", data := Data.fields #[Value.str (Str.ofString "_law_take") 505, Value.str (Str.ofString "_law_take") 506, Value.str (Str.ofString "/claim/cut.py") 507, Value.int 132 0, Value.int 2 0, Value.int 0 0, Value.int 0 0, Value.int 3 0, Value.ref 240, Value.bool true, Value.int 181 0, Value.ref 241, Value.none, Value.ref 242, Value.ref 243, Value.ref 244, Value.int 510 0, Value.int 132 0, Value.str (Str.ofString "/claim/cut.py") 511] } : Obj)) ::
  (nat_lit 246, ({ cls := Value.type "function", data := Data.func { name := Str.ofString "_law_take", qualname := Str.ofString "_law_take", params := fdArgs (top 19), body := FuncBody.stmts (fdBody (top 19)), scope := fdScope (top 19), globals := 3, closure := [], defaults := Value.none, kwdefaults := Value.none, pyModule := Value.str (Str.ofString "law_sa0568_01") 503, code := Value.ref 245 } } : Obj)) ::
  (nat_lit 247, ({ cls := Value.type "tuple", data := Data.seq #[] } : Obj)) ::
  (nat_lit 250, ({ cls := Value.type "code", data := Data.fields #[Value.str (Str.ofString "_law_run") 513, Value.str (Str.ofString "_law_run") 514, Value.str (Str.ofString "/claim/cut.py") 515, Value.int 137 0, Value.int 3 0, Value.int 0 0, Value.int 0 0, Value.int 3 0, Value.ref 247, Value.bool true, Value.int 181 0, Value.ref 248, Value.none, Value.none, Value.none, Value.ref 249, Value.int 516 0, Value.int 137 0, Value.str (Str.ofString "/claim/cut.py") 517] } : Obj)) ::
  (nat_lit 251, ({ cls := Value.type "function", data := Data.func { name := Str.ofString "_law_run", qualname := Str.ofString "_law_run", params := fdArgs (top 20), body := FuncBody.stmts (fdBody (top 20)), scope := fdScope (top 20), globals := 3, closure := [], defaults := Value.none, kwdefaults := Value.none, pyModule := Value.str (Str.ofString "law_sa0568_01") 503, code := Value.ref 250 } } : Obj)) ::
  (nat_lit 252, ({ cls := Value.type "tuple", data := Data.seq #[] } : Obj)) ::
  (nat_lit 255, ({ cls := Value.type "code", data := Data.fields #[Value.str (Str.ofString "law") 519, Value.str (Str.ofString "law") 520, Value.str (Str.ofString "/claim/cut.py") 521, Value.int 160 0, Value.int 1 0, Value.int 0 0, Value.int 0 0, Value.int 3 0, Value.ref 252, Value.bool true, Value.int 181 0, Value.ref 253, Value.none, Value.none, Value.none, Value.ref 254, Value.int 522 0, Value.int 160 0, Value.str (Str.ofString "/claim/cut.py") 523] } : Obj)) ::
  (nat_lit 256, ({ cls := Value.type "function", data := Data.func { name := Str.ofString "law", qualname := Str.ofString "law", params := fdArgs (top 21), body := FuncBody.stmts (fdBody (top 21)), scope := fdScope (top 21), globals := 3, closure := [], defaults := Value.none, kwdefaults := Value.none, pyModule := Value.str (Str.ofString "law_sa0568_01") 503, code := Value.ref 255 } } : Obj)) :: []
def hAs : List Nat := [2, 3, 15, 17, 18, 20, 21, 22, 24, 25, 27, 28, 29, 31, 32, 34, 35, 36, 39, 40, 41, 42, 44, 45, 47, 48, 49, 51, 52, 54, 55, 56, 59, 60, 61, 64, 65, 66, 69, 70, 71, 74, 75, 83, 85, 86, 88, 89, 90, 91, 92, 93, 94, 104, 106, 107, 109, 110, 111, 113, 114, 116, 117, 118, 120, 121, 123, 124, 125, 127, 128, 130, 131, 132, 134, 135, 137, 138, 139, 141, 142, 144, 145, 146, 148, 149, 151, 152, 153, 155, 156, 158, 159, 160, 163, 164, 165, 167, 168, 170, 171, 172, 174, 175, 177, 178, 179, 181, 182, 184, 185, 186, 188, 189, 191, 192, 193, 195, 196, 198, 199, 200, 202, 203, 205, 206, 207, 209, 210, 212, 213, 214, 217, 218, 219, 221, 222, 224, 225, 226, 228, 229, 231, 232, 233, 234, 235, 236, 237, 240, 242, 243, 245, 246, 247, 250, 251, 252, 255, 256]
noncomputable def hV : Program := { Challenge.pw_sa0568_01 with main := { Challenge.pw_sa0568_01.main with body := [top 0, top 2, top 3, top 4, top 5, top 7, top 8, top 9, top 10, top 11, top 13, top 14, top 16, top 17, top 19, top 20, top 21] } }
noncomputable abbrev hH : Hook := kHook hK hAs (fun _ => by kernel_rfl)
noncomputable def ob43 : Params → Obj := fun P => { cls := Value.type "tuple", data := Data.seq #[] }
noncomputable def ob44 : Params → Obj := fun P => { cls := Value.none, data := Data.fields #[] }
noncomputable def ob45 : Params → Obj := fun P => { cls := Value.type "code", data := Data.fields #[Value.str (Str.ofString "<module>") 182, Value.str (Str.ofString "<module>") 183, Value.str (Str.ofString "/claim/cut.py") 184, Value.int 1 0, Value.int 0 0, Value.int 0 0, Value.int 0 0, Value.int 0 0, Value.ref 11, Value.bool false, Value.int 181 0, Value.ref 12, Value.none, Value.none, Value.none, Value.none, Value.int 185 0, Value.int 1 0, Value.str (Str.ofString "/claim/cut.py") 186] }
noncomputable def ob46 : Params → Obj := fun P => { cls := Value.type "frame", slots := #[some (Value.ref 13), some (Value.ref 3), some (Value.ref 3), none, some (Value.str (Str.ofString "__main__") 164), none, some (Value.ref 0)] }
noncomputable def ob53 : Params → Obj := fun P => { cls := Value.type "tuple", data := Data.seq #[Value.str (Str.ofString "k") 190] }
noncomputable def ob55 : Params → Obj := fun P => { cls := Value.none, data := Data.func { name := Str.ofString "_wall", qualname := Str.ofString "_wall", params := fdArgs (top 0), body := FuncBody.stmts (fdBody (top 0)), scope := fdScope (top 0), globals := 0, closure := [], defaults := Value.none, kwdefaults := Value.none } }
noncomputable def ob56 : Params → Obj := fun P => { cls := Value.type "code", data := Data.fields #[Value.str (Str.ofString "_wall") 187, Value.str (Str.ofString "_wall") 188, Value.str (Str.ofString "/claim/cut.py") 189, Value.int 1 0, Value.int 1 0, Value.int 0 0, Value.int 0 0, Value.int 3 0, Value.ref 15, Value.bool true, Value.int 181 0, Value.ref 16, Value.none, Value.ref 17, Value.ref 18, Value.ref 19, Value.int 191 0, Value.int 1 0, Value.str (Str.ofString "/claim/cut.py") 192] }
noncomputable def ob57 : Params → Obj := fun P => { cls := Value.type "function", data := Data.func { name := Str.ofString "_wall", qualname := Str.ofString "_wall", params := fdArgs (top 0), body := FuncBody.stmts (fdBody (top 0)), scope := fdScope (top 0), globals := 3, closure := [], defaults := Value.none, kwdefaults := Value.none, pyModule := Value.str (Str.ofString "__main__") 164, code := Value.ref 20 } }
noncomputable def ob60 : Params → Obj := fun P => { cls := Value.type "tuple", data := Data.seq #[Value.str (Str.ofString "number") 201, Value.str (Str.ofString "sent_at") 202, Value.str (Str.ofString "largest") 203, Value.str (Str.ofString "now") 204, Value.str (Str.ofString "delay") 205] }
noncomputable def ob62 : Params → Obj := fun P => { cls := Value.none, data := Data.func { name := Str.ofString "is_lost", qualname := Str.ofString "is_lost", params := fdArgs (top 3), body := FuncBody.stmts (fdBody (top 3)), scope := fdScope (top 3), globals := 0, closure := [], defaults := Value.none, kwdefaults := Value.none } }
noncomputable def ob63 : Params → Obj := fun P => { cls := Value.type "code", data := Data.fields #[Value.str (Str.ofString "is_lost") 198, Value.str (Str.ofString "is_lost") 199, Value.str (Str.ofString "/claim/cut.py") 200, Value.int 6 0, Value.int 5 0, Value.int 0 0, Value.int 0 0, Value.int 3 0, Value.ref 22, Value.bool true, Value.int 181 0, Value.ref 23, Value.none, Value.ref 24, Value.ref 25, Value.ref 26, Value.int 206 0, Value.int 6 0, Value.str (Str.ofString "/claim/cut.py") 207] }
noncomputable def ob64 : Params → Obj := fun P => { cls := Value.type "function", data := Data.func { name := Str.ofString "is_lost", qualname := Str.ofString "is_lost", params := fdArgs (top 3), body := FuncBody.stmts (fdBody (top 3)), scope := fdScope (top 3), globals := 3, closure := [], defaults := Value.none, kwdefaults := Value.none, pyModule := Value.str (Str.ofString "quic.loss") 194, code := Value.ref 27 } }
noncomputable def ob67 : Params → Obj := fun P => { cls := Value.type "tuple", data := Data.seq #[Value.str (Str.ofString "sent") 212, Value.str (Str.ofString "largest") 213, Value.str (Str.ofString "now") 214, Value.str (Str.ofString "delay") 215, Value.str (Str.ofString "lost") 216, Value.str (Str.ofString "later") 217, Value.str (Str.ofString "number") 218, Value.str (Str.ofString "sent_at") 219] }
noncomputable def ob69 : Params → Obj := fun P => { cls := Value.none, data := Data.func { name := Str.ofString "detect_lost", qualname := Str.ofString "detect_lost", params := fdArgs (top 4), body := FuncBody.stmts (fdBody (top 4)), scope := fdScope (top 4), globals := 0, closure := [], defaults := Value.none, kwdefaults := Value.none } }
noncomputable def ob70 : Params → Obj := fun P => { cls := Value.type "code", data := Data.fields #[Value.str (Str.ofString "detect_lost") 209, Value.str (Str.ofString "detect_lost") 210, Value.str (Str.ofString "/claim/cut.py") 211, Value.int 8 0, Value.int 4 0, Value.int 0 0, Value.int 0 0, Value.int 3 0, Value.ref 29, Value.bool true, Value.int 181 0, Value.ref 30, Value.none, Value.ref 31, Value.ref 32, Value.ref 33, Value.int 220 0, Value.int 8 0, Value.str (Str.ofString "/claim/cut.py") 221] }
noncomputable def ob71 : Params → Obj := fun P => { cls := Value.type "function", data := Data.func { name := Str.ofString "detect_lost", qualname := Str.ofString "detect_lost", params := fdArgs (top 4), body := FuncBody.stmts (fdBody (top 4)), scope := fdScope (top 4), globals := 3, closure := [], defaults := Value.none, kwdefaults := Value.none, pyModule := Value.str (Str.ofString "quic.loss") 194, code := Value.ref 34 } }
noncomputable def ob74 : Params → Obj := fun P => { cls := Value.none, data := Data.func { name := Str.ofString "flight_size", qualname := Str.ofString "flight_size", params := fdArgs (top 5), body := FuncBody.stmts (fdBody (top 5)), scope := fdScope (top 5), globals := 0, closure := [], defaults := Value.none, kwdefaults := Value.none } }
noncomputable def ob75 : Params → Obj := fun P => { cls := Value.type "code", data := Data.fields #[Value.str (Str.ofString "flight_size") 223, Value.str (Str.ofString "flight_size") 224, Value.str (Str.ofString "/claim/cut.py") 225, Value.int 19 0, Value.int 2 0, Value.int 0 0, Value.int 0 0, Value.int 3 0, Value.ref 36, Value.bool true, Value.int 181 0, Value.ref 37, Value.none, Value.none, Value.none, Value.ref 38, Value.int 226 0, Value.int 19 0, Value.str (Str.ofString "/claim/cut.py") 227] }
noncomputable def ob76 : Params → Obj := fun P => { cls := Value.type "function", data := Data.func { name := Str.ofString "flight_size", qualname := Str.ofString "flight_size", params := fdArgs (top 5), body := FuncBody.stmts (fdBody (top 5)), scope := fdScope (top 5), globals := 3, closure := [], defaults := Value.none, kwdefaults := Value.none, pyModule := Value.str (Str.ofString "quic.loss") 194, code := Value.ref 39 } }
noncomputable def ob77 : Params → Obj := fun P => { cls := Value.type "tuple", data := Data.seq #[Value.str (Str.ofString "ack") 231, Value.str (Str.ofString "padding") 232, Value.str (Str.ofString "close") 233] }
noncomputable def ob80 : Params → Obj := fun P => { cls := Value.type "tuple", data := Data.seq #[Value.str (Str.ofString "f") 238] }
noncomputable def ob82 : Params → Obj := fun P => { cls := Value.none, data := Data.func { name := Str.ofString "is_eliciting", qualname := Str.ofString "is_eliciting", params := fdArgs (top 8), body := FuncBody.stmts (fdBody (top 8)), scope := fdScope (top 8), globals := 0, closure := [], defaults := Value.none, kwdefaults := Value.none } }
noncomputable def ob83 : Params → Obj := fun P => { cls := Value.type "code", data := Data.fields #[Value.str (Str.ofString "is_eliciting") 235, Value.str (Str.ofString "is_eliciting") 236, Value.str (Str.ofString "/claim/cut.py") 237, Value.int 23 0, Value.int 1 0, Value.int 0 0, Value.int 0 0, Value.int 3 0, Value.ref 42, Value.bool true, Value.int 181 0, Value.ref 43, Value.none, Value.ref 44, Value.ref 45, Value.ref 46, Value.int 239 0, Value.int 23 0, Value.str (Str.ofString "/claim/cut.py") 240] }
noncomputable def ob84 : Params → Obj := fun P => { cls := Value.type "function", data := Data.func { name := Str.ofString "is_eliciting", qualname := Str.ofString "is_eliciting", params := fdArgs (top 8), body := FuncBody.stmts (fdBody (top 8)), scope := fdScope (top 8), globals := 3, closure := [], defaults := Value.none, kwdefaults := Value.none, pyModule := Value.str (Str.ofString "quic.framerules") 229, code := Value.ref 47 } }
noncomputable def ob87 : Params → Obj := fun P => { cls := Value.type "tuple", data := Data.seq #[Value.str (Str.ofString "f") 245] }
noncomputable def ob89 : Params → Obj := fun P => { cls := Value.none, data := Data.func { name := Str.ofString "counts_in_flight", qualname := Str.ofString "counts_in_flight", params := fdArgs (top 9), body := FuncBody.stmts (fdBody (top 9)), scope := fdScope (top 9), globals := 0, closure := [], defaults := Value.none, kwdefaults := Value.none } }
noncomputable def ob90 : Params → Obj := fun P => { cls := Value.type "code", data := Data.fields #[Value.str (Str.ofString "counts_in_flight") 242, Value.str (Str.ofString "counts_in_flight") 243, Value.str (Str.ofString "/claim/cut.py") 244, Value.int 25 0, Value.int 1 0, Value.int 0 0, Value.int 0 0, Value.int 3 0, Value.ref 49, Value.bool true, Value.int 181 0, Value.ref 50, Value.none, Value.ref 51, Value.ref 52, Value.ref 53, Value.int 246 0, Value.int 25 0, Value.str (Str.ofString "/claim/cut.py") 247] }
noncomputable def ob91 : Params → Obj := fun P => { cls := Value.type "function", data := Data.func { name := Str.ofString "counts_in_flight", qualname := Str.ofString "counts_in_flight", params := fdArgs (top 9), body := FuncBody.stmts (fdBody (top 9)), scope := fdScope (top 9), globals := 3, closure := [], defaults := Value.none, kwdefaults := Value.none, pyModule := Value.str (Str.ofString "quic.framerules") 229, code := Value.ref 54 } }
noncomputable def ob94 : Params → Obj := fun P => { cls := Value.none, data := Data.func { name := Str.ofString "any_eliciting", qualname := Str.ofString "any_eliciting", params := fdArgs (top 10), body := FuncBody.stmts (fdBody (top 10)), scope := fdScope (top 10), globals := 0, closure := [], defaults := Value.none, kwdefaults := Value.none } }
noncomputable def ob95 : Params → Obj := fun P => { cls := Value.type "code", data := Data.fields #[Value.str (Str.ofString "any_eliciting") 249, Value.str (Str.ofString "any_eliciting") 250, Value.str (Str.ofString "/claim/cut.py") 251, Value.int 27 0, Value.int 1 0, Value.int 0 0, Value.int 0 0, Value.int 3 0, Value.ref 56, Value.bool true, Value.int 181 0, Value.ref 57, Value.none, Value.none, Value.none, Value.ref 58, Value.int 252 0, Value.int 27 0, Value.str (Str.ofString "/claim/cut.py") 253] }
noncomputable def ob96 : Params → Obj := fun P => { cls := Value.type "function", data := Data.func { name := Str.ofString "any_eliciting", qualname := Str.ofString "any_eliciting", params := fdArgs (top 10), body := FuncBody.stmts (fdBody (top 10)), scope := fdScope (top 10), globals := 3, closure := [], defaults := Value.none, kwdefaults := Value.none, pyModule := Value.str (Str.ofString "quic.framerules") 229, code := Value.ref 59 } }
noncomputable def ob99 : Params → Obj := fun P => { cls := Value.none, data := Data.func { name := Str.ofString "any_in_flight", qualname := Str.ofString "any_in_flight", params := fdArgs (top 11), body := FuncBody.stmts (fdBody (top 11)), scope := fdScope (top 11), globals := 0, closure := [], defaults := Value.none, kwdefaults := Value.none } }
noncomputable def ob100 : Params → Obj := fun P => { cls := Value.type "code", data := Data.fields #[Value.str (Str.ofString "any_in_flight") 255, Value.str (Str.ofString "any_in_flight") 256, Value.str (Str.ofString "/claim/cut.py") 257, Value.int 29 0, Value.int 1 0, Value.int 0 0, Value.int 0 0, Value.int 3 0, Value.ref 61, Value.bool true, Value.int 181 0, Value.ref 62, Value.none, Value.none, Value.none, Value.ref 63, Value.int 258 0, Value.int 29 0, Value.str (Str.ofString "/claim/cut.py") 259] }
noncomputable def ob101 : Params → Obj := fun P => { cls := Value.type "function", data := Data.func { name := Str.ofString "any_in_flight", qualname := Str.ofString "any_in_flight", params := fdArgs (top 11), body := FuncBody.stmts (fdBody (top 11)), scope := fdScope (top 11), globals := 3, closure := [], defaults := Value.none, kwdefaults := Value.none, pyModule := Value.str (Str.ofString "quic.framerules") 229, code := Value.ref 64 } }
noncomputable def ob104 : Params → Obj := fun P => { cls := Value.none, data := Data.func { name := Str.ofString "has_number", qualname := Str.ofString "has_number", params := fdArgs (top 13), body := FuncBody.stmts (fdBody (top 13)), scope := fdScope (top 13), globals := 0, closure := [], defaults := Value.none, kwdefaults := Value.none } }
noncomputable def ob105 : Params → Obj := fun P => { cls := Value.type "code", data := Data.fields #[Value.str (Str.ofString "has_number") 263, Value.str (Str.ofString "has_number") 264, Value.str (Str.ofString "/claim/cut.py") 265, Value.int 32 0, Value.int 2 0, Value.int 0 0, Value.int 0 0, Value.int 3 0, Value.ref 66, Value.bool true, Value.int 181 0, Value.ref 67, Value.none, Value.none, Value.none, Value.ref 68, Value.int 266 0, Value.int 32 0, Value.str (Str.ofString "/claim/cut.py") 267] }
noncomputable def ob106 : Params → Obj := fun P => { cls := Value.type "function", data := Data.func { name := Str.ofString "has_number", qualname := Str.ofString "has_number", params := fdArgs (top 13), body := FuncBody.stmts (fdBody (top 13)), scope := fdScope (top 13), globals := 3, closure := [], defaults := Value.none, kwdefaults := Value.none, pyModule := Value.str (Str.ofString "quic.ranges") 261, code := Value.ref 69 } }
noncomputable def ob109 : Params → Obj := fun P => { cls := Value.none, data := Data.func { name := Str.ofString "newly_acked", qualname := Str.ofString "newly_acked", params := fdArgs (top 14), body := FuncBody.stmts (fdBody (top 14)), scope := fdScope (top 14), globals := 0, closure := [], defaults := Value.none, kwdefaults := Value.none } }
noncomputable def ob110 : Params → Obj := fun P => { cls := Value.type "code", data := Data.fields #[Value.str (Str.ofString "newly_acked") 269, Value.str (Str.ofString "newly_acked") 270, Value.str (Str.ofString "/claim/cut.py") 271, Value.int 34 0, Value.int 2 0, Value.int 0 0, Value.int 0 0, Value.int 3 0, Value.ref 71, Value.bool true, Value.int 181 0, Value.ref 72, Value.none, Value.none, Value.none, Value.ref 73, Value.int 272 0, Value.int 34 0, Value.str (Str.ofString "/claim/cut.py") 273] }
noncomputable def ob111 : Params → Obj := fun P => { cls := Value.type "function", data := Data.func { name := Str.ofString "newly_acked", qualname := Str.ofString "newly_acked", params := fdArgs (top 14), body := FuncBody.stmts (fdBody (top 14)), scope := fdScope (top 14), globals := 3, closure := [], defaults := Value.none, kwdefaults := Value.none, pyModule := Value.str (Str.ofString "quic.ranges") 261, code := Value.ref 74 } }
noncomputable def ob112 : Params → Obj := fun P => { cls := Value.type "dict", data := Data.dict #[{ hash := PyData.keyHash P (Str.ofString "__name__"), key := Value.str (Str.ofString "__name__") 165, val := Value.str (Str.ofString "quic.spaces") 275 }, { hash := PyData.keyHash P (Str.ofString "__doc__"), key := Value.str (Str.ofString "__doc__") 166, val := Value.none }, { hash := PyData.keyHash P (Str.ofString "__package__"), key := Value.str (Str.ofString "__package__") 167, val := Value.none }, { hash := PyData.keyHash P (Str.ofString "__loader__"), key := Value.str (Str.ofString "__loader__") 168, val := Value.builtin "__main__.__loader__#opaque" }, { hash := PyData.keyHash P (Str.ofString "__spec__"), key := Value.str (Str.ofString "__spec__") 169, val := Value.none }, { hash := PyData.keyHash P (Str.ofString "__annotations__"), key := Value.str (Str.ofString "__annotations__") 170, val := Value.ref 6 }, { hash := PyData.keyHash P (Str.ofString "__builtins__"), key := Value.str (Str.ofString "__builtins__") 171, val := Value.ref 4 }, { hash := PyData.keyHash P (Str.ofString "__file__"), key := Value.str (Str.ofString "__file__") 173, val := Value.str (Str.ofString "/claim/cut.py") 172 }, { hash := PyData.keyHash P (Str.ofString "__cached__"), key := Value.str (Str.ofString "__cached__") 174, val := Value.none }, { hash := PyData.keyHash P (Str.ofString "_wall"), key := Value.str (Str.ofString "_wall") 193, val := Value.ref 21 }, { hash := PyData.keyHash P (Str.ofString "PACKET_THRESHOLD"), key := Value.str (Str.ofString "PACKET_THRESHOLD") 197, val := Value.int 3 196 }, { hash := PyData.keyHash P (Str.ofString "is_lost"), key := Value.str (Str.ofString "is_lost") 208, val := Value.ref 28 }, { hash := PyData.keyHash P (Str.ofString "detect_lost"), key := Value.str (Str.ofString "detect_lost") 222, val := Value.ref 35 }, { hash := PyData.keyHash P (Str.ofString "flight_size"), key := Value.str (Str.ofString "flight_size") 228, val := Value.ref 40 }, { hash := PyData.keyHash P (Str.ofString "NOT_ELICITING"), key := Value.str (Str.ofString "NOT_ELICITING") 234, val := Value.ref 41 }, { hash := PyData.keyHash P (Str.ofString "is_eliciting"), key := Value.str (Str.ofString "is_eliciting") 241, val := Value.ref 48 }, { hash := PyData.keyHash P (Str.ofString "counts_in_flight"), key := Value.str (Str.ofString "counts_in_flight") 248, val := Value.ref 55 }, { hash := PyData.keyHash P (Str.ofString "any_eliciting"), key := Value.str (Str.ofString "any_eliciting") 254, val := Value.ref 60 }, { hash := PyData.keyHash P (Str.ofString "any_in_flight"), key := Value.str (Str.ofString "any_in_flight") 260, val := Value.ref 65 }, { hash := PyData.keyHash P (Str.ofString "has_number"), key := Value.str (Str.ofString "has_number") 268, val := Value.ref 70 }, { hash := PyData.keyHash P (Str.ofString "newly_acked"), key := Value.str (Str.ofString "newly_acked") 274, val := Value.ref 75 }, { hash := PyData.keyHash P (Str.ofString "SentPacket"), key := Value.str (Str.ofString "SentPacket") 313, val := Value.ref 92 }] 22 }
noncomputable def ob113 : Params → Obj := fun P => { cls := Value.none, data := Data.fields #[Value.int 1 0, Value.int 0 0, Value.ref 20, Value.int 6 0, Value.int 0 0, Value.ref 27, Value.int 8 0, Value.int 0 0, Value.ref 34, Value.int 19 0, Value.int 0 0, Value.ref 39, Value.int 23 0, Value.int 0 0, Value.ref 47, Value.int 25 0, Value.int 0 0, Value.ref 54, Value.int 27 0, Value.int 0 0, Value.ref 59, Value.int 29 0, Value.int 0 0, Value.ref 64, Value.int 32 0, Value.int 0 0, Value.ref 69, Value.int 34 0, Value.int 0 0, Value.ref 74, Value.int 37 0, Value.int 0 0, Value.ref 81] }
noncomputable def ob115 : Params → Obj := fun P => { cls := Value.type "builtin_function_or_method", data := Data.fields #[Value.builtin "type.__prepare__", Value.type "type"] }
noncomputable def ob116 : Params → Obj := fun P => { cls := Value.type "dict", data := Data.dict #[{ hash := PyData.keyHash P (Str.ofString "__module__"), key := Value.str (Str.ofString "__module__") 284, val := Value.str (Str.ofString "quic.spaces") 275 }, { hash := PyData.keyHash P (Str.ofString "__qualname__"), key := Value.str (Str.ofString "__qualname__") 286, val := Value.str (Str.ofString "SentPacket") 285 }, { hash := PyData.keyHash P (Str.ofString "__firstlineno__"), key := Value.str (Str.ofString "__firstlineno__") 288, val := Value.int 37 287 }, { hash := PyData.keyHash P (Str.ofString "__init__"), key := Value.str (Str.ofString "__init__") 299, val := Value.ref 89 }, { hash := PyData.keyHash P (Str.ofString "__static_attributes__"), key := Value.str (Str.ofString "__static_attributes__") 306, val := Value.ref 90 }] 5 }
noncomputable def ob118 : Params → Obj := fun P => { cls := Value.none, data := Data.fields #[Value.int 39 0, Value.int 4 0, Value.ref 88] }
noncomputable def ob119 : Params → Obj := fun P => { cls := Value.type "code", data := Data.fields #[Value.str (Str.ofString "SentPacket") 279, Value.str (Str.ofString "SentPacket") 280, Value.str (Str.ofString "/claim/cut.py") 281, Value.int 37 0, Value.int 0 0, Value.int 0 0, Value.int 0 0, Value.int 0 0, Value.ref 79, Value.bool false, Value.int 181 0, Value.ref 80, Value.none, Value.none, Value.none, Value.none, Value.int 282 0, Value.int 37 0, Value.str (Str.ofString "/claim/cut.py") 283] }
noncomputable def ob120 : Params → Obj := fun P => { cls := Value.type "frame", slots := #[some (Value.ref 81), some (Value.ref 3), some (Value.ref 78), none, some (Value.str (Str.ofString "quic.spaces") 275), none, some (Value.ref 0)] }
noncomputable def ob123 : Params → Obj := fun P => { cls := Value.type "tuple", data := Data.seq #[Value.str (Str.ofString "self") 292, Value.str (Str.ofString "number") 293, Value.str (Str.ofString "time") 294, Value.str (Str.ofString "size") 295, Value.str (Str.ofString "frames") 296] }
noncomputable def ob125 : Params → Obj := fun P => { cls := Value.none, data := Data.func { name := Str.ofString "__init__", qualname := Str.ofString "SentPacket.__init__", params := fdArgs (meth 16 0), body := FuncBody.stmts (fdBody (meth 16 0)), scope := fdScope (meth 16 0), globals := 0, closure := [], defaults := Value.none, kwdefaults := Value.none } }
noncomputable def ob126 : Params → Obj := fun P => { cls := Value.type "code", data := Data.fields #[Value.str (Str.ofString "__init__") 289, Value.str (Str.ofString "SentPacket.__init__") 290, Value.str (Str.ofString "/claim/cut.py") 291, Value.int 39 0, Value.int 5 0, Value.int 0 0, Value.int 0 0, Value.int 3 0, Value.ref 83, Value.bool true, Value.int 181 0, Value.ref 84, Value.none, Value.ref 85, Value.ref 86, Value.ref 87, Value.int 297 0, Value.int 39 0, Value.str (Str.ofString "/claim/cut.py") 298] }
noncomputable def ob127 : Params → Obj := fun P => { cls := Value.type "function", data := Data.func { name := Str.ofString "__init__", qualname := Str.ofString "SentPacket.__init__", params := fdArgs (meth 16 0), body := FuncBody.stmts (fdBody (meth 16 0)), scope := fdScope (meth 16 0), globals := 3, closure := [], defaults := Value.none, kwdefaults := Value.none, pyModule := Value.str (Str.ofString "quic.spaces") 275, code := Value.ref 88 } }
noncomputable def ob128 : Params → Obj := fun P => { cls := Value.type "tuple", data := Data.seq #[Value.str (Str.ofString "frames") 300, Value.str (Str.ofString "in_flight") 301, Value.str (Str.ofString "is_eliciting") 302, Value.str (Str.ofString "number") 303, Value.str (Str.ofString "size") 304, Value.str (Str.ofString "time") 305] }
noncomputable def ob129 : Params → Obj := fun P => { cls := Value.type "dict", data := Data.dict #[{ hash := PyData.keyHash P (Str.ofString "__module__"), key := Value.str (Str.ofString "__module__") 284, val := Value.str (Str.ofString "quic.spaces") 275 }, { hash := PyData.keyHash P (Str.ofString "__firstlineno__"), key := Value.str (Str.ofString "__firstlineno__") 288, val := Value.int 37 287 }, { hash := PyData.keyHash P (Str.ofString "__init__"), key := Value.str (Str.ofString "__init__") 299, val := Value.ref 89 }, { hash := PyData.keyHash P (Str.ofString "__static_attributes__"), key := Value.str (Str.ofString "__static_attributes__") 306, val := Value.ref 90 }, { hash := PyData.keyHash P (Str.ofString "__dict__"), key := Value.str (Str.ofString "__dict__") 308, val := Value.ref 93 }, { hash := PyData.keyHash P (Str.ofString "__weakref__"), key := Value.str (Str.ofString "__weakref__") 310, val := Value.ref 94 }, { hash := PyData.keyHash P (Str.ofString "__doc__"), key := Value.str (Str.ofString "__doc__") 311, val := Value.none }] 4 }
noncomputable def ob130 : Params → Obj := fun P => { cls := Value.type "type", data := Data.cls { name := Str.ofString "SentPacket", bases := [Value.type "object"], mro := [Value.ref 92, Value.type "object"], ns := 91, qualname := Str.ofString "SentPacket" }, slots := #[none, none, some (Value.str (Str.ofString "SentPacket") 277), some (Value.str (Str.ofString "SentPacket") 285), some (Value.builtin "object.__new__"), some (Value.bool true)] }
noncomputable def ob131 : Params → Obj := fun P => { cls := Value.type "getset_descriptor", data := Data.fields #[Value.str (Str.ofString "__dict__") 307, Value.ref 92, Value.builtin "function.__dict__", Value.builtin "function.__dict__#set"] }
noncomputable def ob132 : Params → Obj := fun P => { cls := Value.type "getset_descriptor", data := Data.fields #[Value.str (Str.ofString "__weakref__") 309, Value.ref 92, Value.builtin "ExceptionGroup.__weakref__", Value.none] }
noncomputable def ob133 : Params → Obj := fun P => { cls := Value.type "super", data := Data.fields #[Value.ref 92, Value.ref 92, Value.ref 92] }
noncomputable def ob134 : Params → Obj := fun P => { cls := Value.type "builtin_function_or_method", data := Data.fields #[Value.builtin "object.__init_subclass__", Value.ref 92] }
noncomputable def ob135 : Params → Obj := fun P => { cls := Value.type "dict", data := Data.dict #[{ hash := PyData.keyHash P (Str.ofString "__name__"), key := Value.str (Str.ofString "__name__") 165, val := Value.str (Str.ofString "quic.spaces") 275 }, { hash := PyData.keyHash P (Str.ofString "__doc__"), key := Value.str (Str.ofString "__doc__") 166, val := Value.none }, { hash := PyData.keyHash P (Str.ofString "__package__"), key := Value.str (Str.ofString "__package__") 167, val := Value.none }, { hash := PyData.keyHash P (Str.ofString "__loader__"), key := Value.str (Str.ofString "__loader__") 168, val := Value.builtin "__main__.__loader__#opaque" }, { hash := PyData.keyHash P (Str.ofString "__spec__"), key := Value.str (Str.ofString "__spec__") 169, val := Value.none }, { hash := PyData.keyHash P (Str.ofString "__annotations__"), key := Value.str (Str.ofString "__annotations__") 170, val := Value.ref 6 }, { hash := PyData.keyHash P (Str.ofString "__builtins__"), key := Value.str (Str.ofString "__builtins__") 171, val := Value.ref 4 }, { hash := PyData.keyHash P (Str.ofString "__file__"), key := Value.str (Str.ofString "__file__") 173, val := Value.str (Str.ofString "/claim/cut.py") 172 }, { hash := PyData.keyHash P (Str.ofString "__cached__"), key := Value.str (Str.ofString "__cached__") 174, val := Value.none }, { hash := PyData.keyHash P (Str.ofString "_wall"), key := Value.str (Str.ofString "_wall") 193, val := Value.ref 21 }, { hash := PyData.keyHash P (Str.ofString "PACKET_THRESHOLD"), key := Value.str (Str.ofString "PACKET_THRESHOLD") 197, val := Value.int 3 196 }, { hash := PyData.keyHash P (Str.ofString "is_lost"), key := Value.str (Str.ofString "is_lost") 208, val := Value.ref 28 }, { hash := PyData.keyHash P (Str.ofString "detect_lost"), key := Value.str (Str.ofString "detect_lost") 222, val := Value.ref 35 }, { hash := PyData.keyHash P (Str.ofString "flight_size"), key := Value.str (Str.ofString "flight_size") 228, val := Value.ref 40 }, { hash := PyData.keyHash P (Str.ofString "NOT_ELICITING"), key := Value.str (Str.ofString "NOT_ELICITING") 234, val := Value.ref 41 }, { hash := PyData.keyHash P (Str.ofString "is_eliciting"), key := Value.str (Str.ofString "is_eliciting") 241, val := Value.ref 48 }, { hash := PyData.keyHash P (Str.ofString "counts_in_flight"), key := Value.str (Str.ofString "counts_in_flight") 248, val := Value.ref 55 }, { hash := PyData.keyHash P (Str.ofString "any_eliciting"), key := Value.str (Str.ofString "any_eliciting") 254, val := Value.ref 60 }, { hash := PyData.keyHash P (Str.ofString "any_in_flight"), key := Value.str (Str.ofString "any_in_flight") 260, val := Value.ref 65 }, { hash := PyData.keyHash P (Str.ofString "has_number"), key := Value.str (Str.ofString "has_number") 268, val := Value.ref 70 }, { hash := PyData.keyHash P (Str.ofString "newly_acked"), key := Value.str (Str.ofString "newly_acked") 274, val := Value.ref 75 }, { hash := PyData.keyHash P (Str.ofString "SentPacket"), key := Value.str (Str.ofString "SentPacket") 313, val := Value.ref 92 }, { hash := PyData.keyHash P (Str.ofString "Space"), key := Value.str (Str.ofString "Space") 502, val := Value.ref 235 }] 23 }
noncomputable def ob136 : Params → Obj := fun P => { cls := Value.none, data := Data.fields #[Value.int 1 0, Value.int 0 0, Value.ref 20, Value.int 6 0, Value.int 0 0, Value.ref 27, Value.int 8 0, Value.int 0 0, Value.ref 34, Value.int 19 0, Value.int 0 0, Value.ref 39, Value.int 23 0, Value.int 0 0, Value.ref 47, Value.int 25 0, Value.int 0 0, Value.ref 54, Value.int 27 0, Value.int 0 0, Value.ref 59, Value.int 29 0, Value.int 0 0, Value.ref 64, Value.int 32 0, Value.int 0 0, Value.ref 69, Value.int 34 0, Value.int 0 0, Value.ref 74, Value.int 37 0, Value.int 0 0, Value.ref 81, Value.int 46 0, Value.int 0 0, Value.ref 102] }
noncomputable def ob139 : Params → Obj := fun P => { cls := Value.type "dict", data := Data.dict #[{ hash := PyData.keyHash P (Str.ofString "__module__"), key := Value.str (Str.ofString "__module__") 321, val := Value.str (Str.ofString "quic.spaces") 275 }, { hash := PyData.keyHash P (Str.ofString "__qualname__"), key := Value.str (Str.ofString "__qualname__") 323, val := Value.str (Str.ofString "Space") 322 }, { hash := PyData.keyHash P (Str.ofString "__firstlineno__"), key := Value.str (Str.ofString "__firstlineno__") 325, val := Value.int 46 324 }, { hash := PyData.keyHash P (Str.ofString "__init__"), key := Value.str (Str.ofString "__init__") 333, val := Value.ref 110 }, { hash := PyData.keyHash P (Str.ofString "is_known"), key := Value.str (Str.ofString "is_known") 341, val := Value.ref 117 }, { hash := PyData.keyHash P (Str.ofString "on_received"), key := Value.str (Str.ofString "on_received") 352, val := Value.ref 124 }, { hash := PyData.keyHash P (Str.ofString "ack_frame"), key := Value.str (Str.ofString "ack_frame") 361, val := Value.ref 131 }, { hash := PyData.keyHash P (Str.ofString "on_ack_sent"), key := Value.str (Str.ofString "on_ack_sent") 368, val := Value.ref 138 }, { hash := PyData.keyHash P (Str.ofString "owes_ack"), key := Value.str (Str.ofString "owes_ack") 375, val := Value.ref 145 }, { hash := PyData.keyHash P (Str.ofString "take_number"), key := Value.str (Str.ofString "take_number") 382, val := Value.ref 152 }, { hash := PyData.keyHash P (Str.ofString "on_sent"), key := Value.str (Str.ofString "on_sent") 394, val := Value.ref 159 }, { hash := PyData.keyHash P (Str.ofString "take"), key := Value.str (Str.ofString "take") 400, val := Value.ref 164 }, { hash := PyData.keyHash P (Str.ofString "acked_by"), key := Value.str (Str.ofString "acked_by") 408, val := Value.ref 171 }, { hash := PyData.keyHash P (Str.ofString "note_acked"), key := Value.str (Str.ofString "note_acked") 416, val := Value.ref 178 }, { hash := PyData.keyHash P (Str.ofString "note_ranges"), key := Value.str (Str.ofString "note_ranges") 424, val := Value.ref 185 }, { hash := PyData.keyHash P (Str.ofString "is_beyond"), key := Value.str (Str.ofString "is_beyond") 432, val := Value.ref 192 }, { hash := PyData.keyHash P (Str.ofString "note_largest"), key := Value.str (Str.ofString "note_largest") 440, val := Value.ref 199 }, { hash := PyData.keyHash P (Str.ofString "eliciting_left"), key := Value.str (Str.ofString "eliciting_left") 447, val := Value.ref 206 }, { hash := PyData.keyHash P (Str.ofString "bare_numbers"), key := Value.str (Str.ofString "bare_numbers") 454, val := Value.ref 213 }, { hash := PyData.keyHash P (Str.ofString "octets_out"), key := Value.str (Str.ofString "octets_out") 460, val := Value.ref 218 }, { hash := PyData.keyHash P (Str.ofString "sent_rows"), key := Value.str (Str.ofString "sent_rows") 470, val := Value.ref 225 }, { hash := PyData.keyHash P (Str.ofString "forget"), key := Value.str (Str.ofString "forget") 477, val := Value.ref 232 }, { hash := PyData.keyHash P (Str.ofString "__static_attributes__"), key := Value.str (Str.ofString "__static_attributes__") 495, val := Value.ref 233 }] 23 }
noncomputable def ob141 : Params → Obj := fun P => { cls := Value.none, data := Data.fields #[Value.int 48 0, Value.int 4 0, Value.ref 109, Value.int 67 0, Value.int 4 0, Value.ref 116, Value.int 70 0, Value.int 4 0, Value.ref 123, Value.int 73 0, Value.int 4 0, Value.ref 130, Value.int 76 0, Value.int 4 0, Value.ref 137, Value.int 79 0, Value.int 4 0, Value.ref 144, Value.int 82 0, Value.int 4 0, Value.ref 151, Value.int 86 0, Value.int 4 0, Value.ref 158, Value.int 93 0, Value.int 4 0, Value.ref 163, Value.int 97 0, Value.int 4 0, Value.ref 170, Value.int 100 0, Value.int 4 0, Value.ref 177, Value.int 103 0, Value.int 4 0, Value.ref 184, Value.int 106 0, Value.int 4 0, Value.ref 191, Value.int 109 0, Value.int 4 0, Value.ref 198, Value.int 113 0, Value.int 4 0, Value.ref 205, Value.int 116 0, Value.int 4 0, Value.ref 212, Value.int 119 0, Value.int 4 0, Value.ref 217, Value.int 122 0, Value.int 4 0, Value.ref 224, Value.int 129 0, Value.int 4 0, Value.ref 231] }
noncomputable def ob142 : Params → Obj := fun P => { cls := Value.type "code", data := Data.fields #[Value.str (Str.ofString "Space") 316, Value.str (Str.ofString "Space") 317, Value.str (Str.ofString "/claim/cut.py") 318, Value.int 46 0, Value.int 0 0, Value.int 0 0, Value.int 0 0, Value.int 0 0, Value.ref 100, Value.bool false, Value.int 181 0, Value.ref 101, Value.none, Value.none, Value.none, Value.none, Value.int 319 0, Value.int 46 0, Value.str (Str.ofString "/claim/cut.py") 320] }
noncomputable def ob143 : Params → Obj := fun P => { cls := Value.type "frame", slots := #[some (Value.ref 102), some (Value.ref 3), some (Value.ref 99), none, some (Value.str (Str.ofString "quic.spaces") 275), none, some (Value.ref 0)] }
noncomputable def ob146 : Params → Obj := fun P => { cls := Value.type "tuple", data := Data.seq #[Value.str (Str.ofString "self") 329, Value.str (Str.ofString "name") 330] }
noncomputable def ob148 : Params → Obj := fun P => { cls := Value.none, data := Data.func { name := Str.ofString "__init__", qualname := Str.ofString "Space.__init__", params := fdArgs (meth 17 0), body := FuncBody.stmts (fdBody (meth 17 0)), scope := fdScope (meth 17 0), globals := 0, closure := [], defaults := Value.none, kwdefaults := Value.none } }
noncomputable def ob149 : Params → Obj := fun P => { cls := Value.type "code", data := Data.fields #[Value.str (Str.ofString "__init__") 326, Value.str (Str.ofString "Space.__init__") 327, Value.str (Str.ofString "/claim/cut.py") 328, Value.int 48 0, Value.int 2 0, Value.int 0 0, Value.int 0 0, Value.int 3 0, Value.ref 104, Value.bool true, Value.int 181 0, Value.ref 105, Value.none, Value.ref 106, Value.ref 107, Value.ref 108, Value.int 331 0, Value.int 48 0, Value.str (Str.ofString "/claim/cut.py") 332] }
noncomputable def ob150 : Params → Obj := fun P => { cls := Value.type "function", data := Data.func { name := Str.ofString "__init__", qualname := Str.ofString "Space.__init__", params := fdArgs (meth 17 0), body := FuncBody.stmts (fdBody (meth 17 0)), scope := fdScope (meth 17 0), globals := 3, closure := [], defaults := Value.none, kwdefaults := Value.none, pyModule := Value.str (Str.ofString "quic.spaces") 275, code := Value.ref 109 } }
noncomputable def ob153 : Params → Obj := fun P => { cls := Value.type "tuple", data := Data.seq #[Value.str (Str.ofString "self") 337, Value.str (Str.ofString "number") 338] }
noncomputable def ob155 : Params → Obj := fun P => { cls := Value.none, data := Data.func { name := Str.ofString "is_known", qualname := Str.ofString "Space.is_known", params := fdArgs (meth 17 1), body := FuncBody.stmts (fdBody (meth 17 1)), scope := fdScope (meth 17 1), globals := 0, closure := [], defaults := Value.none, kwdefaults := Value.none } }
noncomputable def ob156 : Params → Obj := fun P => { cls := Value.type "code", data := Data.fields #[Value.str (Str.ofString "is_known") 334, Value.str (Str.ofString "Space.is_known") 335, Value.str (Str.ofString "/claim/cut.py") 336, Value.int 67 0, Value.int 2 0, Value.int 0 0, Value.int 0 0, Value.int 3 0, Value.ref 111, Value.bool true, Value.int 181 0, Value.ref 112, Value.none, Value.ref 113, Value.ref 114, Value.ref 115, Value.int 339 0, Value.int 67 0, Value.str (Str.ofString "/claim/cut.py") 340] }
noncomputable def ob157 : Params → Obj := fun P => { cls := Value.type "function", data := Data.func { name := Str.ofString "is_known", qualname := Str.ofString "Space.is_known", params := fdArgs (meth 17 1), body := FuncBody.stmts (fdBody (meth 17 1)), scope := fdScope (meth 17 1), globals := 3, closure := [], defaults := Value.none, kwdefaults := Value.none, pyModule := Value.str (Str.ofString "quic.spaces") 275, code := Value.ref 116 } }
noncomputable def ob160 : Params → Obj := fun P => { cls := Value.type "tuple", data := Data.seq #[Value.str (Str.ofString "self") 345, Value.str (Str.ofString "number") 346, Value.str (Str.ofString "now") 347, Value.str (Str.ofString "has_eliciting") 348, Value.str (Str.ofString "mark") 349] }
noncomputable def ob162 : Params → Obj := fun P => { cls := Value.none, data := Data.func { name := Str.ofString "on_received", qualname := Str.ofString "Space.on_received", params := fdArgs (meth 17 2), body := FuncBody.stmts (fdBody (meth 17 2)), scope := fdScope (meth 17 2), globals := 0, closure := [], defaults := Value.none, kwdefaults := Value.none } }
noncomputable def ob163 : Params → Obj := fun P => { cls := Value.type "code", data := Data.fields #[Value.str (Str.ofString "on_received") 342, Value.str (Str.ofString "Space.on_received") 343, Value.str (Str.ofString "/claim/cut.py") 344, Value.int 70 0, Value.int 5 0, Value.int 0 0, Value.int 0 0, Value.int 3 0, Value.ref 118, Value.bool true, Value.int 181 0, Value.ref 119, Value.none, Value.ref 120, Value.ref 121, Value.ref 122, Value.int 350 0, Value.int 70 0, Value.str (Str.ofString "/claim/cut.py") 351] }
noncomputable def ob164 : Params → Obj := fun P => { cls := Value.type "function", data := Data.func { name := Str.ofString "on_received", qualname := Str.ofString "Space.on_received", params := fdArgs (meth 17 2), body := FuncBody.stmts (fdBody (meth 17 2)), scope := fdScope (meth 17 2), globals := 3, closure := [], defaults := Value.none, kwdefaults := Value.none, pyModule := Value.str (Str.ofString "quic.spaces") 275, code := Value.ref 123 } }
noncomputable def ob167 : Params → Obj := fun P => { cls := Value.type "tuple", data := Data.seq #[Value.str (Str.ofString "self") 356, Value.str (Str.ofString "now") 357, Value.str (Str.ofString "exponent") 358] }
noncomputable def ob169 : Params → Obj := fun P => { cls := Value.none, data := Data.func { name := Str.ofString "ack_frame", qualname := Str.ofString "Space.ack_frame", params := fdArgs (meth 17 3), body := FuncBody.stmts (fdBody (meth 17 3)), scope := fdScope (meth 17 3), globals := 0, closure := [], defaults := Value.none, kwdefaults := Value.none } }
noncomputable def ob170 : Params → Obj := fun P => { cls := Value.type "code", data := Data.fields #[Value.str (Str.ofString "ack_frame") 353, Value.str (Str.ofString "Space.ack_frame") 354, Value.str (Str.ofString "/claim/cut.py") 355, Value.int 73 0, Value.int 3 0, Value.int 0 0, Value.int 0 0, Value.int 3 0, Value.ref 125, Value.bool true, Value.int 181 0, Value.ref 126, Value.none, Value.ref 127, Value.ref 128, Value.ref 129, Value.int 359 0, Value.int 73 0, Value.str (Str.ofString "/claim/cut.py") 360] }
noncomputable def ob171 : Params → Obj := fun P => { cls := Value.type "function", data := Data.func { name := Str.ofString "ack_frame", qualname := Str.ofString "Space.ack_frame", params := fdArgs (meth 17 3), body := FuncBody.stmts (fdBody (meth 17 3)), scope := fdScope (meth 17 3), globals := 3, closure := [], defaults := Value.none, kwdefaults := Value.none, pyModule := Value.str (Str.ofString "quic.spaces") 275, code := Value.ref 130 } }
noncomputable def ob174 : Params → Obj := fun P => { cls := Value.type "tuple", data := Data.seq #[Value.str (Str.ofString "self") 365] }
noncomputable def ob176 : Params → Obj := fun P => { cls := Value.none, data := Data.func { name := Str.ofString "on_ack_sent", qualname := Str.ofString "Space.on_ack_sent", params := fdArgs (meth 17 4), body := FuncBody.stmts (fdBody (meth 17 4)), scope := fdScope (meth 17 4), globals := 0, closure := [], defaults := Value.none, kwdefaults := Value.none } }
noncomputable def ob177 : Params → Obj := fun P => { cls := Value.type "code", data := Data.fields #[Value.str (Str.ofString "on_ack_sent") 362, Value.str (Str.ofString "Space.on_ack_sent") 363, Value.str (Str.ofString "/claim/cut.py") 364, Value.int 76 0, Value.int 1 0, Value.int 0 0, Value.int 0 0, Value.int 3 0, Value.ref 132, Value.bool true, Value.int 181 0, Value.ref 133, Value.none, Value.ref 134, Value.ref 135, Value.ref 136, Value.int 366 0, Value.int 76 0, Value.str (Str.ofString "/claim/cut.py") 367] }
noncomputable def ob178 : Params → Obj := fun P => { cls := Value.type "function", data := Data.func { name := Str.ofString "on_ack_sent", qualname := Str.ofString "Space.on_ack_sent", params := fdArgs (meth 17 4), body := FuncBody.stmts (fdBody (meth 17 4)), scope := fdScope (meth 17 4), globals := 3, closure := [], defaults := Value.none, kwdefaults := Value.none, pyModule := Value.str (Str.ofString "quic.spaces") 275, code := Value.ref 137 } }
noncomputable def ob181 : Params → Obj := fun P => { cls := Value.type "tuple", data := Data.seq #[Value.str (Str.ofString "self") 372] }
noncomputable def ob183 : Params → Obj := fun P => { cls := Value.none, data := Data.func { name := Str.ofString "owes_ack", qualname := Str.ofString "Space.owes_ack", params := fdArgs (meth 17 5), body := FuncBody.stmts (fdBody (meth 17 5)), scope := fdScope (meth 17 5), globals := 0, closure := [], defaults := Value.none, kwdefaults := Value.none } }
noncomputable def ob184 : Params → Obj := fun P => { cls := Value.type "code", data := Data.fields #[Value.str (Str.ofString "owes_ack") 369, Value.str (Str.ofString "Space.owes_ack") 370, Value.str (Str.ofString "/claim/cut.py") 371, Value.int 79 0, Value.int 1 0, Value.int 0 0, Value.int 0 0, Value.int 3 0, Value.ref 139, Value.bool true, Value.int 181 0, Value.ref 140, Value.none, Value.ref 141, Value.ref 142, Value.ref 143, Value.int 373 0, Value.int 79 0, Value.str (Str.ofString "/claim/cut.py") 374] }
noncomputable def ob185 : Params → Obj := fun P => { cls := Value.type "function", data := Data.func { name := Str.ofString "owes_ack", qualname := Str.ofString "Space.owes_ack", params := fdArgs (meth 17 5), body := FuncBody.stmts (fdBody (meth 17 5)), scope := fdScope (meth 17 5), globals := 3, closure := [], defaults := Value.none, kwdefaults := Value.none, pyModule := Value.str (Str.ofString "quic.spaces") 275, code := Value.ref 144 } }
noncomputable def ob188 : Params → Obj := fun P => { cls := Value.type "tuple", data := Data.seq #[Value.str (Str.ofString "self") 379] }
noncomputable def ob190 : Params → Obj := fun P => { cls := Value.none, data := Data.func { name := Str.ofString "take_number", qualname := Str.ofString "Space.take_number", params := fdArgs (meth 17 6), body := FuncBody.stmts (fdBody (meth 17 6)), scope := fdScope (meth 17 6), globals := 0, closure := [], defaults := Value.none, kwdefaults := Value.none } }
noncomputable def ob191 : Params → Obj := fun P => { cls := Value.type "code", data := Data.fields #[Value.str (Str.ofString "take_number") 376, Value.str (Str.ofString "Space.take_number") 377, Value.str (Str.ofString "/claim/cut.py") 378, Value.int 82 0, Value.int 1 0, Value.int 0 0, Value.int 0 0, Value.int 3 0, Value.ref 146, Value.bool true, Value.int 181 0, Value.ref 147, Value.none, Value.ref 148, Value.ref 149, Value.ref 150, Value.int 380 0, Value.int 82 0, Value.str (Str.ofString "/claim/cut.py") 381] }
noncomputable def ob192 : Params → Obj := fun P => { cls := Value.type "function", data := Data.func { name := Str.ofString "take_number", qualname := Str.ofString "Space.take_number", params := fdArgs (meth 17 6), body := FuncBody.stmts (fdBody (meth 17 6)), scope := fdScope (meth 17 6), globals := 3, closure := [], defaults := Value.none, kwdefaults := Value.none, pyModule := Value.str (Str.ofString "quic.spaces") 275, code := Value.ref 151 } }
noncomputable def ob195 : Params → Obj := fun P => { cls := Value.type "tuple", data := Data.seq #[Value.str (Str.ofString "self") 386, Value.str (Str.ofString "number") 387, Value.str (Str.ofString "now") 388, Value.str (Str.ofString "size") 389, Value.str (Str.ofString "frames") 390, Value.str (Str.ofString "packet") 391] }
noncomputable def ob197 : Params → Obj := fun P => { cls := Value.none, data := Data.func { name := Str.ofString "on_sent", qualname := Str.ofString "Space.on_sent", params := fdArgs (meth 17 7), body := FuncBody.stmts (fdBody (meth 17 7)), scope := fdScope (meth 17 7), globals := 0, closure := [], defaults := Value.none, kwdefaults := Value.none } }
noncomputable def ob198 : Params → Obj := fun P => { cls := Value.type "code", data := Data.fields #[Value.str (Str.ofString "on_sent") 383, Value.str (Str.ofString "Space.on_sent") 384, Value.str (Str.ofString "/claim/cut.py") 385, Value.int 86 0, Value.int 5 0, Value.int 0 0, Value.int 0 0, Value.int 3 0, Value.ref 153, Value.bool true, Value.int 181 0, Value.ref 154, Value.none, Value.ref 155, Value.ref 156, Value.ref 157, Value.int 392 0, Value.int 86 0, Value.str (Str.ofString "/claim/cut.py") 393] }
noncomputable def ob199 : Params → Obj := fun P => { cls := Value.type "function", data := Data.func { name := Str.ofString "on_sent", qualname := Str.ofString "Space.on_sent", params := fdArgs (meth 17 7), body := FuncBody.stmts (fdBody (meth 17 7)), scope := fdScope (meth 17 7), globals := 3, closure := [], defaults := Value.none, kwdefaults := Value.none, pyModule := Value.str (Str.ofString "quic.spaces") 275, code := Value.ref 158 } }
noncomputable def ob202 : Params → Obj := fun P => { cls := Value.none, data := Data.func { name := Str.ofString "take", qualname := Str.ofString "Space.take", params := fdArgs (meth 17 8), body := FuncBody.stmts (fdBody (meth 17 8)), scope := fdScope (meth 17 8), globals := 0, closure := [], defaults := Value.none, kwdefaults := Value.none } }
noncomputable def ob203 : Params → Obj := fun P => { cls := Value.type "code", data := Data.fields #[Value.str (Str.ofString "take") 395, Value.str (Str.ofString "Space.take") 396, Value.str (Str.ofString "/claim/cut.py") 397, Value.int 93 0, Value.int 2 0, Value.int 0 0, Value.int 0 0, Value.int 3 0, Value.ref 160, Value.bool true, Value.int 181 0, Value.ref 161, Value.none, Value.none, Value.none, Value.ref 162, Value.int 398 0, Value.int 93 0, Value.str (Str.ofString "/claim/cut.py") 399] }
noncomputable def ob204 : Params → Obj := fun P => { cls := Value.type "function", data := Data.func { name := Str.ofString "take", qualname := Str.ofString "Space.take", params := fdArgs (meth 17 8), body := FuncBody.stmts (fdBody (meth 17 8)), scope := fdScope (meth 17 8), globals := 3, closure := [], defaults := Value.none, kwdefaults := Value.none, pyModule := Value.str (Str.ofString "quic.spaces") 275, code := Value.ref 163 } }
noncomputable def ob207 : Params → Obj := fun P => { cls := Value.type "tuple", data := Data.seq #[Value.str (Str.ofString "self") 404, Value.str (Str.ofString "ranges") 405] }
noncomputable def ob209 : Params → Obj := fun P => { cls := Value.none, data := Data.func { name := Str.ofString "acked_by", qualname := Str.ofString "Space.acked_by", params := fdArgs (meth 17 9), body := FuncBody.stmts (fdBody (meth 17 9)), scope := fdScope (meth 17 9), globals := 0, closure := [], defaults := Value.none, kwdefaults := Value.none } }
noncomputable def ob210 : Params → Obj := fun P => { cls := Value.type "code", data := Data.fields #[Value.str (Str.ofString "acked_by") 401, Value.str (Str.ofString "Space.acked_by") 402, Value.str (Str.ofString "/claim/cut.py") 403, Value.int 97 0, Value.int 2 0, Value.int 0 0, Value.int 0 0, Value.int 3 0, Value.ref 165, Value.bool true, Value.int 181 0, Value.ref 166, Value.none, Value.ref 167, Value.ref 168, Value.ref 169, Value.int 406 0, Value.int 97 0, Value.str (Str.ofString "/claim/cut.py") 407] }
noncomputable def ob211 : Params → Obj := fun P => { cls := Value.type "function", data := Data.func { name := Str.ofString "acked_by", qualname := Str.ofString "Space.acked_by", params := fdArgs (meth 17 9), body := FuncBody.stmts (fdBody (meth 17 9)), scope := fdScope (meth 17 9), globals := 3, closure := [], defaults := Value.none, kwdefaults := Value.none, pyModule := Value.str (Str.ofString "quic.spaces") 275, code := Value.ref 170 } }
noncomputable def ob214 : Params → Obj := fun P => { cls := Value.type "tuple", data := Data.seq #[Value.str (Str.ofString "self") 412, Value.str (Str.ofString "numbers") 413] }
noncomputable def ob216 : Params → Obj := fun P => { cls := Value.none, data := Data.func { name := Str.ofString "note_acked", qualname := Str.ofString "Space.note_acked", params := fdArgs (meth 17 10), body := FuncBody.stmts (fdBody (meth 17 10)), scope := fdScope (meth 17 10), globals := 0, closure := [], defaults := Value.none, kwdefaults := Value.none } }
noncomputable def ob217 : Params → Obj := fun P => { cls := Value.type "code", data := Data.fields #[Value.str (Str.ofString "note_acked") 409, Value.str (Str.ofString "Space.note_acked") 410, Value.str (Str.ofString "/claim/cut.py") 411, Value.int 100 0, Value.int 2 0, Value.int 0 0, Value.int 0 0, Value.int 3 0, Value.ref 172, Value.bool true, Value.int 181 0, Value.ref 173, Value.none, Value.ref 174, Value.ref 175, Value.ref 176, Value.int 414 0, Value.int 100 0, Value.str (Str.ofString "/claim/cut.py") 415] }
noncomputable def ob218 : Params → Obj := fun P => { cls := Value.type "function", data := Data.func { name := Str.ofString "note_acked", qualname := Str.ofString "Space.note_acked", params := fdArgs (meth 17 10), body := FuncBody.stmts (fdBody (meth 17 10)), scope := fdScope (meth 17 10), globals := 3, closure := [], defaults := Value.none, kwdefaults := Value.none, pyModule := Value.str (Str.ofString "quic.spaces") 275, code := Value.ref 177 } }
noncomputable def ob221 : Params → Obj := fun P => { cls := Value.type "tuple", data := Data.seq #[Value.str (Str.ofString "self") 420, Value.str (Str.ofString "ranges") 421] }
noncomputable def ob223 : Params → Obj := fun P => { cls := Value.none, data := Data.func { name := Str.ofString "note_ranges", qualname := Str.ofString "Space.note_ranges", params := fdArgs (meth 17 11), body := FuncBody.stmts (fdBody (meth 17 11)), scope := fdScope (meth 17 11), globals := 0, closure := [], defaults := Value.none, kwdefaults := Value.none } }
noncomputable def ob224 : Params → Obj := fun P => { cls := Value.type "code", data := Data.fields #[Value.str (Str.ofString "note_ranges") 417, Value.str (Str.ofString "Space.note_ranges") 418, Value.str (Str.ofString "/claim/cut.py") 419, Value.int 103 0, Value.int 2 0, Value.int 0 0, Value.int 0 0, Value.int 3 0, Value.ref 179, Value.bool true, Value.int 181 0, Value.ref 180, Value.none, Value.ref 181, Value.ref 182, Value.ref 183, Value.int 422 0, Value.int 103 0, Value.str (Str.ofString "/claim/cut.py") 423] }
noncomputable def ob225 : Params → Obj := fun P => { cls := Value.type "function", data := Data.func { name := Str.ofString "note_ranges", qualname := Str.ofString "Space.note_ranges", params := fdArgs (meth 17 11), body := FuncBody.stmts (fdBody (meth 17 11)), scope := fdScope (meth 17 11), globals := 3, closure := [], defaults := Value.none, kwdefaults := Value.none, pyModule := Value.str (Str.ofString "quic.spaces") 275, code := Value.ref 184 } }
noncomputable def ob228 : Params → Obj := fun P => { cls := Value.type "tuple", data := Data.seq #[Value.str (Str.ofString "self") 428, Value.str (Str.ofString "ranges") 429] }
noncomputable def ob230 : Params → Obj := fun P => { cls := Value.none, data := Data.func { name := Str.ofString "is_beyond", qualname := Str.ofString "Space.is_beyond", params := fdArgs (meth 17 12), body := FuncBody.stmts (fdBody (meth 17 12)), scope := fdScope (meth 17 12), globals := 0, closure := [], defaults := Value.none, kwdefaults := Value.none } }
noncomputable def ob231 : Params → Obj := fun P => { cls := Value.type "code", data := Data.fields #[Value.str (Str.ofString "is_beyond") 425, Value.str (Str.ofString "Space.is_beyond") 426, Value.str (Str.ofString "/claim/cut.py") 427, Value.int 106 0, Value.int 2 0, Value.int 0 0, Value.int 0 0, Value.int 3 0, Value.ref 186, Value.bool true, Value.int 181 0, Value.ref 187, Value.none, Value.ref 188, Value.ref 189, Value.ref 190, Value.int 430 0, Value.int 106 0, Value.str (Str.ofString "/claim/cut.py") 431] }
noncomputable def ob232 : Params → Obj := fun P => { cls := Value.type "function", data := Data.func { name := Str.ofString "is_beyond", qualname := Str.ofString "Space.is_beyond", params := fdArgs (meth 17 12), body := FuncBody.stmts (fdBody (meth 17 12)), scope := fdScope (meth 17 12), globals := 3, closure := [], defaults := Value.none, kwdefaults := Value.none, pyModule := Value.str (Str.ofString "quic.spaces") 275, code := Value.ref 191 } }
noncomputable def ob235 : Params → Obj := fun P => { cls := Value.type "tuple", data := Data.seq #[Value.str (Str.ofString "self") 436, Value.str (Str.ofString "number") 437] }
noncomputable def ob237 : Params → Obj := fun P => { cls := Value.none, data := Data.func { name := Str.ofString "note_largest", qualname := Str.ofString "Space.note_largest", params := fdArgs (meth 17 13), body := FuncBody.stmts (fdBody (meth 17 13)), scope := fdScope (meth 17 13), globals := 0, closure := [], defaults := Value.none, kwdefaults := Value.none } }
noncomputable def ob238 : Params → Obj := fun P => { cls := Value.type "code", data := Data.fields #[Value.str (Str.ofString "note_largest") 433, Value.str (Str.ofString "Space.note_largest") 434, Value.str (Str.ofString "/claim/cut.py") 435, Value.int 109 0, Value.int 2 0, Value.int 0 0, Value.int 0 0, Value.int 3 0, Value.ref 193, Value.bool true, Value.int 181 0, Value.ref 194, Value.none, Value.ref 195, Value.ref 196, Value.ref 197, Value.int 438 0, Value.int 109 0, Value.str (Str.ofString "/claim/cut.py") 439] }
noncomputable def ob239 : Params → Obj := fun P => { cls := Value.type "function", data := Data.func { name := Str.ofString "note_largest", qualname := Str.ofString "Space.note_largest", params := fdArgs (meth 17 13), body := FuncBody.stmts (fdBody (meth 17 13)), scope := fdScope (meth 17 13), globals := 3, closure := [], defaults := Value.none, kwdefaults := Value.none, pyModule := Value.str (Str.ofString "quic.spaces") 275, code := Value.ref 198 } }
noncomputable def ob242 : Params → Obj := fun P => { cls := Value.type "tuple", data := Data.seq #[Value.str (Str.ofString "self") 444] }
noncomputable def ob244 : Params → Obj := fun P => { cls := Value.none, data := Data.func { name := Str.ofString "eliciting_left", qualname := Str.ofString "Space.eliciting_left", params := fdArgs (meth 17 14), body := FuncBody.stmts (fdBody (meth 17 14)), scope := fdScope (meth 17 14), globals := 0, closure := [], defaults := Value.none, kwdefaults := Value.none } }
noncomputable def ob245 : Params → Obj := fun P => { cls := Value.type "code", data := Data.fields #[Value.str (Str.ofString "eliciting_left") 441, Value.str (Str.ofString "Space.eliciting_left") 442, Value.str (Str.ofString "/claim/cut.py") 443, Value.int 113 0, Value.int 1 0, Value.int 0 0, Value.int 0 0, Value.int 3 0, Value.ref 200, Value.bool true, Value.int 181 0, Value.ref 201, Value.none, Value.ref 202, Value.ref 203, Value.ref 204, Value.int 445 0, Value.int 113 0, Value.str (Str.ofString "/claim/cut.py") 446] }
noncomputable def ob246 : Params → Obj := fun P => { cls := Value.type "function", data := Data.func { name := Str.ofString "eliciting_left", qualname := Str.ofString "Space.eliciting_left", params := fdArgs (meth 17 14), body := FuncBody.stmts (fdBody (meth 17 14)), scope := fdScope (meth 17 14), globals := 3, closure := [], defaults := Value.none, kwdefaults := Value.none, pyModule := Value.str (Str.ofString "quic.spaces") 275, code := Value.ref 205 } }
noncomputable def ob249 : Params → Obj := fun P => { cls := Value.type "tuple", data := Data.seq #[Value.str (Str.ofString "self") 451] }
noncomputable def ob251 : Params → Obj := fun P => { cls := Value.none, data := Data.func { name := Str.ofString "bare_numbers", qualname := Str.ofString "Space.bare_numbers", params := fdArgs (meth 17 15), body := FuncBody.stmts (fdBody (meth 17 15)), scope := fdScope (meth 17 15), globals := 0, closure := [], defaults := Value.none, kwdefaults := Value.none } }
noncomputable def ob252 : Params → Obj := fun P => { cls := Value.type "code", data := Data.fields #[Value.str (Str.ofString "bare_numbers") 448, Value.str (Str.ofString "Space.bare_numbers") 449, Value.str (Str.ofString "/claim/cut.py") 450, Value.int 116 0, Value.int 1 0, Value.int 0 0, Value.int 0 0, Value.int 3 0, Value.ref 207, Value.bool true, Value.int 181 0, Value.ref 208, Value.none, Value.ref 209, Value.ref 210, Value.ref 211, Value.int 452 0, Value.int 116 0, Value.str (Str.ofString "/claim/cut.py") 453] }
noncomputable def ob253 : Params → Obj := fun P => { cls := Value.type "function", data := Data.func { name := Str.ofString "bare_numbers", qualname := Str.ofString "Space.bare_numbers", params := fdArgs (meth 17 15), body := FuncBody.stmts (fdBody (meth 17 15)), scope := fdScope (meth 17 15), globals := 3, closure := [], defaults := Value.none, kwdefaults := Value.none, pyModule := Value.str (Str.ofString "quic.spaces") 275, code := Value.ref 212 } }
noncomputable def ob256 : Params → Obj := fun P => { cls := Value.none, data := Data.func { name := Str.ofString "octets_out", qualname := Str.ofString "Space.octets_out", params := fdArgs (meth 17 16), body := FuncBody.stmts (fdBody (meth 17 16)), scope := fdScope (meth 17 16), globals := 0, closure := [], defaults := Value.none, kwdefaults := Value.none } }
noncomputable def ob257 : Params → Obj := fun P => { cls := Value.type "code", data := Data.fields #[Value.str (Str.ofString "octets_out") 455, Value.str (Str.ofString "Space.octets_out") 456, Value.str (Str.ofString "/claim/cut.py") 457, Value.int 119 0, Value.int 1 0, Value.int 0 0, Value.int 0 0, Value.int 3 0, Value.ref 214, Value.bool true, Value.int 181 0, Value.ref 215, Value.none, Value.none, Value.none, Value.ref 216, Value.int 458 0, Value.int 119 0, Value.str (Str.ofString "/claim/cut.py") 459] }
noncomputable def ob258 : Params → Obj := fun P => { cls := Value.type "function", data := Data.func { name := Str.ofString "octets_out", qualname := Str.ofString "Space.octets_out", params := fdArgs (meth 17 16), body := FuncBody.stmts (fdBody (meth 17 16)), scope := fdScope (meth 17 16), globals := 3, closure := [], defaults := Value.none, kwdefaults := Value.none, pyModule := Value.str (Str.ofString "quic.spaces") 275, code := Value.ref 217 } }
noncomputable def ob261 : Params → Obj := fun P => { cls := Value.type "tuple", data := Data.seq #[Value.str (Str.ofString "self") 464, Value.str (Str.ofString "found") 465, Value.str (Str.ofString "number") 466, Value.str (Str.ofString "packet") 467] }
noncomputable def ob263 : Params → Obj := fun P => { cls := Value.none, data := Data.func { name := Str.ofString "sent_rows", qualname := Str.ofString "Space.sent_rows", params := fdArgs (meth 17 17), body := FuncBody.stmts (fdBody (meth 17 17)), scope := fdScope (meth 17 17), globals := 0, closure := [], defaults := Value.none, kwdefaults := Value.none } }
noncomputable def ob264 : Params → Obj := fun P => { cls := Value.type "code", data := Data.fields #[Value.str (Str.ofString "sent_rows") 461, Value.str (Str.ofString "Space.sent_rows") 462, Value.str (Str.ofString "/claim/cut.py") 463, Value.int 122 0, Value.int 1 0, Value.int 0 0, Value.int 0 0, Value.int 3 0, Value.ref 219, Value.bool true, Value.int 181 0, Value.ref 220, Value.none, Value.ref 221, Value.ref 222, Value.ref 223, Value.int 468 0, Value.int 122 0, Value.str (Str.ofString "/claim/cut.py") 469] }
noncomputable def ob265 : Params → Obj := fun P => { cls := Value.type "function", data := Data.func { name := Str.ofString "sent_rows", qualname := Str.ofString "Space.sent_rows", params := fdArgs (meth 17 17), body := FuncBody.stmts (fdBody (meth 17 17)), scope := fdScope (meth 17 17), globals := 3, closure := [], defaults := Value.none, kwdefaults := Value.none, pyModule := Value.str (Str.ofString "quic.spaces") 275, code := Value.ref 224 } }
noncomputable def ob268 : Params → Obj := fun P => { cls := Value.type "tuple", data := Data.seq #[Value.str (Str.ofString "self") 474] }
noncomputable def ob270 : Params → Obj := fun P => { cls := Value.none, data := Data.func { name := Str.ofString "forget", qualname := Str.ofString "Space.forget", params := fdArgs (meth 17 18), body := FuncBody.stmts (fdBody (meth 17 18)), scope := fdScope (meth 17 18), globals := 0, closure := [], defaults := Value.none, kwdefaults := Value.none } }
noncomputable def ob271 : Params → Obj := fun P => { cls := Value.type "code", data := Data.fields #[Value.str (Str.ofString "forget") 471, Value.str (Str.ofString "Space.forget") 472, Value.str (Str.ofString "/claim/cut.py") 473, Value.int 129 0, Value.int 1 0, Value.int 0 0, Value.int 0 0, Value.int 3 0, Value.ref 226, Value.bool true, Value.int 181 0, Value.ref 227, Value.none, Value.ref 228, Value.ref 229, Value.ref 230, Value.int 475 0, Value.int 129 0, Value.str (Str.ofString "/claim/cut.py") 476] }
noncomputable def ob272 : Params → Obj := fun P => { cls := Value.type "function", data := Data.func { name := Str.ofString "forget", qualname := Str.ofString "Space.forget", params := fdArgs (meth 17 18), body := FuncBody.stmts (fdBody (meth 17 18)), scope := fdScope (meth 17 18), globals := 3, closure := [], defaults := Value.none, kwdefaults := Value.none, pyModule := Value.str (Str.ofString "quic.spaces") 275, code := Value.ref 231 } }
noncomputable def ob273 : Params → Obj := fun P => { cls := Value.type "tuple", data := Data.seq #[Value.str (Str.ofString "acked") 478, Value.str (Str.ofString "ecn") 479, Value.str (Str.ofString "first_unacked") 480, Value.str (Str.ofString "floor") 481, Value.str (Str.ofString "has_new") 482, Value.str (Str.ofString "is_gone") 483, Value.str (Str.ofString "largest_acked") 484, Value.str (Str.ofString "largest_seen") 485, Value.str (Str.ofString "largest_time") 486, Value.str (Str.ofString "last_eliciting_time") 487, Value.str (Str.ofString "loss_time") 488, Value.str (Str.ofString "name") 489, Value.str (Str.ofString "next_number") 490, Value.str (Str.ofString "received") 491, Value.str (Str.ofString "sent") 492, Value.str (Str.ofString "unacked") 493, Value.str (Str.ofString "wants_now") 494] }
noncomputable def ob274 : Params → Obj := fun P => { cls := Value.type "dict", data := Data.dict #[{ hash := PyData.keyHash P (Str.ofString "__module__"), key := Value.str (Str.ofString "__module__") 321, val := Value.str (Str.ofString "quic.spaces") 275 }, { hash := PyData.keyHash P (Str.ofString "__firstlineno__"), key := Value.str (Str.ofString "__firstlineno__") 325, val := Value.int 46 324 }, { hash := PyData.keyHash P (Str.ofString "__init__"), key := Value.str (Str.ofString "__init__") 333, val := Value.ref 110 }, { hash := PyData.keyHash P (Str.ofString "is_known"), key := Value.str (Str.ofString "is_known") 341, val := Value.ref 117 }, { hash := PyData.keyHash P (Str.ofString "on_received"), key := Value.str (Str.ofString "on_received") 352, val := Value.ref 124 }, { hash := PyData.keyHash P (Str.ofString "ack_frame"), key := Value.str (Str.ofString "ack_frame") 361, val := Value.ref 131 }, { hash := PyData.keyHash P (Str.ofString "on_ack_sent"), key := Value.str (Str.ofString "on_ack_sent") 368, val := Value.ref 138 }, { hash := PyData.keyHash P (Str.ofString "owes_ack"), key := Value.str (Str.ofString "owes_ack") 375, val := Value.ref 145 }, { hash := PyData.keyHash P (Str.ofString "take_number"), key := Value.str (Str.ofString "take_number") 382, val := Value.ref 152 }, { hash := PyData.keyHash P (Str.ofString "on_sent"), key := Value.str (Str.ofString "on_sent") 394, val := Value.ref 159 }, { hash := PyData.keyHash P (Str.ofString "take"), key := Value.str (Str.ofString "take") 400, val := Value.ref 164 }, { hash := PyData.keyHash P (Str.ofString "acked_by"), key := Value.str (Str.ofString "acked_by") 408, val := Value.ref 171 }, { hash := PyData.keyHash P (Str.ofString "note_acked"), key := Value.str (Str.ofString "note_acked") 416, val := Value.ref 178 }, { hash := PyData.keyHash P (Str.ofString "note_ranges"), key := Value.str (Str.ofString "note_ranges") 424, val := Value.ref 185 }, { hash := PyData.keyHash P (Str.ofString "is_beyond"), key := Value.str (Str.ofString "is_beyond") 432, val := Value.ref 192 }, { hash := PyData.keyHash P (Str.ofString "note_largest"), key := Value.str (Str.ofString "note_largest") 440, val := Value.ref 199 }, { hash := PyData.keyHash P (Str.ofString "eliciting_left"), key := Value.str (Str.ofString "eliciting_left") 447, val := Value.ref 206 }, { hash := PyData.keyHash P (Str.ofString "bare_numbers"), key := Value.str (Str.ofString "bare_numbers") 454, val := Value.ref 213 }, { hash := PyData.keyHash P (Str.ofString "octets_out"), key := Value.str (Str.ofString "octets_out") 460, val := Value.ref 218 }, { hash := PyData.keyHash P (Str.ofString "sent_rows"), key := Value.str (Str.ofString "sent_rows") 470, val := Value.ref 225 }, { hash := PyData.keyHash P (Str.ofString "forget"), key := Value.str (Str.ofString "forget") 477, val := Value.ref 232 }, { hash := PyData.keyHash P (Str.ofString "__static_attributes__"), key := Value.str (Str.ofString "__static_attributes__") 495, val := Value.ref 233 }, { hash := PyData.keyHash P (Str.ofString "__dict__"), key := Value.str (Str.ofString "__dict__") 497, val := Value.ref 236 }, { hash := PyData.keyHash P (Str.ofString "__weakref__"), key := Value.str (Str.ofString "__weakref__") 499, val := Value.ref 237 }, { hash := PyData.keyHash P (Str.ofString "__doc__"), key := Value.str (Str.ofString "__doc__") 500, val := Value.none }] 4 }
noncomputable def ob275 : Params → Obj := fun P => { cls := Value.type "type", data := Data.cls { name := Str.ofString "Space", bases := [Value.type "object"], mro := [Value.ref 235, Value.type "object"], ns := 234, qualname := Str.ofString "Space" }, slots := #[none, none, some (Value.str (Str.ofString "Space") 314), some (Value.str (Str.ofString "Space") 322), some (Value.builtin "object.__new__"), some (Value.bool true)] }
noncomputable def ob276 : Params → Obj := fun P => { cls := Value.type "getset_descriptor", data := Data.fields #[Value.str (Str.ofString "__dict__") 496, Value.ref 235, Value.builtin "function.__dict__", Value.builtin "function.__dict__#set"] }
noncomputable def ob277 : Params → Obj := fun P => { cls := Value.type "getset_descriptor", data := Data.fields #[Value.str (Str.ofString "__weakref__") 498, Value.ref 235, Value.builtin "ExceptionGroup.__weakref__", Value.none] }
noncomputable def ob278 : Params → Obj := fun P => { cls := Value.type "super", data := Data.fields #[Value.ref 235, Value.ref 235, Value.ref 235] }
noncomputable def ob279 : Params → Obj := fun P => { cls := Value.type "builtin_function_or_method", data := Data.fields #[Value.builtin "object.__init_subclass__", Value.ref 235] }
noncomputable def ob366 : Params → Obj := fun P => { cls := Value.type "dict", data := Data.dict #[{ hash := PyData.keyHash P (Str.ofString "__name__"), key := Value.str (Str.ofString "__name__") 165, val := Value.str (Str.ofString "law_sa0568_01") 503 }, { hash := PyData.keyHash P (Str.ofString "__doc__"), key := Value.str (Str.ofString "__doc__") 166, val := Value.none }, { hash := PyData.keyHash P (Str.ofString "__package__"), key := Value.str (Str.ofString "__package__") 167, val := Value.none }, { hash := PyData.keyHash P (Str.ofString "__loader__"), key := Value.str (Str.ofString "__loader__") 168, val := Value.builtin "__main__.__loader__#opaque" }, { hash := PyData.keyHash P (Str.ofString "__spec__"), key := Value.str (Str.ofString "__spec__") 169, val := Value.none }, { hash := PyData.keyHash P (Str.ofString "__annotations__"), key := Value.str (Str.ofString "__annotations__") 170, val := Value.ref 6 }, { hash := PyData.keyHash P (Str.ofString "__builtins__"), key := Value.str (Str.ofString "__builtins__") 171, val := Value.ref 4 }, { hash := PyData.keyHash P (Str.ofString "__file__"), key := Value.str (Str.ofString "__file__") 173, val := Value.str (Str.ofString "/claim/cut.py") 172 }, { hash := PyData.keyHash P (Str.ofString "__cached__"), key := Value.str (Str.ofString "__cached__") 174, val := Value.none }, { hash := PyData.keyHash P (Str.ofString "_wall"), key := Value.str (Str.ofString "_wall") 193, val := Value.ref 21 }, { hash := PyData.keyHash P (Str.ofString "PACKET_THRESHOLD"), key := Value.str (Str.ofString "PACKET_THRESHOLD") 197, val := Value.int 3 196 }, { hash := PyData.keyHash P (Str.ofString "is_lost"), key := Value.str (Str.ofString "is_lost") 208, val := Value.ref 28 }, { hash := PyData.keyHash P (Str.ofString "detect_lost"), key := Value.str (Str.ofString "detect_lost") 222, val := Value.ref 35 }, { hash := PyData.keyHash P (Str.ofString "flight_size"), key := Value.str (Str.ofString "flight_size") 228, val := Value.ref 40 }, { hash := PyData.keyHash P (Str.ofString "NOT_ELICITING"), key := Value.str (Str.ofString "NOT_ELICITING") 234, val := Value.ref 41 }, { hash := PyData.keyHash P (Str.ofString "is_eliciting"), key := Value.str (Str.ofString "is_eliciting") 241, val := Value.ref 48 }, { hash := PyData.keyHash P (Str.ofString "counts_in_flight"), key := Value.str (Str.ofString "counts_in_flight") 248, val := Value.ref 55 }, { hash := PyData.keyHash P (Str.ofString "any_eliciting"), key := Value.str (Str.ofString "any_eliciting") 254, val := Value.ref 60 }, { hash := PyData.keyHash P (Str.ofString "any_in_flight"), key := Value.str (Str.ofString "any_in_flight") 260, val := Value.ref 65 }, { hash := PyData.keyHash P (Str.ofString "has_number"), key := Value.str (Str.ofString "has_number") 268, val := Value.ref 70 }, { hash := PyData.keyHash P (Str.ofString "newly_acked"), key := Value.str (Str.ofString "newly_acked") 274, val := Value.ref 75 }, { hash := PyData.keyHash P (Str.ofString "SentPacket"), key := Value.str (Str.ofString "SentPacket") 313, val := Value.ref 92 }, { hash := PyData.keyHash P (Str.ofString "Space"), key := Value.str (Str.ofString "Space") 502, val := Value.ref 235 }, { hash := PyData.keyHash P (Str.ofString "_law_take"), key := Value.str (Str.ofString "_law_take") 512, val := Value.ref 246 }, { hash := PyData.keyHash P (Str.ofString "_law_run"), key := Value.str (Str.ofString "_law_run") 518, val := Value.ref 251 }, { hash := PyData.keyHash P (Str.ofString "law"), key := Value.str (Str.ofString "law") 524, val := Value.ref 256 }] 26 }
noncomputable def ob367 : Params → Obj := fun P => { cls := Value.none, data := Data.fields #[Value.int 1 0, Value.int 0 0, Value.ref 20, Value.int 6 0, Value.int 0 0, Value.ref 27, Value.int 8 0, Value.int 0 0, Value.ref 34, Value.int 19 0, Value.int 0 0, Value.ref 39, Value.int 23 0, Value.int 0 0, Value.ref 47, Value.int 25 0, Value.int 0 0, Value.ref 54, Value.int 27 0, Value.int 0 0, Value.ref 59, Value.int 29 0, Value.int 0 0, Value.ref 64, Value.int 32 0, Value.int 0 0, Value.ref 69, Value.int 34 0, Value.int 0 0, Value.ref 74, Value.int 37 0, Value.int 0 0, Value.ref 81, Value.int 46 0, Value.int 0 0, Value.ref 102, Value.int 132 0, Value.int 0 0, Value.ref 245, Value.int 137 0, Value.int 0 0, Value.ref 250, Value.int 160 0, Value.int 0 0, Value.ref 255] }
noncomputable def ob370 : Params → Obj := fun P => { cls := Value.type "tuple", data := Data.seq #[Value.str (Str.ofString "box") 508, Value.str (Str.ofString "many") 509] }
noncomputable def ob372 : Params → Obj := fun P => { cls := Value.none, data := Data.func { name := Str.ofString "_law_take", qualname := Str.ofString "_law_take", params := fdArgs (top 19), body := FuncBody.stmts (fdBody (top 19)), scope := fdScope (top 19), globals := 0, closure := [], defaults := Value.none, kwdefaults := Value.none } }
noncomputable def ob373 : Params → Obj := fun P => { cls := Value.type "code", data := Data.fields #[Value.str (Str.ofString "_law_take") 505, Value.str (Str.ofString "_law_take") 506, Value.str (Str.ofString "/claim/cut.py") 507, Value.int 132 0, Value.int 2 0, Value.int 0 0, Value.int 0 0, Value.int 3 0, Value.ref 240, Value.bool true, Value.int 181 0, Value.ref 241, Value.none, Value.ref 242, Value.ref 243, Value.ref 244, Value.int 510 0, Value.int 132 0, Value.str (Str.ofString "/claim/cut.py") 511] }
noncomputable def ob374 : Params → Obj := fun P => { cls := Value.type "function", data := Data.func { name := Str.ofString "_law_take", qualname := Str.ofString "_law_take", params := fdArgs (top 19), body := FuncBody.stmts (fdBody (top 19)), scope := fdScope (top 19), globals := 3, closure := [], defaults := Value.none, kwdefaults := Value.none, pyModule := Value.str (Str.ofString "law_sa0568_01") 503, code := Value.ref 245 } }
noncomputable def ob377 : Params → Obj := fun P => { cls := Value.none, data := Data.func { name := Str.ofString "_law_run", qualname := Str.ofString "_law_run", params := fdArgs (top 20), body := FuncBody.stmts (fdBody (top 20)), scope := fdScope (top 20), globals := 0, closure := [], defaults := Value.none, kwdefaults := Value.none } }
noncomputable def ob378 : Params → Obj := fun P => { cls := Value.type "code", data := Data.fields #[Value.str (Str.ofString "_law_run") 513, Value.str (Str.ofString "_law_run") 514, Value.str (Str.ofString "/claim/cut.py") 515, Value.int 137 0, Value.int 3 0, Value.int 0 0, Value.int 0 0, Value.int 3 0, Value.ref 247, Value.bool true, Value.int 181 0, Value.ref 248, Value.none, Value.none, Value.none, Value.ref 249, Value.int 516 0, Value.int 137 0, Value.str (Str.ofString "/claim/cut.py") 517] }
noncomputable def ob379 : Params → Obj := fun P => { cls := Value.type "function", data := Data.func { name := Str.ofString "_law_run", qualname := Str.ofString "_law_run", params := fdArgs (top 20), body := FuncBody.stmts (fdBody (top 20)), scope := fdScope (top 20), globals := 3, closure := [], defaults := Value.none, kwdefaults := Value.none, pyModule := Value.str (Str.ofString "law_sa0568_01") 503, code := Value.ref 250 } }
noncomputable def ob382 : Params → Obj := fun P => { cls := Value.none, data := Data.func { name := Str.ofString "law", qualname := Str.ofString "law", params := fdArgs (top 21), body := FuncBody.stmts (fdBody (top 21)), scope := fdScope (top 21), globals := 0, closure := [], defaults := Value.none, kwdefaults := Value.none } }
noncomputable def ob383 : Params → Obj := fun P => { cls := Value.type "code", data := Data.fields #[Value.str (Str.ofString "law") 519, Value.str (Str.ofString "law") 520, Value.str (Str.ofString "/claim/cut.py") 521, Value.int 160 0, Value.int 1 0, Value.int 0 0, Value.int 0 0, Value.int 3 0, Value.ref 252, Value.bool true, Value.int 181 0, Value.ref 253, Value.none, Value.none, Value.none, Value.ref 254, Value.int 522 0, Value.int 160 0, Value.str (Str.ofString "/claim/cut.py") 523] }
noncomputable def ob384 : Params → Obj := fun P => { cls := Value.type "function", data := Data.func { name := Str.ofString "law", qualname := Str.ofString "law", params := fdArgs (top 21), body := FuncBody.stmts (fdBody (top 21)), scope := fdScope (top 21), globals := 3, closure := [], defaults := Value.none, kwdefaults := Value.none, pyModule := Value.str (Str.ofString "law_sa0568_01") 503, code := Value.ref 255 } }
noncomputable def tr47 : Params → BT := fun P => .node (boot_o_0 P) (.node (boot_o_1 P) (.node (boot_o_3 P) (.node (boot_o_7 P) .nil .nil) (.node (ob43 P) .nil .nil)) (.node (boot_o_5 P) (.node (boot_o_9 P) .nil .nil) (.node (ob45 P) .nil .nil))) (.node (boot_o_2 P) (.node (boot_o_4 P) (.node (boot_o_8 P) .nil .nil) (.node (ob44 P) .nil .nil)) (.node (boot_o_6 P) (.node (boot_o_10 P) .nil .nil) (.node (ob46 P) .nil .nil)))
noncomputable def tr134 : Params → BT := fun P => .node (boot_o_0 P) (.node (boot_o_1 P) (.node (ob112 P) (.node (boot_o_7 P) (.node (ob43 P) (.node (ob67 P) (.node (ob99 P) .nil .nil) (.node (ob133 P) .nil .nil)) (.node (ob83 P) (.node (ob43 P) .nil .nil) .nil)) (.node (ob44 P) (.node (ob75 P) (.node (ob43 P) .nil .nil) .nil) (.node (ob91 P) (.node (ob125 P) .nil .nil) .nil))) (.node (ob43 P) (.node (ob55 P) (.node (ob71 P) (.node (ob44 P) .nil .nil) .nil) (.node (ob87 P) (.node (ob43 P) .nil .nil) .nil)) (.node (ob63 P) (.node (ob44 P) (.node (ob111 P) .nil .nil) .nil) (.node (ob95 P) (.node (ob129 P) .nil .nil) .nil)))) (.node (boot_o_5 P) (.node (boot_o_9 P) (.node (ob53 P) (.node (ob69 P) (.node (ob101 P) .nil .nil) .nil) (.node (ob43 P) (.node (ob119 P) .nil .nil) .nil)) (.node (ob43 P) (.node (ob77 P) (.node (ob109 P) .nil .nil) .nil) (.node (ob44 P) (.node (ob127 P) .nil .nil) .nil))) (.node (ob45 P) (.node (ob57 P) (.node (ob44 P) (.node (ob105 P) .nil .nil) .nil) (.node (ob89 P) (.node (ob123 P) .nil .nil) .nil)) (.node (ob43 P) (.node (ob43 P) (.node (ob115 P) .nil .nil) .nil) (.node (ob43 P) (.node (ob131 P) .nil .nil) .nil))))) (.node (boot_o_2 P) (.node (boot_o_4 P) (.node (boot_o_8 P) (.node (ob44 P) (.node (ob43 P) (.node (ob100 P) .nil .nil) (.node (ob134 P) .nil .nil)) (.node (ob84 P) (.node (ob118 P) .nil .nil) .nil)) (.node (ob60 P) (.node (ob76 P) (.node (ob44 P) .nil .nil) .nil) (.node (ob43 P) (.node (ob126 P) .nil .nil) .nil))) (.node (ob113 P) (.node (ob56 P) (.node (ob43 P) (.node (ob104 P) .nil .nil) .nil) (.node (ob43 P) (.node (ob44 P) .nil .nil) .nil)) (.node (ob64 P) (.node (ob80 P) (.node (ob43 P) .nil .nil) .nil) (.node (ob96 P) (.node (ob130 P) .nil .nil) .nil)))) (.node (boot_o_6 P) (.node (boot_o_10 P) (.node (ob43 P) (.node (ob70 P) (.node (ob43 P) .nil .nil) .nil) (.node (ob44 P) (.node (ob120 P) .nil .nil) .nil)) (.node (ob62 P) (.node (ob43 P) (.node (ob110 P) .nil .nil) .nil) (.node (ob94 P) (.node (ob128 P) .nil .nil) .nil))) (.node (ob46 P) (.node (ob43 P) (.node (ob74 P) (.node (ob106 P) .nil .nil) .nil) (.node (ob90 P) (.node (ob43 P) .nil .nil) .nil)) (.node (ob44 P) (.node (ob82 P) (.node (ob116 P) .nil .nil) .nil) (.node (ob44 P) (.node (ob132 P) .nil .nil) .nil)))))
noncomputable def tr279 : Params → BT := fun P => .node (boot_o_0 P) (.node (boot_o_1 P) (.node (ob135 P) (.node (boot_o_7 P) (.node (ob43 P) (.node (ob67 P) (.node (ob99 P) (.node (ob167 P) .nil .nil) (.node (ob231 P) .nil .nil)) (.node (ob133 P) (.node (ob199 P) .nil .nil) (.node (ob263 P) .nil .nil))) (.node (ob83 P) (.node (ob43 P) (.node (ob183 P) .nil .nil) (.node (ob43 P) .nil .nil)) (.node (ob43 P) (.node (ob43 P) .nil .nil) (.node (ob279 P) .nil .nil)))) (.node (ob44 P) (.node (ob75 P) (.node (ob43 P) (.node (ob43 P) .nil .nil) (.node (ob239 P) .nil .nil)) (.node (ob143 P) (.node (ob207 P) .nil .nil) (.node (ob271 P) .nil .nil))) (.node (ob91 P) (.node (ob125 P) (.node (ob191 P) .nil .nil) (.node (ob44 P) .nil .nil)) (.node (ob44 P) (.node (ob223 P) .nil .nil) .nil)))) (.node (ob43 P) (.node (ob55 P) (.node (ob71 P) (.node (ob44 P) (.node (ob171 P) .nil .nil) (.node (ob235 P) .nil .nil)) (.node (ob139 P) (.node (ob203 P) .nil .nil) (.node (ob44 P) .nil .nil))) (.node (ob87 P) (.node (ob43 P) (.node (ob44 P) .nil .nil) (.node (ob251 P) .nil .nil)) (.node (ob155 P) (.node (ob43 P) .nil .nil) .nil))) (.node (ob63 P) (.node (ob44 P) (.node (ob111 P) (.node (ob43 P) .nil .nil) (.node (ob43 P) .nil .nil)) (.node (ob43 P) (.node (ob211 P) .nil .nil) (.node (ob275 P) .nil .nil))) (.node (ob95 P) (.node (ob129 P) (.node (ob195 P) .nil .nil) (.node (ob43 P) .nil .nil)) (.node (ob163 P) (.node (ob44 P) .nil .nil) .nil))))) (.node (boot_o_5 P) (.node (boot_o_9 P) (.node (ob53 P) (.node (ob69 P) (.node (ob101 P) (.node (ob169 P) .nil .nil) (.node (ob43 P) .nil .nil)) (.node (ob43 P) (.node (ob44 P) .nil .nil) (.node (ob265 P) .nil .nil))) (.node (ob43 P) (.node (ob119 P) (.node (ob185 P) .nil .nil) (.node (ob249 P) .nil .nil)) (.node (ob153 P) (.node (ob217 P) .nil .nil) .nil))) (.node (ob43 P) (.node (ob77 P) (.node (ob109 P) (.node (ob177 P) .nil .nil) (.node (ob44 P) .nil .nil)) (.node (ob44 P) (.node (ob209 P) .nil .nil) (.node (ob273 P) .nil .nil))) (.node (ob44 P) (.node (ob127 P) (.node (ob43 P) .nil .nil) (.node (ob257 P) .nil .nil)) (.node (ob43 P) (.node (ob225 P) .nil .nil) .nil)))) (.node (ob45 P) (.node (ob57 P) (.node (ob44 P) (.node (ob105 P) (.node (ob44 P) .nil .nil) (.node (ob237 P) .nil .nil)) (.node (ob141 P) (.node (ob43 P) .nil .nil) (.node (ob43 P) .nil .nil))) (.node (ob89 P) (.node (ob123 P) (.node (ob43 P) .nil .nil) (.node (ob253 P) .nil .nil)) (.node (ob157 P) (.node (ob221 P) .nil .nil) .nil))) (.node (ob43 P) (.node (ob43 P) (.node (ob115 P) (.node (ob181 P) .nil .nil) (.node (ob245 P) .nil .nil)) (.node (ob149 P) (.node (ob44 P) .nil .nil) (.node (ob277 P) .nil .nil))) (.node (ob43 P) (.node (ob131 P) (.node (ob197 P) .nil .nil) (.node (ob261 P) .nil .nil)) (.node (ob43 P) (.node (ob43 P) .nil .nil) .nil)))))) (.node (boot_o_2 P) (.node (boot_o_4 P) (.node (boot_o_8 P) (.node (ob44 P) (.node (ob43 P) (.node (ob100 P) (.node (ob43 P) .nil .nil) (.node (ob232 P) .nil .nil)) (.node (ob134 P) (.node (ob43 P) .nil .nil) (.node (ob264 P) .nil .nil))) (.node (ob84 P) (.node (ob118 P) (.node (ob184 P) .nil .nil) (.node (ob44 P) .nil .nil)) (.node (ob44 P) (.node (ob216 P) .nil .nil) .nil))) (.node (ob60 P) (.node (ob76 P) (.node (ob44 P) (.node (ob176 P) .nil .nil) (.node (ob43 P) .nil .nil)) (.node (ob43 P) (.node (ob43 P) .nil .nil) (.node (ob272 P) .nil .nil))) (.node (ob43 P) (.node (ob126 P) (.node (ob192 P) .nil .nil) (.node (ob256 P) .nil .nil)) (.node (ob160 P) (.node (ob224 P) .nil .nil) .nil)))) (.node (ob136 P) (.node (ob56 P) (.node (ob43 P) (.node (ob104 P) (.node (ob43 P) .nil .nil) (.node (ob43 P) .nil .nil)) (.node (ob43 P) (.node (ob204 P) .nil .nil) (.node (ob268 P) .nil .nil))) (.node (ob43 P) (.node (ob44 P) (.node (ob188 P) .nil .nil) (.node (ob252 P) .nil .nil)) (.node (ob156 P) (.node (ob44 P) .nil .nil) .nil))) (.node (ob64 P) (.node (ob80 P) (.node (ob43 P) (.node (ob44 P) .nil .nil) (.node (ob244 P) .nil .nil)) (.node (ob148 P) (.node (ob43 P) .nil .nil) (.node (ob276 P) .nil .nil))) (.node (ob96 P) (.node (ob130 P) (.node (ob43 P) .nil .nil) (.node (ob44 P) .nil .nil)) (.node (ob164 P) (.node (ob228 P) .nil .nil) .nil))))) (.node (boot_o_6 P) (.node (boot_o_10 P) (.node (ob43 P) (.node (ob70 P) (.node (ob43 P) (.node (ob170 P) .nil .nil) (.node (ob44 P) .nil .nil)) (.node (ob115 P) (.node (ob202 P) .nil .nil) (.node (ob43 P) .nil .nil))) (.node (ob44 P) (.node (ob120 P) (.node (ob43 P) .nil .nil) (.node (ob43 P) .nil .nil)) (.node (ob43 P) (.node (ob218 P) .nil .nil) .nil))) (.node (ob62 P) (.node (ob43 P) (.node (ob110 P) (.node (ob178 P) .nil .nil) (.node (ob242 P) .nil .nil)) (.node (ob146 P) (.node (ob210 P) .nil .nil) (.node (ob274 P) .nil .nil))) (.node (ob94 P) (.node (ob128 P) (.node (ob44 P) .nil .nil) (.node (ob258 P) .nil .nil)) (.node (ob162 P) (.node (ob43 P) .nil .nil) .nil)))) (.node (ob46 P) (.node (ob43 P) (.node (ob74 P) (.node (ob106 P) (.node (ob174 P) .nil .nil) (.node (ob238 P) .nil .nil)) (.node (ob142 P) (.node (ob44 P) .nil .nil) (.node (ob270 P) .nil .nil))) (.node (ob90 P) (.node (ob43 P) (.node (ob190 P) .nil .nil) (.node (ob43 P) .nil .nil)) (.node (ob43 P) (.node (ob43 P) .nil .nil) .nil))) (.node (ob44 P) (.node (ob82 P) (.node (ob116 P) (.node (ob43 P) .nil .nil) (.node (ob246 P) .nil .nil)) (.node (ob150 P) (.node (ob214 P) .nil .nil) (.node (ob278 P) .nil .nil))) (.node (ob44 P) (.node (ob132 P) (.node (ob198 P) .nil .nil) (.node (ob43 P) .nil .nil)) (.node (ob44 P) (.node (ob230 P) .nil .nil) .nil))))))
noncomputable def tr384 : Params → BT := fun P => .node (boot_o_0 P) (.node (boot_o_1 P) (.node (ob366 P) (.node (boot_o_7 P) (.node (ob43 P) (.node (ob67 P) (.node (ob99 P) (.node (ob167 P) (.node (ob383 P) .nil .nil) .nil) (.node (ob231 P) .nil .nil)) (.node (ob133 P) (.node (ob199 P) .nil .nil) (.node (ob263 P) .nil .nil))) (.node (ob83 P) (.node (ob43 P) (.node (ob183 P) .nil .nil) (.node (ob43 P) .nil .nil)) (.node (ob43 P) (.node (ob43 P) .nil .nil) (.node (ob279 P) .nil .nil)))) (.node (ob44 P) (.node (ob75 P) (.node (ob43 P) (.node (ob43 P) .nil .nil) (.node (ob239 P) .nil .nil)) (.node (ob143 P) (.node (ob207 P) .nil .nil) (.node (ob271 P) .nil .nil))) (.node (ob91 P) (.node (ob125 P) (.node (ob191 P) .nil .nil) (.node (ob44 P) .nil .nil)) (.node (ob44 P) (.node (ob223 P) .nil .nil) (.node (ob43 P) .nil .nil))))) (.node (ob43 P) (.node (ob55 P) (.node (ob71 P) (.node (ob44 P) (.node (ob171 P) .nil .nil) (.node (ob235 P) .nil .nil)) (.node (ob139 P) (.node (ob203 P) .nil .nil) (.node (ob44 P) .nil .nil))) (.node (ob87 P) (.node (ob43 P) (.node (ob44 P) .nil .nil) (.node (ob251 P) .nil .nil)) (.node (ob155 P) (.node (ob43 P) .nil .nil) (.node (ob43 P) .nil .nil)))) (.node (ob63 P) (.node (ob44 P) (.node (ob111 P) (.node (ob43 P) .nil .nil) (.node (ob43 P) .nil .nil)) (.node (ob43 P) (.node (ob211 P) .nil .nil) (.node (ob275 P) .nil .nil))) (.node (ob95 P) (.node (ob129 P) (.node (ob195 P) .nil .nil) (.node (ob43 P) .nil .nil)) (.node (ob163 P) (.node (ob44 P) .nil .nil) (.node (ob379 P) .nil .nil)))))) (.node (boot_o_5 P) (.node (boot_o_9 P) (.node (ob53 P) (.node (ob69 P) (.node (ob101 P) (.node (ob169 P) .nil .nil) (.node (ob43 P) .nil .nil)) (.node (ob43 P) (.node (ob44 P) .nil .nil) (.node (ob265 P) .nil .nil))) (.node (ob43 P) (.node (ob119 P) (.node (ob185 P) .nil .nil) (.node (ob249 P) .nil .nil)) (.node (ob153 P) (.node (ob217 P) .nil .nil) (.node (ob44 P) .nil .nil)))) (.node (ob43 P) (.node (ob77 P) (.node (ob109 P) (.node (ob177 P) .nil .nil) (.node (ob44 P) .nil .nil)) (.node (ob44 P) (.node (ob209 P) .nil .nil) (.node (ob273 P) .nil .nil))) (.node (ob44 P) (.node (ob127 P) (.node (ob43 P) .nil .nil) (.node (ob257 P) .nil .nil)) (.node (ob43 P) (.node (ob225 P) .nil .nil) (.node (ob377 P) .nil .nil))))) (.node (ob45 P) (.node (ob57 P) (.node (ob44 P) (.node (ob105 P) (.node (ob44 P) .nil .nil) (.node (ob237 P) .nil .nil)) (.node (ob141 P) (.node (ob43 P) .nil .nil) (.node (ob43 P) .nil .nil))) (.node (ob89 P) (.node (ob123 P) (.node (ob43 P) .nil .nil) (.node (ob253 P) .nil .nil)) (.node (ob157 P) (.node (ob221 P) .nil .nil) (.node (ob373 P) .nil .nil)))) (.node (ob43 P) (.node (ob43 P) (.node (ob115 P) (.node (ob181 P) .nil .nil) (.node (ob245 P) .nil .nil)) (.node (ob149 P) (.node (ob44 P) .nil .nil) (.node (ob277 P) .nil .nil))) (.node (ob43 P) (.node (ob131 P) (.node (ob197 P) .nil .nil) (.node (ob261 P) .nil .nil)) (.node (ob43 P) (.node (ob43 P) .nil .nil) (.node (ob44 P) .nil .nil))))))) (.node (boot_o_2 P) (.node (boot_o_4 P) (.node (boot_o_8 P) (.node (ob44 P) (.node (ob43 P) (.node (ob100 P) (.node (ob43 P) (.node (ob384 P) .nil .nil) .nil) (.node (ob232 P) .nil .nil)) (.node (ob134 P) (.node (ob43 P) .nil .nil) (.node (ob264 P) .nil .nil))) (.node (ob84 P) (.node (ob118 P) (.node (ob184 P) .nil .nil) (.node (ob44 P) .nil .nil)) (.node (ob44 P) (.node (ob216 P) .nil .nil) (.node (ob43 P) .nil .nil)))) (.node (ob60 P) (.node (ob76 P) (.node (ob44 P) (.node (ob176 P) .nil .nil) (.node (ob43 P) .nil .nil)) (.node (ob43 P) (.node (ob43 P) .nil .nil) (.node (ob272 P) .nil .nil))) (.node (ob43 P) (.node (ob126 P) (.node (ob192 P) .nil .nil) (.node (ob256 P) .nil .nil)) (.node (ob160 P) (.node (ob224 P) .nil .nil) (.node (ob44 P) .nil .nil))))) (.node (ob367 P) (.node (ob56 P) (.node (ob43 P) (.node (ob104 P) (.node (ob43 P) .nil .nil) (.node (ob43 P) .nil .nil)) (.node (ob43 P) (.node (ob204 P) .nil .nil) (.node (ob268 P) .nil .nil))) (.node (ob43 P) (.node (ob44 P) (.node (ob188 P) .nil .nil) (.node (ob252 P) .nil .nil)) (.node (ob156 P) (.node (ob44 P) .nil .nil) (.node (ob372 P) .nil .nil)))) (.node (ob64 P) (.node (ob80 P) (.node (ob43 P) (.node (ob44 P) .nil .nil) (.node (ob244 P) .nil .nil)) (.node (ob148 P) (.node (ob43 P) .nil .nil) (.node (ob276 P) .nil .nil))) (.node (ob96 P) (.node (ob130 P) (.node (ob43 P) .nil .nil) (.node (ob44 P) .nil .nil)) (.node (ob164 P) (.node (ob228 P) .nil .nil) (.node (ob43 P) .nil .nil)))))) (.node (boot_o_6 P) (.node (boot_o_10 P) (.node (ob43 P) (.node (ob70 P) (.node (ob43 P) (.node (ob170 P) .nil .nil) (.node (ob44 P) .nil .nil)) (.node (ob115 P) (.node (ob202 P) .nil .nil) (.node (ob43 P) .nil .nil))) (.node (ob44 P) (.node (ob120 P) (.node (ob43 P) .nil .nil) (.node (ob43 P) .nil .nil)) (.node (ob43 P) (.node (ob218 P) .nil .nil) (.node (ob370 P) .nil .nil)))) (.node (ob62 P) (.node (ob43 P) (.node (ob110 P) (.node (ob178 P) .nil .nil) (.node (ob242 P) .nil .nil)) (.node (ob146 P) (.node (ob210 P) .nil .nil) (.node (ob274 P) .nil .nil))) (.node (ob94 P) (.node (ob128 P) (.node (ob44 P) .nil .nil) (.node (ob258 P) .nil .nil)) (.node (ob162 P) (.node (ob43 P) .nil .nil) (.node (ob378 P) .nil .nil))))) (.node (ob46 P) (.node (ob43 P) (.node (ob74 P) (.node (ob106 P) (.node (ob174 P) .nil .nil) (.node (ob238 P) .nil .nil)) (.node (ob142 P) (.node (ob44 P) .nil .nil) (.node (ob270 P) .nil .nil))) (.node (ob90 P) (.node (ob43 P) (.node (ob190 P) .nil .nil) (.node (ob43 P) .nil .nil)) (.node (ob43 P) (.node (ob43 P) .nil .nil) (.node (ob374 P) .nil .nil)))) (.node (ob44 P) (.node (ob82 P) (.node (ob116 P) (.node (ob43 P) .nil .nil) (.node (ob246 P) .nil .nil)) (.node (ob150 P) (.node (ob214 P) .nil .nil) (.node (ob278 P) .nil .nil))) (.node (ob44 P) (.node (ob132 P) (.node (ob198 P) .nil .nil) (.node (ob43 P) .nil .nil)) (.node (ob44 P) (.node (ob230 P) .nil .nil) (.node (ob382 P) .nil .nil)))))))
noncomputable abbrev hP : Program := Challenge.rw_sa0568_01.row.prog
noncomputable def hE : Env := { scope := hP.main.scope, locals := mainNs, globals := mainNs, cells := [], code := Value.ref 13, frame := some 14 }
noncomputable abbrev hC : Code := Code.body (behindTheImports hP) hE
abbrev ps (a b c d : Nat) : Pos := { line := a, col := b, endLine := c, endCol := d }
noncomputable def gA : List Stmt := (behindTheImports hP).take 17
noncomputable def gB : List Stmt := [(behindTheImports hP).getD 17 default]
noncomputable def gC : List Stmt := (behindTheImports hP).drop 18
noncomputable abbrev sT (t : BT) (n tk : Nat) (os : OsState) : SharedT := ⟨t, n, {}, #[], {}, tk, os⟩
abbrev hB : List Frame := [topFrame (ps 0 0 0 0)]
set_option maxHeartbeats 8000000 in
theorem pc0 (w : World) (os : OsState) : topGo treeTable hP w 11 (some (Value.ref 6)) 12 ⟨boot_heap w.params, #[], boot_drawn, boot_toks, os⟩ (topStub hP) = some ((sT (tr47 w.params) 15 187 os).abs, ⟨denote treeTable hC, hC, ps 0 0 0 0, hB⟩) := by kernel_rfl
set_option maxHeartbeats 8000000 in
theorem pc1 (w : World) (os : OsState) : segRun treeTable hP w 11 (some (Value.ref 6)) 1 1 (sT (tr47 w.params) 15 187 os).abs (blockOf (behindTheImports hP) hE hC (ps 0 0 0 0) hB) = some (.next, (sT (tr47 w.params) 15 187 os).abs, hC, ps 0 0 0 0) := by kernel_rfl
set_option maxHeartbeats 8000000 in
theorem pc2 (w : World) (os : OsState) : segRunT treeTable hP w 11 (some (Value.ref 6)) 1 600 (sT (tr47 w.params) 15 187 os) (piecesOf gA hE hC (ps 0 0 0 0) hB) = some (.next, sT (tr134 w.params) 97 314 os, hC, ps 37 0 45 46) := by kernel_rfl
set_option maxHeartbeats 8000000 in
theorem pc3 (w : World) (os : OsState) : segRunT treeTable hP w 11 (some (Value.ref 6)) 1 811 (sT (tr134 w.params) 97 314 os) (piecesOf gB hE hC (ps 37 0 45 46) hB) = some (.next, sT (tr279 w.params) 240 503 os, hC, ps 46 0 130 17) := by kernel_rfl
set_option maxHeartbeats 8000000 in
theorem pc4 (w : World) (os : OsState) : segRunT treeTable hP w 11 (some (Value.ref 6)) 1 92 (sT (tr279 w.params) 240 503 os) (piecesOf gC hE hC (ps 46 0 130 17) hB) = some (.next, sT (tr384 w.params) 257 525 os, hC, ps 160 0 189 15) := by kernel_rfl
set_option maxHeartbeats 8000000 in
theorem pc5 (w : World) (os : OsState) : topRun treeTable hP w 11 (some (Value.ref 6)) 2 (sT (tr384 w.params) 257 525 os).abs ⟨doneF .next, hC, ps 160 0 189 15, hB⟩ = some (sT (tr384 w.params) 257 525 os).abs := by kernel_rfl
theorem pcAll : gA ++ (gB ++ (gC ++ [])) = behindTheImports hP := by kernel_rfl
theorem pcRun (w : World) (os : OsState) : topRun treeTable hP w 11 (some (Value.ref 6)) (12 + (1 + (600 + (811 + (92 + 2))))) ⟨boot_heap w.params, #[], boot_drawn, boot_toks, os⟩ (topStub hP) = some (sT (tr384 w.params) 257 525 os).abs := by
  refine go_top (pc0 w os) (piece_block (pc1 w os) ?_)
  have e : restOf (behindTheImports hP) hE hC (ps 0 0 0 0) hB = restOf (gA ++ (gB ++ (gC ++ []))) hE hC (ps 0 0 0 0) hB := by rw [pcAll]
  rw [e]
  exact piece_app (segRun_of (pc2 w os)) (piece_app (segRun_of (pc3 w os)) (piece_app (segRun_of (pc4 w os)) (piece_nil (pc5 w os))))
noncomputable abbrev hX : Shared → Bool := fun s => xlAt hV [] s && recOk (RowW.records Challenge.rw_sa0568_01.row.toRowW) s
set_option maxHeartbeats 8000000 in
theorem pcSize (w : World) : ((boot_heap w.params).isNs mainGlobals && (#[] : Array GenState).size == 0, (boot_heap w.params).objs.size, (boot_heap w.params).nsMap mainGlobals "__annotations__") = (true, 11, some (Value.ref 6)) := by kernel_rfl
set_option maxHeartbeats 8000000 in
theorem pcLooks (w : World) : (fun os => ((staticsOk (importedModules hP.main.body) (boot_heap w.params) (absHeap (tr384 w.params) 257 {}) && namesBound hP (absHeap (tr384 w.params) 257 {}) && gensDone (sT (tr384 w.params) 257 525 os).abs && laidKept (boot_heap w.params) (absHeap (tr384 w.params) 257 {})),
    openSeen hV [] (importedModules hP.main.body) hX true (sT (tr384 w.params) 257 525 os).abs, Hook.obs hH (sT (tr384 w.params) 257 525 os).abs)) = fun _ => (true, openGood hV [], Hook.val hH w) := by kernel_rfl
theorem hleft : LeftO Challenge.rw_sa0568_01.row.prog hV [] hX (Hook.obs hH) (Hook.val hH) 3076 :=
  LeftO.of_pieces (H₀ := boot_heap) (H₁ := fun P => absHeap (tr384 P) 257 {}) (gs₀ := #[]) (gs₁ := #[]) (d₀ := boot_drawn) (d₁ := {}) (k₀ := boot_toks) (k₁ := 525) (m₀ := 11) (ann := some (Value.ref 6)) (M := 12 + (1 + (600 + (811 + (92 + 2)))))
    (boot_open rfl rfl fun _ => rfl) pcSize pcRun rfl pcLooks
end Mine
end
-- Base
section
open PySem PySem.W PySem.Calls PyProof.Rows
set_option maxRecDepth 100000
namespace Mine

abbrev Ar (dp un : Nat) (fr : Option (List Env)) (gd : Option (List Code)) : Around := { handled := none, depth := dp, frames := fr, guards := gd, units := un }

/-- what stays the same everywhere: the written part and the top -/
structure Gd (w : World) (mean : ExcName → Option Value) (mg mb : Str → Option Value) (b : Heap) : Prop where
  K : (hK w.params).In b
  T : Top hV (looseW hV []) mean mg mb b

def Kp (M : List Addr) (h h' : Heap) : Prop := ∀ c o, c ∉ M → h.get? c = some o → h'.get? c = some o

theorem Gd.keeps {w mean mg mb b b'} (G : Gd w mean mg mb b) (k : ∀ c o, b.get? c = some o → b'.get? c = some o) : Gd w mean mg mb b' := ⟨G.K.keeps k, G.T.keeps k⟩

section
variable {w : World} {mean : ExcName → Option Value} {mg mb : Str → Option Value} {A : Around} {s : Shared} {b : Heap} {tl : List (Addr × Obj)}
  {R : Result → Shared → Prop} {name qual : Str} {params : Arguments} {body body' : List Stmt} {scope scope' : Scope} {dV kV doc pm cdv ct oc : Value} {an od : Option Addr} {osl : Array (Option Value)} {f : Addr} {args : Args} {binds : List (Str × Value)}

theorem enter (G : Gd w mean mg mb b) (kb : Kp [] b s.heap) (N : ∀ p ∈ tl, s.heap.get? p.1 = some p.2 ∧ b.get? p.1 = none)
    (ho : (hK w.params).lookup f = some ⟨oc, od, .func (fnOf name qual params body scope dV kV doc pm an cdv ct), osl⟩) (hbE : body = body') (hsE : scope = scope') (hcd : codeIn (hK w.params) cdv qual = true) (hroom : A.depth < recursionLimit)
    (hbind : BindsTo s (fnOf name qual params body scope dV kV doc pm an cdv ct) args binds) (hloc : ∀ y ∈ binds, scope'.names.lookup y.1 = some .local)
    (h : ∀ g L' h₁ (tk : Nat), Fr g L' h₁ (fun y => binds.reverse.lookup y) → News g L' h₁ tl → Gd w mean mg mb g → Kp (tl.map (·.1)) s.heap g → (∀ p ∈ tl, p.1 < L') → Kp [] b g →
      wpAny (model Challenge.rw_sa0568_01.row.prog w) (A.deeper (envOf qual scope' L' f cdv)) (execs body' (envOf qual scope' L' f cdv))
        (fun fl s' => R (.ok (.ret (match fl with | .ret v => v | _ => .none))) s') (fun _ _ => False)
        { s with heap := h₁, toks := tk })
    (hco : scope'.isCoroutine = false) (hgen : scope'.isGenerator = false) (hk : scope'.kind = .function)
    (hcell : ∀ x ∈ scope'.names, x.2 ≠ .cell) : codeAny (model Challenge.rw_sa0568_01.row.prog w) A (.call (.ref f) args) R s := by
  subst hbE hsE
  have kb' : ∀ c o, b.get? c = some o → s.heap.get? c = some o := fun c o e => kb c o (by simp) e
  have nm : ∀ c o, b.get? c = some o → c ∉ tl.map (·.1) := fun c o e q => by
    obtain ⟨p, hp, rfl⟩ := List.mem_map.mp q
    rw [(N p hp).2] at e; cases e
  have st : ∀ c o, b.get? c = some o → (hideAll s.heap (tl.map (·.1))).get? c = some o := fun c o e => hideAll_get _ (kb' c o e) (nm c o e)
  refine codeAny_call_def (fd := fnOf name qual params body scope dV kV doc pm an cdv ct) (body := body) (binds := binds) hroom ((G.keeps kb').K _ _ ho) rfl (G.keeps kb').T.nolimit (codeRec_of (G.keeps kb').K hcd) rfl hbind hcell hloc (fun h₁ hns hk₁ => ?_) hco hgen hk
  exact wpAny_mono (h _ s.heap.objs.size h₁ _ ⟨hns, fun c o e => hk₁ c o (of_hideAll _ e), Nat.le_of_eq (hideAll_size _ _)⟩
    (fun p hp => ⟨hk₁ _ _ (N p hp).1, Nat.ne_of_lt (Heap.lt_size (N p hp).1), hideAll_none _ (List.mem_map_of_mem hp)⟩) (G.keeps st) (fun c o n e => hideAll_get _ e n) (fun p hp => Heap.lt_size (N p hp).1) (fun c o _ e => st c o e)) (fun _ _ q => q) fun _ _ q => q.elim

theorem enterC (G : Gd w mean mg mb b) (kb : Kp [] b s.heap) (N : ∀ p ∈ tl, s.heap.get? p.1 = some p.2 ∧ b.get? p.1 = none)
    (ho : (hK w.params).lookup f = some ⟨oc, od, .func (fnOf name qual params body scope dV kV doc pm an cdv ct), osl⟩) (hbE : body = body') (hsE : scope = scope') (hcd : codeIn (hK w.params) cdv qual = true) (hroom : A.depth < recursionLimit)
    (hbind : BindsTo s (fnOf name qual params body scope dV kV doc pm an cdv ct) args binds) (hkind : (binds.all fun y => scope'.names.lookup y.1 == some .local || scope'.names.lookup y.1 == some .cell) = true)
    (hnd : ((cellsFrom 0 scope'.names []).map (·.1)).Nodup)
    (h : ∀ g L' h₁ tk cells, Fr g L' h₁ (bindL (envOfC qual scope' L' f cdv).kindOf binds fun _ => none) → News g L' h₁ (cells ++ tl) → CellsAre (bindC (envOfC qual scope' L' f cdv).kindOf binds fun _ => none) (cellsFrom (L' + 1) scope'.names []) cells →
      Gd w mean mg mb g → Kp (tl.map (·.1)) s.heap g → (∀ p ∈ tl, p.1 < L') → Kp [] b g →
      wpAny (model Challenge.rw_sa0568_01.row.prog w) (A.deeper (envOfC qual scope' L' f cdv)) (execs body' (envOfC qual scope' L' f cdv))
        (fun fl s' => R (.ok (.ret (match fl with | .ret v => v | _ => .none))) s') (fun _ _ => False)
        { s with heap := h₁, toks := tk })
    (hco : scope'.isCoroutine = false) (hgen : scope'.isGenerator = false) (hk : scope'.kind = .function) : codeAny (model Challenge.rw_sa0568_01.row.prog w) A (.call (.ref f) args) R s := by
  subst hbE hsE
  have kb' : ∀ c o, b.get? c = some o → s.heap.get? c = some o := fun c o e => kb c o (by simp) e
  have nm : ∀ c o, b.get? c = some o → c ∉ tl.map (·.1) := fun c o e q => by
    obtain ⟨p, hp, rfl⟩ := List.mem_map.mp q
    rw [(N p hp).2] at e; cases e
  have st : ∀ c o, b.get? c = some o → (hideAll s.heap (tl.map (·.1))).get? c = some o := fun c o e => hideAll_get _ (kb' c o e) (nm c o e)
  refine codeAny_call_function hroom ((G.keeps kb').K _ _ ho) rfl hco hgen rfl (codeRec_of (G.keeps kb').K hcd) (hbind _ _ _ _ ?_)
  refine wpAny_newFunctionEnv_cells hk (kindsX hkind _) fun env' he s' x => ?_
  subst he
  refine ⟨((G.keeps kb').T.nolimit).keeps x.toInCall.keep, codeAny_func ?_⟩
  obtain ⟨h₁, tk, rfl, _⟩ := x.done
  have hk₁ := x.toInCall.keep
  obtain ⟨cells, NC, Y⟩ := Cl.news (h₀ := s.heap) (Nat.le_refl _) fun n c hm => ⟨x.cell n c (lookup_of_mem_nodup (cellsFrom_names scope.names 0 (s.heap.objs.size + 1) [] [] rfl ▸ hnd) hm), x.above n c hm⟩
  refine wpAny_mono (h _ s.heap.objs.size h₁ tk cells ⟨x.toInCall.ns, fun c o e => hk₁ c o (of_hideAll _ e), Nat.le_of_eq (hideAll_size _ _)⟩ (fun p hp => ?_) Y (G.keeps st) (fun c o n e => hideAll_get _ e n) (fun p hp => Heap.lt_size (N p hp).1) (fun c o _ e => st c o e)) (fun _ _ q => q) fun _ _ q => q.elim
  rcases List.mem_append.mp hp with hp | hp
  · refine ⟨(NC p hp).1, (NC p hp).2.1, ?_⟩
    cases q : (hideAll s.heap (tl.map (·.1))).get? p.1 with
    | none => rfl
    | some o => have := of_hideAll _ q; rw [(NC p hp).2.2] at this; cases this
  · exact ⟨hk₁ _ _ (N p hp).1, Nat.ne_of_lt (Heap.lt_size (N p hp).1), hideAll_none _ (List.mem_map_of_mem hp)⟩
end

theorem gen {α : Type} {M : Model} {A : Around} {t : Sem α} {Q : α → Shared → Prop} {E : Value → Shared → Prop} {s : Shared} (h : ∀ Q' : α → Shared → Prop, (∀ a s', Q a s' → Q' a s') → wpAny M A t Q' E s) : wpAny M A t Q E s := h Q (fun _ _ q => q)
section
variable {a b c d e f g h i j k p q : Prop}
theorem cj1 (x : p ∧ q) : p := x.1
theorem cj2 (x : a ∧ p ∧ q) : p := x.2.1
theorem cj3 (x : a ∧ b ∧ p ∧ q) : p := x.2.2.1
theorem cj4 (x : a ∧ b ∧ c ∧ p ∧ q) : p := x.2.2.2.1
theorem cj5 (x : a ∧ b ∧ c ∧ d ∧ p ∧ q) : p := x.2.2.2.2.1
theorem cj6 (x : a ∧ b ∧ c ∧ d ∧ e ∧ p ∧ q) : p := x.2.2.2.2.2.1
theorem cj7 (x : a ∧ b ∧ c ∧ d ∧ e ∧ f ∧ p ∧ q) : p := x.2.2.2.2.2.2.1
theorem cj8 (x : a ∧ b ∧ c ∧ d ∧ e ∧ f ∧ g ∧ p ∧ q) : p := x.2.2.2.2.2.2.2.1
theorem cj9 (x : a ∧ b ∧ c ∧ d ∧ e ∧ f ∧ g ∧ h ∧ p ∧ q) : p := x.2.2.2.2.2.2.2.2.1
theorem cj10 (x : a ∧ b ∧ c ∧ d ∧ e ∧ f ∧ g ∧ h ∧ i ∧ p ∧ q) : p := x.2.2.2.2.2.2.2.2.2.1
theorem cj11 (x : a ∧ b ∧ c ∧ d ∧ e ∧ f ∧ g ∧ h ∧ i ∧ j ∧ p ∧ q) : p := x.2.2.2.2.2.2.2.2.2.2.1
theorem ck2 (x : a ∧ p) : p := x.2
theorem ck3 (x : a ∧ b ∧ p) : p := x.2.2
theorem ck4 (x : a ∧ b ∧ c ∧ p) : p := x.2.2.2
theorem ck5 (x : a ∧ b ∧ c ∧ d ∧ p) : p := x.2.2.2.2
theorem ck6 (x : a ∧ b ∧ c ∧ d ∧ e ∧ p) : p := x.2.2.2.2.2
theorem ck7 (x : a ∧ b ∧ c ∧ d ∧ e ∧ f ∧ p) : p := x.2.2.2.2.2.2
theorem ck8 (x : a ∧ b ∧ c ∧ d ∧ e ∧ f ∧ g ∧ p) : p := x.2.2.2.2.2.2.2
theorem ck9 (x : a ∧ b ∧ c ∧ d ∧ e ∧ f ∧ g ∧ h ∧ p) : p := x.2.2.2.2.2.2.2.2
theorem ck10 (x : a ∧ b ∧ c ∧ d ∧ e ∧ f ∧ g ∧ h ∧ i ∧ p) : p := x.2.2.2.2.2.2.2.2.2
theorem ck11 (x : a ∧ b ∧ c ∧ d ∧ e ∧ f ∧ g ∧ h ∧ i ∧ j ∧ p) : p := x.2.2.2.2.2.2.2.2.2.2
theorem ck12 (x : a ∧ b ∧ c ∧ d ∧ e ∧ f ∧ g ∧ h ∧ i ∧ j ∧ k ∧ p) : p := x.2.2.2.2.2.2.2.2.2.2.2
end
theorem room {d b n a : Nat} (h : d + b < n) (e : a ≤ b) : d + a < n := Nat.lt_of_le_of_lt (Nat.add_le_add_left e d) h
theorem Kp.refl (M : List Addr) (h : Heap) : Kp M h h := fun _ _ _ e => e
theorem Kp.trans {M : List Addr} {h h' h'' : Heap} (x : Kp M h h') (y : Kp M h' h'') : Kp M h h'' := fun c o n e => y c o n (x c o n e)
theorem Kp.mono {M M' : List Addr} {h h' : Heap} (x : Kp M h h') (s : ∀ a ∈ M, a ∈ M') : Kp M' h h' := fun c o n e => x c o (fun q => n (s c q)) e
theorem Kp.all {h h' : Heap} (x : Kp [] h h') : ∀ c o, h.get? c = some o → h'.get? c = some o := fun c o e => x c o (by simp) e
theorem Kp.drop {a : Addr} {M : List Addr} {h h' : Heap} {o : Obj} (k : Kp (a :: M) h h') (e : h.get? a = some o) (e' : h'.get? a = some o) : Kp M h h' := fun c o' n q => by
  by_cases hc : c = a
  · subst hc; rw [e] at q; cases q; exact e'
  · exact k c o' (by simp only [List.mem_cons, not_or]; exact ⟨hc, n⟩) q
theorem Kp.of {h h' : Heap} (x : ∀ c o, h.get? c = some o → h'.get? c = some o) : Kp [] h h' := fun c o _ e => x c o e
theorem Kp.fr {M : List Addr} {h h' g : Heap} {L : Addr} {m : Str → Option Value} (k : Kp M h g) (F : Fr g L h' m) : Kp M h h' := fun c o n e => F.keep c o (k c o n e)
theorem frKp {g h : Heap} {L : Addr} {m : Str → Option Value} (F : Fr g L h m) : Kp [] g h := fun c o _ e => F.keep c o e
theorem frBack {M : List Addr} {g h h' : Heap} {L : Addr} {m : Str → Option Value} (F : Fr g L h m) (k : Kp M h h') (hL : L ∉ M) (hM : ∀ a ∈ M, g.get? a = none) : Fr g L h' m :=
  ⟨F.ns.at' fun o e => k L o hL e, fun b o e => k b o (fun q => by rw [hM b q] at e; cases e) (F.keep b o e), F.above⟩
theorem newsBack {M : List Addr} {g h h' : Heap} {L : Addr} {tl : List (Addr × Obj)} (N : News g L h tl) (k : Kp M h h') (hM : ∀ p ∈ tl, p.1 ∉ M) : News g L h' tl :=
  fun p hp => ⟨k _ _ (hM p hp) (N p hp).1, (N p hp).2⟩
theorem newsCons {g h : Heap} {L a : Addr} {o : Obj} {tl : List (Addr × Obj)} (N : News g L h tl) (e : h.get? a = some o) (hL : a ≠ L) (hg : g.get? a = none) : News g L h ((a, o) :: tl) :=
  fun p hp => by
    rcases List.mem_cons.mp hp with rfl | hp
    · exact ⟨e, hL, hg⟩
    · exact N p hp
theorem newsSub {g h : Heap} {L : Addr} {tl tl' : List (Addr × Obj)} (N : News g L h tl) (hs : ∀ p ∈ tl', p ∈ tl) : News g L h tl' := fun p hp => N p (hs p hp)
theorem freshOf {h : Heap} {a : Addr} (ha : h.objs.size ≤ a) : h.get? a = none := by
  cases e : h.get? a with
  | none => rfl
  | some o' => exact absurd (Heap.lt_size e) (Nat.not_lt.mpr ha)
theorem kpFresh {g h : Heap} {a : Addr} (k : Kp [] g h) (e : h.get? a = none) : g.get? a = none := by
  cases q : g.get? a with
  | none => rfl
  | some o' => rw [k a o' (by simp) q] at e; cases e
theorem neOf {h : Heap} {a b : Addr} {o : Obj} (e : h.get? a = some o) (q : h.get? b = none) : a ≠ b := by rintro rfl; rw [e] at q; cases q
theorem fa2 {α : Type} {P : α → Prop} {a b : α} (x : P a) (y : P b) : ∀ p ∈ [a, b], P p := by simp [x, y]
theorem fa1 {α : Type} {P : α → Prop} {a : α} (x : P a) : ∀ p ∈ [a], P p := by simp [x]
theorem fa3 {α : Type} {P : α → Prop} {a b c : α} (x : P a) (y : P b) (z : P c) : ∀ p ∈ [a, b, c], P p := by simp [x, y, z]
theorem fa0 {α : Type} {P : α → Prop} : ∀ p ∈ ([] : List α), P p := by simp
section
variable {w : World} {mean : ExcName → Option Value} {mg mb : Str → Option Value} {s : Shared} {b : Heap}
theorem under_make (dp un : Nat) (fr : Option (List Env)) (gd : Option (List Code)) (C : Addr) (rest : List Value) (kw : List (Str × Value)) :
    ∃ dp' un' fr' gd', dp' ≤ dp + 1 ∧ un' ≤ un + 4 ∧ (Ar dp un fr gd).under (.builtin "type.__call__" ⟨.ref C :: rest, kw⟩) = Ar dp' un' fr' gd' := by
  refine ⟨_, _, _, _, ?_, ?_, rfl⟩
  · exact Nat.le_refl _
  · exact Nat.add_le_add_left (show (Code.builtin "type.__call__" ⟨.ref C :: rest, kw⟩).cUnits ≤ 4 from Nat.le_of_ble_eq_true rfl) un

theorem makeP (G : Gd w mean mg mb b) (kb : Kp [] b s.heap) {C fI : Addr} {rest : List Value} {Q E : Value → Shared → Prop} {dp un : Nat} {fr : Option (List Env)} {gd : Option (List Code)} (hm : makesIn (hK w.params) C = true)
    (hi : findIn (hK w.params) (.ref C) "__init__" = some (some (.ref fI))) (hf : typeIn (hK w.params) (.ref fI) = some (.type "function"))
    (h : ∀ x dx h' dp' un' fr' gd', dp' ≤ dp + 1 → un' ≤ un + 4 → Kp [] s.heap h' → s.heap.get? x = none → s.heap.get? dx = none → dx < x → h'.get? x = some (instObj C dx) → h'.get? dx = some (dictOf [] 0) →
      codeAny (model Challenge.rw_sa0568_01.row.prog w) (Ar dp' un' fr' gd') (.call (.ref fI) ⟨.ref x :: rest, []⟩) (InitBack x (fun r s' => match r with | .ok (.ret v) => Q v s' | .ok _ => False | .error e => E e s')) { s with heap := h' }) :
    wpAny (model Challenge.rw_sa0568_01.row.prog w) (Ar dp un fr gd) (call (.ref C) rest) Q E s := by
  obtain ⟨hh, g, d, t, os⟩ := s
  have X := (G.keeps kb.all).K
  refine wpAny_call (make_core (makes_of X hm) (looks_findIn X hi) (fun self => bind_fn X self hf) (.inl rfl) ?_)
  obtain ⟨dp', un', fr', gd', e1, e2, e3⟩ := under_make dp un fr gd C rest []
  rw [e3]
  have k : ∀ c o, hh.get? c = some o → ((hh.push emptyDict).push (instObj C hh.objs.size)).get? c = some o := fun c o e => Heap.get?_push_of_some _ (Heap.get?_push_of_some _ e)
  refine h (hh.objs.size + 1) hh.objs.size _ dp' un' fr' gd' e1 e2 (Kp.of k) (freshOf (Nat.le_succ _)) (freshOf (Nat.le_refl _)) (Nat.lt_succ_self _) ?_ ?_
  · heap_get
  · exact Heap.get?_push_of_some _ (Heap.get?_push_size _ rfl)
end
end Mine
end
-- Take
section
open PySem PySem.W PySem.Calls PyProof.Rows
set_option maxRecDepth 100000
namespace Mine
set_option maxHeartbeats 4000000 in
theorem take_spec {w : World} {mean mg mb} {b : Heap} (G : Gd w mean mg mb b) {s : Shared} (kb : Kp [] b s.heap) {dp un fr gd} (hd : dp + 5 < 1000) (hu : un + 100 < 9900) {bx lst : Addr} {k m : Int} {t tm : Tok} {n : Nat} {vs : List Value} {ns : List Int} {Q E}
  (hbx : s.heap.get? bx = some (W.listOf #[.ref lst, .int k t] n)) (hb : b.get? bx = none) (hl : s.heap.IsList lst vs.toArray) (hi : IntsAre vs ns) (hne : lst ≠ bx)
  (hk : 0 ≤ k) (hk2 : k ≤ 100000) (hlen : ns.length ≤ 100) (hm : 0 < m) (hm2 : m ≤ 100)
  (ret : ∀ h' tk' r t1 t2 n', 0 ≤ r → r < m → Kp [bx] s.heap h' → h'.get? bx = some (W.listOf #[.ref lst, .int (k+1) t1] n') → Q (.int r t2) {s with heap := h', toks := tk'}) :
  wpAny (model Challenge.rw_sa0568_01.row.prog w) (Ar dp un fr gd) (call (.ref 246) [.ref bx, .int m tm]) Q E s := by
  have KX := G.K
  revert KX; k_fill; intro KX
  refine wpAny_call ?_
  k_dflt (refine' enter (tl := [(bx, W.listOf #[.ref lst, .int k t] n)]) G kb ?kN ?k6 ?kb ?ks ?k7 ?k8 ?k9 ?kB ?_ ?c2 ?c3 ?c4 ?c5; (case k6 => k_is); (case kb => (conv => lhs; whnf)); (case ks => (conv => lhs; whnf)); (case k7 => k_is); (case k8 => (first | exact room (a := 0) (by assumption) (by decide) | (simp only [recursionLimit]; omega))); (case k9 => exact BindsTo.of_eq rfl); (case c5 => decide); (case kB => exact locs rfl); (case c2 => exact rfl); (case c3 => exact rfl); (case c4 => exact rfl))
  case kN => exact fa1 ⟨hbx, hb⟩
  intro g L' h₁ tk F N G' kg hL kbg
  have KX' := G'.K
  have T' := G'.T
  have hl' : g.IsList lst vs.toArray := hl.at fun o e => kg _ _ (by simpa using hne) e
  clear KX hl
  (try dsimp only); (try k_fold)
  k_steps
  all_goals dsimp only
  all_goals (rename Fr _ _ _ _ => F9; rename News _ _ _ _ => N9; exact ret _ _ _ _ _ _ (fmod_lo _ hm) (fmod_hi _ hm) (kg.fr F9) (N9 _ List.mem_cons_self).1)
end Mine
end
-- Spc
section
open PySem PySem.W PySem.Calls PyProof.Rows
set_option maxRecDepth 100000
namespace Mine
abbrev ent (w : World) (k : String) (t : Nat) (v : Value) : DictEntry := { hash := PyData.keyHash w.params (Str.ofString k), key := .str (Str.ofString k) t, val := v }
/-- the dict of a Space -/
abbrev spD (w : World) (t : Nat → Nat) (nn sd la le : Value) (r : Nat → Value) : Obj :=
  dictOf [ent w "name" (t 0) (r 0), ent w "next_number" (t 1) nn, ent w "sent" (t 2) sd, ent w "largest_acked" (t 3) la, ent w "acked" (t 4) (r 1), ent w "last_eliciting_time" (t 5) le,
    ent w "loss_time" (t 6) (r 2), ent w "received" (t 7) (r 3), ent w "largest_seen" (t 8) (r 4), ent w "largest_time" (t 9) (r 5), ent w "floor" (t 10) (r 6), ent w "first_unacked" (t 11) (r 7),
    ent w "unacked" (t 12) (r 8), ent w "wants_now" (t 13) (r 9), ent w "has_new" (t 14) (r 10), ent w "ecn" (t 15) (r 11), ent w "is_gone" (t 16) (r 12)] 17
abbrev pkD (w : World) (t : Nat → Nat) (nu ti sz fs el fl : Value) : Obj :=
  dictOf [ent w "number" (t 0) nu, ent w "time" (t 1) ti, ent w "size" (t 2) sz, ent w "frames" (t 3) fs, ent w "is_eliciting" (t 4) el, ent w "in_flight" (t 5) fl] 6
def OptIs (v : Value) : Option Int → Prop
  | none => v = .none
  | some i => ∃ t, v = .int i t


set_option maxHeartbeats 4000000 in
theorem take_number_spec {w : World} {mean mg mb} {b : Heap} (G : Gd w mean mg mb b) {s : Shared} (kb : Kp [] b s.heap) {dp un fr gd} (hd : dp + 5 < 1000) {x dx : Addr} {i : Int} {ti : Tok} {t : Nat → Nat} {sd la le : Value} {r : Nat → Value} {Q E}
  (hx : s.heap.get? x = some (instObj 235 dx)) (hdx : s.heap.get? dx = some (spD w t (.int i ti) sd la le r)) (bx : b.get? x = none) (bdx : b.get? dx = none) (hlt : dx < x)
  (hi : 0 ≤ i) (hi2 : i ≤ 1000)
  (ret : ∀ h' tk' t1 t2, Kp [dx] s.heap h' → h'.get? dx = some (spD w t (.int (i+1) t1) sd la le r) → Q (.int i t2) {s with heap := h', toks := tk'}) :
  wpAny (model Challenge.rw_sa0568_01.row.prog w) (Ar dp un fr gd) (call (.ref 152) [.ref x]) Q E s := by
  have KX := G.K
  revert KX; k_fill; intro KX
  refine wpAny_call ?_
  k_dflt (refine' enter (tl := [(x, instObj 235 dx), (dx, spD w t (.int i ti) sd la le r)]) G kb ?kN ?k6 ?kb ?ks ?k7 ?k8 ?k9 ?kB ?_ ?c2 ?c3 ?c4 ?c5; (case k6 => k_is); (case kb => (conv => lhs; whnf)); (case ks => (conv => lhs; whnf)); (case k7 => k_is); (case k8 => (first | exact room (a := 0) (by assumption) (by decide) | (simp only [recursionLimit]; omega))); (case k9 => exact BindsTo.of_eq rfl); (case c5 => decide); (case kB => exact locs rfl); (case c2 => exact rfl); (case c3 => exact rfl); (case c4 => exact rfl))
  case kN => exact fa2 ⟨hx, bx⟩ ⟨hdx, bdx⟩
  intro g L' h₁ tk F N G' kg hL kbg
  have KX' := G'.K
  have T' := G'.T
  clear KX
  replace hlt := ltN hlt
  (try dsimp only); (try k_fold)
  k_steps
  dsimp only
  rename Fr _ _ _ _ => F9; rename News _ _ _ _ => N9
  rw [show i + 1 - 1 = i by omega]
  exact ret _ _ _ _ ((kg.fr F9).drop hx (N9 _ List.mem_cons_self).1) (N9 _ (.tail _ (.head _))).1

set_option maxHeartbeats 4000000 in
theorem note_largest_spec {w : World} {mean mg mb} {b : Heap} (G : Gd w mean mg mb b) {s : Shared} (kb : Kp [] b s.heap) {dp un fr gd} (hd : dp + 5 < 1000) {x dx : Addr} {n : Int} {tn : Tok} {t : Nat → Nat} {nn sd la le : Value} {r : Nat → Value} {a : Option Int} {Q E}
  (hx : s.heap.get? x = some (instObj 235 dx)) (hdx : s.heap.get? dx = some (spD w t nn sd la le r)) (bx : b.get? x = none) (bdx : b.get? dx = none) (hlt : dx < x)
  (hla : OptIs la a)
  (ret : ∀ h' tk' la', OptIs la' (some (match a with | none => n | some g => if g < n then n else g)) → Kp [dx] s.heap h' → h'.get? dx = some (spD w t nn sd la' le r) → Q .none {s with heap := h', toks := tk'}) :
  wpAny (model Challenge.rw_sa0568_01.row.prog w) (Ar dp un fr gd) (call (.ref 199) [.ref x, .int n tn]) Q E s := by
  have KX := G.K
  revert KX; k_fill; intro KX
  refine wpAny_call ?_
  k_dflt (refine' enter (tl := [(x, instObj 235 dx), (dx, spD w t nn sd la le r)]) G kb ?kN ?k6 ?kb ?ks ?k7 ?k8 ?k9 ?kB ?_ ?c2 ?c3 ?c4 ?c5; (case k6 => k_is); (case kb => (conv => lhs; whnf)); (case ks => (conv => lhs; whnf)); (case k7 => k_is); (case k8 => (first | exact room (a := 0) (by assumption) (by decide) | (simp only [recursionLimit]; omega))); (case k9 => exact BindsTo.of_eq rfl); (case c5 => decide); (case kB => exact locs rfl); (case c2 => exact rfl); (case c3 => exact rfl); (case c4 => exact rfl))
  case kN => exact fa2 ⟨hx, bx⟩ ⟨hdx, bdx⟩
  intro g L' h₁ tk F N G' kg hL kbg
  have KX' := G'.K
  have T' := G'.T
  clear KX
  replace hlt := ltN hlt
  cases a with
  | none =>
    have e : la = .none := hla
    subst e
    (try dsimp only); (try k_fold)
    k_steps
    dsimp only
    rename Fr _ _ _ _ => F9; rename News _ _ _ _ => N9
    exact ret _ _ _ ⟨_, rfl⟩ ((kg.fr F9).drop hx (N9 _ List.mem_cons_self).1) (N9 _ (.tail _ (.head _))).1
  | some g0 =>
    obtain ⟨t0, e⟩ := hla
    subst e
    (try dsimp only); (try k_fold)
    k_steps
    all_goals dsimp only
    · rename Fr _ _ _ _ => F9; rename News _ _ _ _ => N9
      refine ret _ _ _ ?_ ((kg.fr F9).drop hx (N9 _ List.mem_cons_self).1) (N9 _ (.tail _ (.head _))).1
      show OptIs _ (some (if g0 < n then n else g0)); rw [if_pos (by omega)]; exact ⟨_, rfl⟩
    · rename Fr _ _ _ _ => F9; rename News _ _ _ _ => N9
      refine ret _ _ _ ?_ ((kg.fr F9).drop hx (N9 _ List.mem_cons_self).1) (N9 _ (.tail _ (.head _))).1
      show OptIs _ (some (if g0 < n then n else g0)); rw [if_neg (by omega)]; exact ⟨_, rfl⟩

set_option maxHeartbeats 4000000 in
theorem is_lost_spec {w : World} {mean mg mb} {b : Heap} (G : Gd w mean mg mb b) {s : Shared} (kb : Kp [] b s.heap) {dp un fr gd} (hd : dp + 5 < 1000) {n at_ la now dl : Int} {t1 t2 t3 t4 t5 : Tok} {Q E}
  (ret : ∀ h' tk', Kp [] s.heap h' → Q (.bool (decide (la ≥ n + 3 ∨ at_ + dl ≤ now))) {s with heap := h', toks := tk'}) :
  wpAny (model Challenge.rw_sa0568_01.row.prog w) (Ar dp un fr gd) (call (.ref 28) [.int n t1, .int at_ t2, .int la t3, .int now t4, .int dl t5]) Q E s := by
  have KX := G.K
  revert KX; k_fill; intro KX
  refine wpAny_call ?_
  k_dflt (refine' enter (tl := []) G kb ?kN ?k6 ?kb ?ks ?k7 ?k8 ?k9 ?kB ?_ ?c2 ?c3 ?c4 ?c5; (case k6 => k_is); (case kb => (conv => lhs; whnf)); (case ks => (conv => lhs; whnf)); (case k7 => k_is); (case k8 => (first | exact room (a := 0) (by assumption) (by decide) | (simp only [recursionLimit]; omega))); (case k9 => exact BindsTo.of_eq rfl); (case c5 => decide); (case kB => exact locs rfl); (case c2 => exact rfl); (case c3 => exact rfl); (case c4 => exact rfl))
  case kN => exact fa0
  intro g L' h₁ tk F N G' kg hL kbg
  have KX' := G'.K
  have T' := G'.T
  clear KX
  (try dsimp only); (try k_fold)
  k_steps
  all_goals dsimp only
  · rw [show decide (n + 3 ≤ la) = decide (la ≥ n + 3 ∨ at_ + dl ≤ now) from decide_eq_decide.mpr (by omega)]
    exact ret _ _ (kg.fr F)
  · rw [show decide (at_ + dl ≤ now) = decide (la ≥ n + 3 ∨ at_ + dl ≤ now) from decide_eq_decide.mpr (by omega)]
    exact ret _ _ (kg.fr F)

abbrev tupOf (its : Array Value) : Obj := { cls := .type "tuple", data := .seq its }
/-- a frame: a ping, or an ack -/
def TuIs (h : Heap) (tu : Addr) (p : Bool) (t1 : Tok) : Prop :=
  if p then h.get? tu = some (tupOf #[.str (Str.ofString "ping") t1]) else ∃ t2 l, h.get? tu = some (tupOf #[.str (Str.ofString "ack") t1, .int 0 t2, .ref l, .none])
theorem TuIs.kp {h h' : Heap} {tu : Addr} {p : Bool} {t1 : Tok} {M : List Addr} (x : TuIs h tu p t1) (k : Kp M h h') (n : tu ∉ M) : TuIs h' tu p t1 := by
  unfold TuIs at *
  cases p with
  | true => simp only [if_true] at *; exact k _ _ n x
  | false => simp only [Bool.false_eq_true, if_false] at *; obtain ⟨a, l, e⟩ := x; exact ⟨a, l, k _ _ n e⟩
/-- the frames of a packet -/
def FrIs (b h : Heap) (fr : Addr) (p : Bool) : Prop :=
  ∃ n tu t1, h.get? fr = some (W.listOf #[.ref tu] n) ∧ TuIs h tu p t1 ∧ tu ≠ fr ∧ b.get? fr = none ∧ b.get? tu = none
theorem FrIs.get {b h : Heap} {f : Addr} {p : Bool} (x : FrIs b h f p) : ∃ o, h.get? f = some o := let ⟨_, _, _, e, _⟩ := x; ⟨_, e⟩
theorem FrIs.all {b h h' : Heap} {f : Addr} {p : Bool} (x : FrIs b h f p) (k : Kp [] h h') : FrIs b h' f p := let ⟨n, tu, t1, e, t, r⟩ := x; ⟨n, tu, t1, k.all _ _ e, t.kp k (by simp), r⟩

set_option maxHeartbeats 4000000 in
theorem is_eliciting_spec {w : World} {mean mg mb} {b : Heap} (G : Gd w mean mg mb b) {s : Shared} (kb : Kp [] b s.heap) {dp un fr gd} (hd : dp + 5 < 1000) {tu : Addr} {p : Bool} {t1 : Tok} {Q E}
  (e2 : TuIs s.heap tu p t1) (bt : b.get? tu = none)
  (ret : ∀ h' tk', Kp [] s.heap h' → Q (.bool p) {s with heap := h', toks := tk'}) :
  wpAny (model Challenge.rw_sa0568_01.row.prog w) (Ar dp un fr gd) (call (.ref 48) [.ref tu]) Q E s := by
  have KX := G.K
  revert KX; k_fill; intro KX
  refine wpAny_call ?_
  cases p with
  | true =>
    simp only [TuIs, if_true] at e2
    k_dflt (refine' enter (b := b) (tl := [(tu, tupOf #[.str (Str.ofString "ping") t1])]) G kb ?kN ?k6 ?kb ?ks ?k7 ?k8 ?k9 ?kB ?_ ?c2 ?c3 ?c4 ?c5; (case k6 => k_is); (case kb => (conv => lhs; whnf)); (case ks => (conv => lhs; whnf)); (case k7 => k_is); (case k8 => (first | exact room (a := 0) (by assumption) (by decide) | (simp only [recursionLimit]; omega))); (case k9 => exact BindsTo.of_eq rfl); (case c5 => decide); (case kB => exact locs rfl); (case c2 => exact rfl); (case c3 => exact rfl); (case c4 => exact rfl))
    case kN => exact fa1 ⟨e2, bt⟩
    intro g L' h₁ tk F N G' kg hL kbg
    have KX' := G'.K
    have T' := G'.T
    clear KX
    (try dsimp only); (try k_fold)
    k_steps
    refine notin_tuple_strs ⟨_, F.keep _ _ (KX' 41 _ (by k_dflt k_is)), rfl, _, rfl⟩ (.cons _ _ (.cons _ _ (.cons _ _ .nil))) ?_
    rename Fr _ _ _ _ => F9; rename News _ _ _ _ => N9; (exact ret _ _ ((kg.fr F9).drop e2 (N9 _ List.mem_cons_self).1))
  | false =>
    simp only [TuIs, Bool.false_eq_true, if_false] at e2
    obtain ⟨t2, l, e2⟩ := e2
    k_dflt (refine' enter (b := b) (tl := [(tu, tupOf #[.str (Str.ofString "ack") t1, .int 0 t2, .ref l, .none])]) G kb ?kN ?k6 ?kb ?ks ?k7 ?k8 ?k9 ?kB ?_ ?c2 ?c3 ?c4 ?c5; (case k6 => k_is); (case kb => (conv => lhs; whnf)); (case ks => (conv => lhs; whnf)); (case k7 => k_is); (case k8 => (first | exact room (a := 0) (by assumption) (by decide) | (simp only [recursionLimit]; omega))); (case k9 => exact BindsTo.of_eq rfl); (case c5 => decide); (case kB => exact locs rfl); (case c2 => exact rfl); (case c3 => exact rfl); (case c4 => exact rfl))
    case kN => exact fa1 ⟨e2, bt⟩
    intro g L' h₁ tk F N G' kg hL kbg
    have KX' := G'.K
    have T' := G'.T
    clear KX
    (try dsimp only); (try k_fold)
    k_steps
    refine notin_tuple_strs ⟨_, F.keep _ _ (KX' 41 _ (by k_dflt k_is)), rfl, _, rfl⟩ (.cons _ _ (.cons _ _ (.cons _ _ .nil))) ?_
    rename Fr _ _ _ _ => F9; rename News _ _ _ _ => N9; (exact ret _ _ ((kg.fr F9).drop e2 (N9 _ List.mem_cons_self).1))

set_option maxHeartbeats 4000000 in
theorem counts_in_flight_spec {w : World} {mean mg mb} {b : Heap} (G : Gd w mean mg mb b) {s : Shared} (kb : Kp [] b s.heap) {dp un fr gd} (hd : dp + 5 < 1000) {tu : Addr} {p : Bool} {t1 : Tok} {Q E}
  (e2 : TuIs s.heap tu p t1) (bt : b.get? tu = none)
  (ret : ∀ h' tk', Kp [] s.heap h' → Q (.bool p) {s with heap := h', toks := tk'}) :
  wpAny (model Challenge.rw_sa0568_01.row.prog w) (Ar dp un fr gd) (call (.ref 55) [.ref tu]) Q E s := by
  have KX := G.K
  revert KX; k_fill; intro KX
  refine wpAny_call ?_
  cases p with
  | true =>
    simp only [TuIs, if_true] at e2
    k_dflt (refine' enter (b := b) (tl := [(tu, tupOf #[.str (Str.ofString "ping") t1])]) G kb ?kN ?k6 ?kb ?ks ?k7 ?k8 ?k9 ?kB ?_ ?c2 ?c3 ?c4 ?c5; (case k6 => k_is); (case kb => (conv => lhs; whnf)); (case ks => (conv => lhs; whnf)); (case k7 => k_is); (case k8 => (first | exact room (a := 0) (by assumption) (by decide) | (simp only [recursionLimit]; omega))); (case k9 => exact BindsTo.of_eq rfl); (case c5 => decide); (case kB => exact locs rfl); (case c2 => exact rfl); (case c3 => exact rfl); (case c4 => exact rfl))
    case kN => exact fa1 ⟨e2, bt⟩
    intro g L' h₁ tk F N G' kg hL kbg
    have KX' := G'.K
    have T' := G'.T
    clear KX
    (try dsimp only); (try k_fold)
    k_steps
    all_goals (try dsimp only)
    all_goals (rename Fr _ _ _ _ => F9; rename News _ _ _ _ => N9; exact ret _ _ ((kg.fr F9).drop e2 (N9 (tu, _) (by k_mem)).1))
  | false =>
    simp only [TuIs, Bool.false_eq_true, if_false] at e2
    obtain ⟨t2, l, e2⟩ := e2
    k_dflt (refine' enter (b := b) (tl := [(tu, tupOf #[.str (Str.ofString "ack") t1, .int 0 t2, .ref l, .none])]) G kb ?kN ?k6 ?kb ?ks ?k7 ?k8 ?k9 ?kB ?_ ?c2 ?c3 ?c4 ?c5; (case k6 => k_is); (case kb => (conv => lhs; whnf)); (case ks => (conv => lhs; whnf)); (case k7 => k_is); (case k8 => (first | exact room (a := 0) (by assumption) (by decide) | (simp only [recursionLimit]; omega))); (case k9 => exact BindsTo.of_eq rfl); (case c5 => decide); (case kB => exact locs rfl); (case c2 => exact rfl); (case c3 => exact rfl); (case c4 => exact rfl))
    case kN => exact fa1 ⟨e2, bt⟩
    intro g L' h₁ tk F N G' kg hL kbg
    have KX' := G'.K
    have T' := G'.T
    clear KX
    (try dsimp only); (try k_fold)
    k_steps
    all_goals (try dsimp only)
    all_goals (rename Fr _ _ _ _ => F9; rename News _ _ _ _ => N9; exact ret _ _ ((kg.fr F9).drop e2 (N9 (tu, _) (by k_mem)).1))
end Mine
end
-- Pk
section
open PySem PySem.W PySem.Calls PyProof.Rows
set_option maxRecDepth 100000
namespace Mine




set_option maxHeartbeats 4000000 in
theorem any_eliciting_spec {w : World} {mean mg mb} {b : Heap} (G : Gd w mean mg mb b) {s : Shared} (kb : Kp [] b s.heap) {dp un fr gd} (hd : dp + 10 < 1000) (hu : un + 100 < 9900) {f : Addr} {p : Bool} {Q E}
  (hf : FrIs b s.heap f p)
  (ret : ∀ h' tk', Kp [] s.heap h' → Q (.bool p) {s with heap := h', toks := tk'}) :
  wpAny (model Challenge.rw_sa0568_01.row.prog w) (Ar dp un fr gd) (call (.ref 60) [.ref f]) Q E s := by
  have KX := G.K
  revert KX; k_fill; intro KX
  refine wpAny_call ?_
  obtain ⟨n, tu, t1, e1, e2, hne, bf, bt⟩ := hf
  k_dflt (refine' enter (b := b) (tl := [(f, W.listOf #[.ref tu] n)]) G kb ?kN ?k6 ?kb ?ks ?k7 ?k8 ?k9 ?kB ?_ ?c2 ?c3 ?c4 ?c5; (case k6 => k_is); (case kb => (conv => lhs; whnf)); (case ks => (conv => lhs; whnf)); (case k7 => k_is); (case k8 => (first | exact room (a := 0) (by assumption) (by decide) | (simp only [recursionLimit]; omega))); (case k9 => exact BindsTo.of_eq rfl); (case c5 => decide); (case kB => exact locs rfl); (case c2 => exact rfl); (case c3 => exact rfl); (case c4 => exact rfl))
  case kN => exact fa1 ⟨e1, bf⟩
  intro g L' h₁ tk F N G' kg hL kbg
  have KX' := G'.K
  have T' := G'.T
  clear KX
  have e2g := e2.kp kg (by simpa using hne)
  (try dsimp only); (try k_fold)
  k_steps
  rename Fr _ _ _ _ => F1; rename News _ _ _ _ => N1
  refine is_eliciting_spec G (kbg.trans (frKp F1)) (room (d := dp) (n := 1000) (a := 6) (by assumption) (by decide)) (e2g.kp (frKp F1) (by simp)) bt ?_
  intro h2 tk2 k2
  have F2 := F1.keeps k2.all
  have N2 := N1.grown k2.all
  clear F1 N1
  cases p
  · (try dsimp only)
    k_steps
    try dsimp only
    rename Fr _ _ _ _ => F9; rename News _ _ _ _ => N9; exact ret _ _ ((kg.fr F9).drop e1 (N9 (f, _) (by k_mem)).1)
  · (try dsimp only)
    k_steps
    refine ne_dataH (reads_list_at (News.get (by k_asm) (by k_mem)) rfl rfl (.cons (reads_tuple_at (Fr.keep (by k_asm) _ _ e2g) rfl rfl (.cons (Reads.str _ _) .nil)) .nil)) (reads_list_at (News.get (by k_asm) (by k_mem)) rfl rfl ReadsAll.nil) (by decide +kernel) (by decide +kernel) (by show un + 3 + 64 < cLine; simp only [cLine]; omega) ?_
    rename Fr _ _ _ _ => F9; rename News _ _ _ _ => N9; exact ret _ _ ((kg.fr F9).drop e1 (N9 (f, _) (by k_mem)).1)

set_option maxHeartbeats 4000000 in
theorem any_in_flight_spec {w : World} {mean mg mb} {b : Heap} (G : Gd w mean mg mb b) {s : Shared} (kb : Kp [] b s.heap) {dp un fr gd} (hd : dp + 10 < 1000) (hu : un + 100 < 9900) {f : Addr} {p : Bool} {Q E}
  (hf : FrIs b s.heap f p)
  (ret : ∀ h' tk', Kp [] s.heap h' → Q (.bool p) {s with heap := h', toks := tk'}) :
  wpAny (model Challenge.rw_sa0568_01.row.prog w) (Ar dp un fr gd) (call (.ref 65) [.ref f]) Q E s := by
  have KX := G.K
  revert KX; k_fill; intro KX
  refine wpAny_call ?_
  obtain ⟨n, tu, t1, e1, e2, hne, bf, bt⟩ := hf
  k_dflt (refine' enter (b := b) (tl := [(f, W.listOf #[.ref tu] n)]) G kb ?kN ?k6 ?kb ?ks ?k7 ?k8 ?k9 ?kB ?_ ?c2 ?c3 ?c4 ?c5; (case k6 => k_is); (case kb => (conv => lhs; whnf)); (case ks => (conv => lhs; whnf)); (case k7 => k_is); (case k8 => (first | exact room (a := 0) (by assumption) (by decide) | (simp only [recursionLimit]; omega))); (case k9 => exact BindsTo.of_eq rfl); (case c5 => decide); (case kB => exact locs rfl); (case c2 => exact rfl); (case c3 => exact rfl); (case c4 => exact rfl))
  case kN => exact fa1 ⟨e1, bf⟩
  intro g L' h₁ tk F N G' kg hL kbg
  have KX' := G'.K
  have T' := G'.T
  clear KX
  have e2g := e2.kp kg (by simpa using hne)
  (try dsimp only); (try k_fold)
  k_steps
  rename Fr _ _ _ _ => F1; rename News _ _ _ _ => N1
  refine counts_in_flight_spec G (kbg.trans (frKp F1)) (room (d := dp) (n := 1000) (a := 6) (by assumption) (by decide)) (e2g.kp (frKp F1) (by simp)) bt ?_
  intro h2 tk2 k2
  have F2 := F1.keeps k2.all
  have N2 := N1.grown k2.all
  clear F1 N1
  cases p
  · (try dsimp only)
    k_steps
    try dsimp only
    rename Fr _ _ _ _ => F9; rename News _ _ _ _ => N9; exact ret _ _ ((kg.fr F9).drop e1 (N9 (f, _) (by k_mem)).1)
  · (try dsimp only)
    k_steps
    refine ne_dataH (reads_list_at (News.get (by k_asm) (by k_mem)) rfl rfl (.cons (reads_tuple_at (Fr.keep (by k_asm) _ _ e2g) rfl rfl (.cons (Reads.str _ _) .nil)) .nil)) (reads_list_at (News.get (by k_asm) (by k_mem)) rfl rfl ReadsAll.nil) (by decide +kernel) (by decide +kernel) (by show un + 3 + 64 < cLine; simp only [cLine]; omega) ?_
    rename Fr _ _ _ _ => F9; rename News _ _ _ _ => N9; exact ret _ _ ((kg.fr F9).drop e1 (N9 (f, _) (by k_mem)).1)
end Mine
end
-- Sp2
section
open PySem PySem.W PySem.Calls PyProof.Rows
set_option maxRecDepth 100000
namespace Mine
theorem dictOf_of {prog : Program} {w : World} {K : Type} [DecidableEq K] {knd : KeyKind prog w K} {h : Heap} {d : Addr} {o : Obj} {kvs : List (K × Value)} (e : h.get? d = some o) (hd : o.IsDictOf knd kvs) : h.DictOf knd d kvs :=
  Heap.dictOf_iff.mpr ⟨o, e, hd⟩
theorem pk_intro {w : World} {h : Heap} {dx : Addr} {a0 a1 a2 a3 a4 a5 : Nat} {nu ti sz fs el fl : Value} (e : h.get? dx = some (dictOf [ent w "number" a0 nu, ent w "time" a1 ti, ent w "size" a2 sz, ent w "frames" a3 fs, ent w "is_eliciting" a4 el, ent w "in_flight" a5 fl] 6)) :
    ∃ t, h.get? dx = some (pkD w t nu ti sz fs el fl) := ⟨fun i => [a0, a1, a2, a3, a4, a5].getD i 0, e⟩
theorem sp_intro {w : World} {h : Heap} {dx : Addr} {a0 a1 a2 a3 a4 a5 a6 a7 a8 a9 a10 a11 a12 a13 a14 a15 a16 : Nat} {nn sd la le r0 r1 r2 r3 r4 r5 r6 r7 r8 r9 r10 r11 r12 : Value}
    (e : h.get? dx = some (dictOf [ent w "name" a0 r0, ent w "next_number" a1 nn, ent w "sent" a2 sd, ent w "largest_acked" a3 la, ent w "acked" a4 r1, ent w "last_eliciting_time" a5 le,
    ent w "loss_time" a6 r2, ent w "received" a7 r3, ent w "largest_seen" a8 r4, ent w "largest_time" a9 r5, ent w "floor" a10 r6, ent w "first_unacked" a11 r7,
    ent w "unacked" a12 r8, ent w "wants_now" a13 r9, ent w "has_new" a14 r10, ent w "ecn" a15 r11, ent w "is_gone" a16 r12] 17)) :
    ∃ t r, h.get? dx = some (spD w t nn sd la le r) := ⟨fun i => [a0, a1, a2, a3, a4, a5, a6, a7, a8, a9, a10, a11, a12, a13, a14, a15, a16].getD i 0, fun i => [r0, r1, r2, r3, r4, r5, r6, r7, r8, r9, r10, r11, r12].getD i .none, e⟩
set_option maxHeartbeats 4000000 in
theorem packet_spec {w : World} {mean mg mb} {b : Heap} (G : Gd w mean mg mb b) {s : Shared} (kb : Kp [] b s.heap) {dp un fr gd} (hd : dp + 20 < 1000) (hu : un + 200 < 9900) {f : Addr} {p : Bool} {n ti sz : Int} {t1 t2 t3 : Tok} {Q E}
  (hf : FrIs b s.heap f p)
  (ret : ∀ h' tk' x dx t, Kp [] s.heap h' → s.heap.get? x = none → s.heap.get? dx = none → dx < x → h'.get? x = some (instObj 92 dx) →
    h'.get? dx = some (pkD w t (.int n t1) (.int ti t2) (.int sz t3) (.ref f) (.bool p) (.bool p)) → Q (.ref x) {s with heap := h', toks := tk'}) :
  wpAny (model Challenge.rw_sa0568_01.row.prog w) (Ar dp un fr gd) (call (.ref 92) [.int n t1, .int ti t2, .int sz t3, .ref f]) Q E s := by
  have KX := G.K
  revert KX; k_fill; intro KX
  refine makeP G kb (by k_dflt k_is) (by k_dflt k_is) (by k_dflt k_is) ?_
  intro x dx h0 dp' un' fr' gd' hdp hun k0 fx fdx hlt ex edx
  have kb0 : Kp [] b h0 := kb.trans k0
  have bx : b.get? x = none := kpFresh kb fx
  have bdx : b.get? dx = none := kpFresh kb fdx
  k_dflt (refine' enter (b := b) (tl := [(x, instObj 92 dx), (dx, dictOf [] 0)]) G kb0 ?kN ?k6 ?kb ?ks ?k7 ?k8 ?k9 ?kB ?_ ?c2 ?c3 ?c4 ?c5; (case k6 => k_is); (case kb => (conv => lhs; whnf)); (case ks => (conv => lhs; whnf)); (case k7 => k_is); (case k8 => (first | exact room (a := 0) (by assumption) (by decide) | (simp only [recursionLimit]; omega))); (case k9 => exact BindsTo.of_eq rfl); (case c5 => decide); (case kB => exact locs rfl); (case c2 => exact rfl); (case c3 => exact rfl); (case c4 => exact rfl))
  case kN => exact fa2 ⟨ex, bx⟩ ⟨edx, bdx⟩
  intro g L' h₁ tk F N G' kg hL kbg
  have KX' := G'.K
  have T' := G'.T
  clear KX
  replace hlt := ltN hlt
  have fg : FrIs b g f p := by
    obtain ⟨n', tu, t1', e1, e2, hne, bf, bt⟩ := hf
    have a1 : f ∉ [x, dx] := by simp only [List.mem_cons, List.not_mem_nil, or_false, not_or]; exact ⟨neOf e1 fx, neOf e1 fdx⟩
    have a2 : tu ∉ [x, dx] := by
      have : ∃ o, s.heap.get? tu = some o := by unfold TuIs at e2; cases p <;> simp only [Bool.false_eq_true, if_false, if_true] at e2 <;> first | exact ⟨_, e2⟩ | (obtain ⟨_, _, e2⟩ := e2; exact ⟨_, e2⟩)
      obtain ⟨o, eo⟩ := this
      simp only [List.mem_cons, List.not_mem_nil, or_false, not_or]; exact ⟨neOf eo fx, neOf eo fdx⟩
    exact ⟨n', tu, t1', kg _ _ a1 (k0.all _ _ e1), (e2.kp k0 (by simp)).kp kg a2, hne, bf, bt⟩
  (try dsimp only); (try k_fold)
  k_steps
  (try dsimp only)
  rename Fr _ _ _ _ => F1; rename News _ _ _ _ => N1
  refine any_eliciting_spec G (kbg.trans (frKp F1)) (by show dp' + 1 + 10 < 1000; omega) (by show un' + 3 + 100 < 9900; omega) (fg.all (frKp F1)) ?_
  intro h2 tk2 k2
  have F2 := F1.keeps k2.all
  have N2 := N1.grown k2.all
  clear F1 N1
  (try dsimp only)
  k_steps
  (try dsimp only)
  rename Fr _ _ _ _ => F1; rename News _ _ _ _ => N1
  refine any_in_flight_spec G (kbg.trans (frKp F1)) (by show dp' + 1 + 10 < 1000; omega) (by show un' + 3 + 100 < 9900; omega) (fg.all (frKp F1)) ?_
  intro h3 tk3 k3
  have F3 := F1.keeps k3.all
  have N3 := N1.grown k3.all
  clear F1 N1
  (try dsimp only)
  k_steps
  (try dsimp only)
  rename Fr _ _ _ _ => F9; rename News _ _ _ _ => N9
  refine ⟨rfl, ?_⟩
  obtain ⟨t, et⟩ := pk_intro (N9 (dx, _) (by k_mem)).1
  refine ret _ _ x dx t (fun c o _ e => ?_) fx fdx hlt (N9 (x, _) (by k_mem)).1 et
  exact F9.keep _ _ (kg c o (by simp only [List.map_cons, List.map_nil, List.mem_cons, List.not_mem_nil, or_false, not_or]; exact ⟨neOf e fx, neOf e fdx⟩) (k0.all _ _ e))

set_option maxHeartbeats 4000000 in
theorem space_spec {w : World} {mean mg mb} {b : Heap} (G : Gd w mean mg mb b) {s : Shared} (kb : Kp [] b s.heap) {dp un fr gd} (hd : dp + 20 < 1000) {nm : Str} {t0 : Tok} {Q E}
  (ret : ∀ h' tk' x dx sd t i0 r, Kp [] s.heap h' → s.heap.get? x = none → s.heap.get? dx = none → s.heap.get? sd = none → dx < x → x ≠ sd → dx ≠ sd → h'.get? x = some (instObj 235 dx) →
    h'.get? dx = some (spD w t (.int 0 i0) (.ref sd) .none .none r) → h'.DictOf (PySem.intKind Challenge.rw_sa0568_01.row.prog w) sd [] → (sd == sysModules) = false → Q (.ref x) {s with heap := h', toks := tk'}) :
  wpAny (model Challenge.rw_sa0568_01.row.prog w) (Ar dp un fr gd) (call (.ref 235) [.str nm t0]) Q E s := by
  have KX := G.K
  revert KX; k_fill; intro KX
  refine makeP G kb (by k_dflt k_is) (by k_dflt k_is) (by k_dflt k_is) ?_
  intro x dx h0 dp' un' fr' gd' hdp hun k0 fx fdx hlt ex edx
  have kb0 : Kp [] b h0 := kb.trans k0
  have bx : b.get? x = none := kpFresh kb fx
  have bdx : b.get? dx = none := kpFresh kb fdx
  k_dflt (refine' enter (b := b) (tl := [(x, instObj 235 dx), (dx, dictOf [] 0)]) G kb0 ?kN ?k6 ?kb ?ks ?k7 ?k8 ?k9 ?kB ?_ ?c2 ?c3 ?c4 ?c5; (case k6 => k_is); (case kb => (conv => lhs; whnf)); (case ks => (conv => lhs; whnf)); (case k7 => k_is); (case k8 => (first | exact room (a := 0) (by assumption) (by decide) | (simp only [recursionLimit]; omega))); (case k9 => exact BindsTo.of_eq rfl); (case c5 => decide); (case kB => exact locs rfl); (case c2 => exact rfl); (case c3 => exact rfl); (case c4 => exact rfl))
  case kN => exact fa2 ⟨ex, bx⟩ ⟨edx, bdx⟩
  intro g L' h₁ tk F N G' kg hL kbg
  have KX' := G'.K
  have T' := G'.T
  clear KX
  replace hlt := ltN hlt
  (try dsimp only); (try k_fold)
  k_steps
  (try dsimp only)
  rename Fr _ _ _ _ => F9; rename News _ _ _ _ => N9; rename Obj.IsDictOf (PySem.intKind _ _) _ _ => hi9; rename (_ == sysModules) = false => lo9
  obtain ⟨t, r, et⟩ := sp_intro (N9 (dx, _) (by k_mem)).1
  refine ⟨rfl, ?_⟩
  have up : ∀ c o, s.heap.get? c = some o → g.get? c = some o := fun c o e => kg c o (by simp only [List.map_cons, List.map_nil, List.mem_cons, List.not_mem_nil, or_false, not_or]; exact ⟨neOf e fx, neOf e fdx⟩) (k0.all _ _ e)
  refine ret _ _ x dx _ t _ r (fun c o _ e => F9.keep _ _ (up c o e)) fx fdx ?_ hlt ?_ ?_ (N9 (x, _) (by k_mem)).1 et (dictOf_of (N9 (_, _) (by k_mem)).1 hi9) lo9
  · cases q : s.heap.get? _ with
    | none => rfl
    | some o => have z := up _ _ q; rw [(N9 (_, _) (by k_mem)).2.2] at z; cases z
  · exact neN (by omega)
  · exact neN (by omega)

end Mine
end
-- Base2
section
open PySem PySem.W PySem.Calls PyProof.Rows
set_option maxRecDepth 100000
namespace Mine
theorem frNew {g h : Heap} {L a : Addr} {m : Str → Option Value} (F : Fr g L h m) (f : h.get? a = none) : a ≠ L ∧ g.get? a = none :=
  by
  refine ⟨fun q => ?_, kpFresh (frKp F) f⟩
  obtain ⟨o, _, _, e, _⟩ := F.ns
  rw [q, e] at f
  cases f
/-- an object that a contract made enters the ledger -/
theorem newsAdd {g h h' : Heap} {L a : Addr} {o : Obj} {m : Str → Option Value} {tl : List (Addr × Obj)} (F : Fr g L h m) (f : h.get? a = none) (e : h'.get? a = some o) (N : News g L h' tl) : News g L h' ((a, o) :: tl) :=
  newsCons N e (frNew F f).1 (frNew F f).2
theorem updN {g h h' : Heap} {L d : Addr} {o o' : Obj} {m : Str → Option Value} {news news' : List (Addr × Obj)} (F : Fr g L h m) (N : News g L h news) (U : Upd d o o' news news') (hs : Heap.SameBut d h h') (e' : h'.get? d = some o') :
    Fr g L h' m ∧ News g L h' news' := by
  obtain ⟨pre, post, rfl, rfl, a, c⟩ := U.split
  have z := N (d, o) (List.mem_append.mpr (.inr (.head _)))
  exact ⟨F.change hs z.2.1 z.2.2, news_set N a c hs e'⟩
theorem sbKp {d : Addr} {h h' : Heap} (hs : Heap.SameBut d h h') : Kp [d] h h' := fun c o n e => hs.extBut c o (by simpa using n) e
theorem upNone {M : List Addr} {g h h1 : Heap} {L c : Addr} {m : Str → Option Value} (kg : Kp M h g) (F : Fr g L h1 m) (hM : ∀ a ∈ M, ∃ o, h1.get? a = some o) (e : h1.get? c = none) : h.get? c = none := by
  cases q : h.get? c with
  | none => rfl
  | some o =>
    by_cases hc : c ∈ M
    · obtain ⟨o2, e2⟩ := hM c hc
      rw [e] at e2; cases e2
    · have z := F.keep _ _ (kg c o hc q)
      rw [e] at z; cases z
end Mine
end
-- OnSent
section
open PySem PySem.W PySem.Calls PyProof.Rows
set_option maxRecDepth 100000
namespace Mine
structure Pk where
  num : Int
  a : Addr
  d : Addr
  at_ : Int
  sz : Int
  ping : Bool
  f : Addr
def PkIn (w : World) (h : Heap) (p : Pk) : Prop :=
  h.get? p.a = some (instObj 92 p.d) ∧ ∃ t t1 t2 t3, h.get? p.d = some (pkD w t (.int p.num t1) (.int p.at_ t2) (.int p.sz t3) (.ref p.f) (.bool p.ping) (.bool p.ping))
def kvsOf (ps : List Pk) : List (Int × Value) := ps.map fun p => (p.num, .ref p.a)
abbrev ik (w : World) := PySem.intKind PySem.Challenge.rw_sa0568_01.row.prog w
structure Sp (w : World) (b h : Heap) (x dx sd : Addr) (nn : Int) (la : Option Int) (ps : List Pk) : Prop where
  ex : h.get? x = some (instObj 235 dx)
  edx : ∃ t i0 lav le r, h.get? dx = some (spD w t (.int nn i0) (.ref sd) lav le r) ∧ OptIs lav la
  esd : h.DictOf (ik w) sd (kvsOf ps)
  sys : (sd == sysModules) = false
  lt : dx < x
  n1 : x ≠ sd
  n2 : dx ≠ sd
  bx : b.get? x = none
  bdx : b.get? dx = none
  bsd : b.get? sd = none
  pks : ∀ p ∈ ps, PkIn w h p ∧ p.a ∉ [x, dx, sd] ∧ p.d ∉ [x, dx, sd]
theorem PkIn.kp {w : World} {h h' : Heap} {p : Pk} {M : List Addr} (x : PkIn w h p) (k : Kp M h h') (n1 : p.a ∉ M) (n2 : p.d ∉ M) : PkIn w h' p :=
  let ⟨e, t, t1, t2, t3, e'⟩ := x; ⟨k _ _ n1 e, t, t1, t2, t3, k _ _ n2 e'⟩

theorem clsNe {h : Heap} {a c : Addr} {o o' : Obj} (e : h.get? a = some o) (e' : h.get? c = some o') (n : o.cls ≠ o'.cls) : a ≠ c := by rintro rfl; rw [e] at e'; cases e'; exact n rfl
theorem Sp.cls {w : World} {b h : Heap} {x dx sd : Addr} {nn : Int} {la : Option Int} {ps : List Pk} (S : Sp w b h x dx sd nn la ps) : ∀ a ∈ [x, dx, sd], ∃ o, h.get? a = some o ∧ (o.cls = .ref 235 ∨ o.cls = .type "dict") := by
  obtain ⟨t, i0, lav, le, r, edx, _⟩ := S.edx
  obtain ⟨od, eod, es, ep, hx, _⟩ := Heap.dictOf_iff.mp S.esd
  exact fa3 ⟨_, S.ex, .inl rfl⟩ ⟨_, edx, .inr rfl⟩ ⟨_, eod, .inr hx.1⟩
theorem Sp.off {w : World} {b h : Heap} {x dx sd a : Addr} {nn : Int} {la : Option Int} {ps : List Pk} {o : Obj} (S : Sp w b h x dx sd nn la ps) (e : h.get? a = some o) (n1 : o.cls ≠ .ref 235) (n2 : o.cls ≠ .type "dict") : a ∉ [x, dx, sd] := fun q => by
  obtain ⟨o', e', c⟩ := S.cls a q
  rw [e] at e'; cases e'
  exact c.elim n1 n2
theorem TuIs.get {h : Heap} {tu : Addr} {p : Bool} {t1 : Tok} (x : TuIs h tu p t1) : ∃ o, h.get? tu = some o ∧ o.cls = .type "tuple" := by
  unfold TuIs at x
  cases p with
  | true => simp only [if_true] at x; exact ⟨_, x, rfl⟩
  | false => simp only [Bool.false_eq_true, if_false] at x; obtain ⟨_, _, e⟩ := x; exact ⟨_, e, rfl⟩
theorem FrIs.sp {w : World} {b h h' : Heap} {x dx sd f : Addr} {p : Bool} {nn : Int} {la : Option Int} {ps : List Pk} (fi : FrIs b h f p) (S : Sp w b h x dx sd nn la ps) (k : Kp [x, dx, sd] h h') : FrIs b h' f p := by
  obtain ⟨n, tu, t1, e, t, r⟩ := fi
  obtain ⟨o, eo, co⟩ := t.get
  exact ⟨n, tu, t1, k _ _ (S.off e (by simp) (by simp)) e, t.kp k (S.off eo (by rw [co]; simp) (by rw [co]; simp)), r⟩
theorem kvs_num (ps : List Pk) : (kvsOf ps).map (·.1) = ps.map (·.num) := by simp [kvsOf]
theorem valueAt_none {kvs : List (Int × Value)} {k : Int} (h : ∀ q ∈ kvs, q.1 ≠ k) : valueAt kvs k = none := by
  unfold valueAt
  rw [List.find?_eq_none.mpr (fun q hq => by simpa using h q hq)]; rfl

theorem Sp.fresh {w : World} {b h : Heap} {x dx sd a : Addr} {nn : Int} {la : Option Int} {ps : List Pk} (S : Sp w b h x dx sd nn la ps) (e : h.get? a = none) : a ∉ [x, dx, sd] := fun q => by
  obtain ⟨o, e', _⟩ := S.cls a q
  rw [e] at e'; cases e'
theorem Sp.push {w : World} {b h h' : Heap} {x dx sd : Addr} {nn : Int} {la : Option Int} {ps : List Pk} {pk : Pk} (S : Sp w b h x dx sd nn la ps) (k : Kp [x, dx, sd] h h') (ex' : h'.get? x = some (instObj 235 dx))
    (edx' : ∃ t i0 lav le r, h'.get? dx = some (spD w t (.int nn i0) (.ref sd) lav le r) ∧ OptIs lav la) (esd' : h'.DictOf (ik w) sd (kvsOf ps ++ [(pk.num, .ref pk.a)])) (hp : PkIn w h' pk) (fa : h.get? pk.a = none) (fd : h.get? pk.d = none) :
    Sp w b h' x dx sd nn la (ps ++ [pk]) := by
  refine ⟨ex', edx', ?_, S.sys, S.lt, S.n1, S.n2, S.bx, S.bdx, S.bsd, fun q hq => ?_⟩
  · simpa [kvsOf] using esd'
  · rcases List.mem_append.mp hq with hq | hq
    · obtain ⟨a, n1, n2⟩ := S.pks q hq
      exact ⟨a.kp k n1 n2, n1, n2⟩
    · rw [List.mem_singleton.mp hq]
      exact ⟨hp, S.fresh fa, S.fresh fd⟩

set_option maxHeartbeats 4000000 in
theorem on_sent_spec {w : World} {mean mg mb} {b : Heap} (G : Gd w mean mg mb b) {s : Shared} (kb : Kp [] b s.heap) {dp un fr gd} (hd : dp + 30 < 1000) (hu : un + 300 < 9900) {x dx sd : Addr} {nn : Int} {la : Option Int} {ps : List Pk} {f : Addr} {p : Bool} {n ti sz : Int} {t1 t2 t3 : Tok} {Q E}
  (S : Sp w b s.heap x dx sd nn la ps) (hf : FrIs b s.heap f p) (hn : ∀ q ∈ ps, q.num ≠ n) (hlen : ps.length ≤ 100)
  (ret : ∀ h' tk' pk, pk.num = n → pk.at_ = ti → pk.sz = sz → pk.ping = p → pk.f = f → Kp [x, dx, sd] s.heap h' → s.heap.get? pk.a = none → s.heap.get? pk.d = none → Sp w b h' x dx sd nn la (ps ++ [pk]) → Q (.ref pk.a) {s with heap := h', toks := tk'}) :
  wpAny (model Challenge.rw_sa0568_01.row.prog w) (Ar dp un fr gd) (call (.ref 159) [.ref x, .int n t1, .int ti t2, .int sz t3, .ref f]) Q E s := by
  have KX := G.K
  revert KX; k_fill; intro KX
  obtain ⟨t, i0, lav, le, r, edx, hla⟩ := S.edx
  obtain ⟨od, eod, hod⟩ := Heap.dictOf_iff.mp S.esd
  refine wpAny_call ?_
  k_dflt (refine' enter (b := b) (tl := [(x, instObj 235 dx), (dx, spD w t (.int nn i0) (.ref sd) lav le r), (sd, od)]) G kb ?kN ?k6 ?kb ?ks ?k7 ?k8 ?k9 ?kB ?_ ?c2 ?c3 ?c4 ?c5; (case k6 => k_is); (case kb => (conv => lhs; whnf)); (case ks => (conv => lhs; whnf)); (case k7 => k_is); (case k8 => (first | exact room (a := 0) (by assumption) (by decide) | (simp only [recursionLimit]; omega))); (case k9 => exact BindsTo.of_eq rfl); (case c5 => decide); (case kB => exact locs rfl); (case c2 => exact rfl); (case c3 => exact rfl); (case c4 => exact rfl))
  case kN => exact fa3 ⟨S.ex, S.bx⟩ ⟨edx, S.bdx⟩ ⟨eod, S.bsd⟩
  intro g L' h₁ tk F N G' kg hL kbg
  have KX' := G'.K
  have T' := G'.T
  clear KX
  have hlt := ltN S.lt
  have hn1 := neN S.n1
  have hn2 := neN S.n2
  (try dsimp only); (try k_fold)
  k_steps
  (try dsimp only)
  have fg : FrIs b g f p := hf.sp S kg
  rename Fr _ _ _ _ => F1; rename News _ _ _ _ => N1
  refine packet_spec G (kbg.trans (frKp F1)) (room (d := dp) (n := 1000) (a := 21) (by assumption) (by decide)) (room (d := un) (n := 9900) (a := 203) (by assumption) (by decide)) (fg.all (frKp F1)) ?_
  intro h2 tk2 px pd tp k2 fpx fpd hlp epx epd
  have hM : ∀ a ∈ [x, dx, sd], ∃ o, Heap.get? _ a = some o := fa3 ⟨_, (N1 (x, _) (by k_mem)).1⟩ ⟨_, (N1 (dx, _) (by k_mem)).1⟩ ⟨_, (N1 (sd, _) (by k_mem)).1⟩
  have fpa := upNone kg F1 hM fpx
  have fpd' := upNone kg F1 hM fpd
  have F2 := F1.keeps k2.all
  have N2 := newsAdd F1 fpx epx (newsAdd F1 fpd epd (N1.grown k2.all))
  have apart : ∀ p ∈ [(x, instObj 235 dx), (dx, spD w t (.int nn i0) (.ref sd) lav le r), (sd, od)], p.1 ≠ px ∧ p.1 ≠ pd := fun p hp => ⟨neOf (N1 p hp).1 fpx, neOf (N1 p hp).1 fpd⟩
  simp only [List.mem_cons, List.not_mem_nil, or_false, forall_eq_or_imp, forall_eq] at apart
  obtain ⟨⟨ap1, ap2⟩, ⟨ap3, ap4⟩, ap5, ap6⟩ := apart
  have hlp' := ltN hlp
  clear F1 N1
  (try dsimp only)
  replace ap1 := neN ap1; replace ap2 := neN ap2; replace ap3 := neN ap3; replace ap4 := neN ap4; replace ap5 := neN ap5; replace ap6 := neN ap6
  k_steps
  (try dsimp only)
  rename Fr _ _ _ _ => F3; rename News _ _ _ _ => N3
  have hkv : ∀ q ∈ kvsOf ps, q.1 ≠ n := fun q hq => by
    obtain ⟨p0, hp0, rfl⟩ := List.mem_map.mp hq
    exact hn p0 hp0
  refine wpAny_setItem_pairs (knd := ik w) (intKind_is _ _ _ _) (dictOf_of (N3 (sd, od) (by k_mem)).1 hod) ?_ (by simp only [kvsOf, List.length_map, sizeLine_eq]; omega)
  intro h4 hd4 hs4
  rw [stored_absent (valueAt_none hkv)] at hd4
  obtain ⟨o4, e4, ho4⟩ := Heap.dictOf_iff.mp hd4
  obtain ⟨F4, N4⟩ := updN (o' := o4) F3 N3 (by k_upd) hs4 e4
  clear F3 N3
  (try dsimp only)
  cases p
  · k_steps
    (try dsimp only)
    rename Fr _ _ _ _ => F9; rename News _ _ _ _ => N9
    refine ret _ _ ⟨n, px, pd, ti, sz, false, f⟩ rfl rfl rfl rfl rfl (kg.fr F9) ?_ ?_ (S.push (kg.fr F9) (N9 (x, _) (by k_mem)).1 ⟨t, i0, lav, _, r, (N9 (dx, _) (by k_mem)).1, hla⟩ (dictOf_of (N9 (sd, _) (by k_mem)).1 ho4) ⟨(N9 (px, _) (by k_mem)).1, _, _, _, _, (N9 (pd, _) (by k_mem)).1⟩ ?_ ?_)
    all_goals first | exact fpa | exact fpd'
  · k_steps
    (try dsimp only)
    rename Fr _ _ _ _ => F9; rename News _ _ _ _ => N9
    refine ret _ _ ⟨n, px, pd, ti, sz, true, f⟩ rfl rfl rfl rfl rfl (kg.fr F9) ?_ ?_ (S.push (kg.fr F9) (N9 (x, _) (by k_mem)).1 ⟨t, i0, lav, _, r, (N9 (dx, _) (by k_mem)).1, hla⟩ (dictOf_of (N9 (sd, _) (by k_mem)).1 ho4) ⟨(N9 (px, _) (by k_mem)).1, _, _, _, _, (N9 (pd, _) (by k_mem)).1⟩ ?_ ?_)
    all_goals first | exact fpa | exact fpd'
end Mine
end
-- Comp
section
open PySem PySem.W PySem.Calls PyProof.Rows PyProof.Rows.LCg
set_option maxRecDepth 100000
namespace Mine
theorem CompEnd.mono {h₀ : Heap} {L : Addr} {m : Str → Option Value} {s₁ : Shared} {I : Addr} {oI : Obj} {C : Addr} {oC : Obj} {D : Addr} {oD : Obj} {S : List (Addr × Obj) → Prop} {r r' : Value → List (Addr × Obj) → Prop} {y : Value} {s₂ : Shared}
    (x : CompEnd h₀ L m s₁ I oI C oC D oD S r y s₂) (h : ∀ nw, r y nw → r' y nw) : CompEnd h₀ L m s₁ I oI C oC D oD S r' y s₂ := let ⟨h', tk, nw, a, b, c, d, e, f⟩ := x; ⟨h', tk, nw, a, b, c, d, e, h nw f⟩
section
variable {prog : Program} {w : World} {A : Around} {h₀ : Heap} {L : Addr} {m : Str → Option Value} {env : Env} {s : Shared} {ct elt : Expr} {x x₂ : Str} {scope : Scope} {cl : List (Str × Addr)} {S : List (Addr × Obj) → Prop} {P : Nat → Value → Prop} {Fin : List Value → List (Addr × Obj) → Prop}
theorem compU_ind (Inv : Nat → List Value → List (Addr × Obj) → Prop) (n : Nat)
    (step : ∀ i ys news, i < n → Inv i ys news → ∀ v I oI C oC D m₂ h tk (E' : Value → Shared → Prop), P i v → NsObj oC m₂ → m₂ x = some v → Fr h₀ L h m → News h₀ L h ((I, oI) :: (C, oC) :: (D, lst ys) :: news) → Off3 I C D news → ((@Ne Nat I C) ∧ (@Ne Nat I D) ∧ (@Ne Nat C D)) →
      wpAny (model prog w) A (eval elt (compEnvC scope cl C env)) (CompEnd h₀ L m { s with heap := h, toks := tk } I oI C oC D (lst ys) S (fun y news' => Inv (i + 1) (ys ++ [y]) news')) E' { s with heap := h, toks := tk })
    (fin : ∀ ys news, Inv n ys news → Fin ys news) : ∀ k i ys news, i + k = n → Inv i ys news → CompRest prog w A h₀ L m env elt x scope cl s S P Fin k i ys news := by
  intro k
  induction k with
  | zero => intro i ys news e h; exact fin _ _ ((by omega : i = n) ▸ h)
  | succ k ih =>
    intro i ys news e h
    refine CompRest.succ fun v I oI C oC D m₂ hh tk E' a b c d f g j => wpAny_mono (step i ys news (by omega) h v I oI C oC D m₂ hh tk E' a b c d f g j) (fun y s' q => CompEnd.mono q fun nw z => ih _ _ _ (by omega) z) fun _ _ q => q
theorem compT_ind (Inv : Nat → List Value → List (Addr × Obj) → Prop) (n : Nat)
    (step : ∀ i ys news, i < n → Inv i ys news → ∀ v I oI C oC D m₂ h tk (E' : Value → Shared → Prop), P i v → NsObj oC m₂ → m₂ x = some v → Fr h₀ L h m → News h₀ L h ((I, oI) :: (C, oC) :: (D, lst ys) :: news) → Off3 I C D news → ((@Ne Nat I C) ∧ (@Ne Nat I D) ∧ (@Ne Nat C D)) →
      wpAny (model prog w) A (isTrue ct (compEnvC scope cl C env) (eval ct (compEnvC scope cl C env))) (fun ok s' => if ok = true then
        wpAny (model prog w) A (eval elt (compEnvC scope cl C env)) (CompEnd h₀ L m { s with heap := h, toks := tk } I oI C oC D (lst ys) S (fun y news' => Inv (i + 1) (ys ++ [y]) news')) E' s'
        else CompEnd h₀ L m { s with heap := h, toks := tk } I oI C oC D (lst ys) S (fun _ news' => Inv (i + 1) ys news') Value.none s') E' { s with heap := h, toks := tk })
    (fin : ∀ ys news, Inv n ys news → Fin ys news) : ∀ k i ys news, i + k = n → Inv i ys news → LCt.CompRestT prog w A h₀ L m env ct elt x scope cl s S P Fin k i ys news := by
  intro k
  induction k with
  | zero => intro i ys news e h; exact fin _ _ ((by omega : i = n) ▸ h)
  | succ k ih =>
    intro i ys news e h
    refine LCt.CompRestT.succ fun v I oI C oC D m₂ hh tk E' a b c d f g j => wpAny_mono (step i ys news (by omega) h v I oI C oC D m₂ hh tk E' a b c d f g j) (fun ok s' q => ?_) fun _ _ q => q
    cases ok with
    | true =>
      simp only [if_true] at q ⊢
      exact wpAny_mono q (fun y s'' z => CompEnd.mono z fun nw z' => ih _ _ _ (by omega) z') fun _ _ q => q
    | false =>
      simp only [Bool.false_eq_true, if_false] at q ⊢
      exact CompEnd.mono q fun nw z' => ih _ _ _ (by omega) z'
theorem compP_ind (Inv : Nat → List Value → List (Addr × Obj) → Prop) (n : Nat)
    (step : ∀ i ys news, i < n → Inv i ys news → ∀ v, P i v → ∃ (t : Addr) (ot : Obj) (v₁ v₂ : Value) (nt : Nat), v = .ref t ∧ (t, ot) ∈ news ∧ ot.cls = .type "tuple" ∧ ot.data = .seq #[v₁, v₂] nt ∧
      ∀ I oI C oC D m₂ h tk (E' : Value → Shared → Prop), NsObj oC m₂ → m₂ x = some v₁ → m₂ x₂ = some v₂ → Fr h₀ L h m → News h₀ L h ((I, oI) :: (C, oC) :: (D, lst ys) :: news) → Off3 I C D news → ((@Ne Nat I C) ∧ (@Ne Nat I D) ∧ (@Ne Nat C D)) →
      wpAny (model prog w) A (eval elt (compEnvC scope cl C env)) (CompEnd h₀ L m { s with heap := h, toks := tk } I oI C oC D (lst ys) S (fun y news' => Inv (i + 1) (ys ++ [y]) news')) E' { s with heap := h, toks := tk })
    (fin : ∀ ys news, Inv n ys news → Fin ys news) : ∀ k i ys news, i + k = n → Inv i ys news → LCp.CompRestP prog w A h₀ L m env elt x x₂ scope cl s S P Fin k i ys news := by
  intro k
  induction k with
  | zero => intro i ys news e h; exact fin _ _ ((by omega : i = n) ▸ h)
  | succ k ih =>
    intro i ys news e h
    refine LCp.CompRestP.succ fun v hv => ?_
    obtain ⟨t, ot, v1, v2, nt, a1, a2, a3, a4, hh⟩ := step i ys news (by omega) h v hv
    exact ⟨t, ot, v1, v2, nt, a1, a2, a3, a4, fun I oI C oC D m₂ hp tk E' a b c d f g j => wpAny_mono (hh I oI C oC D m₂ hp tk E' a b c d f g j) (fun y s' q => CompEnd.mono q fun nw z => ih _ _ _ (by omega) z) fun _ _ q => q⟩
end
theorem take_map_succ {α β : Type} (f : α → β) (l : List α) (i : Nat) (h : i < l.length) : (l.take i).map f ++ [f l[i]] = (l.take (i + 1)).map f := by
  rw [List.take_succ_eq_append_getElem h, List.map_append]; rfl
theorem boolsAre_map {α : Type} (f : α → Bool) : ∀ l : List α, LSm.BoolsAre (l.map fun a => Value.bool (f a)) (l.map f)
  | [] => .nil
  | _ :: r => .cons _ (boolsAre_map f r)
theorem kpAll {tl : List (Addr × Obj)} {h h' : Heap} (k : Kp (tl.map (·.1)) h h') (e : ∀ p ∈ tl, h.get? p.1 = some p.2) (e' : ∀ p ∈ tl, h'.get? p.1 = some p.2) : Kp [] h h' := fun c o _ q => by
  by_cases hc : c ∈ tl.map (·.1)
  · obtain ⟨p, hp, rfl⟩ := List.mem_map.mp hc
    rw [e p hp] at q; cases q; exact e' p hp
  · exact k c o hc q
end Mine
end
-- Rng
section
open PySem PySem.W PySem.Calls PyProof.Rows
set_option maxRecDepth 100000
namespace Mine
structure Rg where
  a : Addr
  n : Int
  t1 : Tok
  t2 : Tok
abbrev Rg.obj (q : Rg) : Addr × Obj := (q.a, tupOf #[.int q.n q.t1, .int q.n q.t2])
/-- a list of ranges (n, n) -/
structure RgIs (b h : Heap) (rl : Addr) (ts : List Rg) : Prop where
  l : h.IsList rl (ts.map fun q => Value.ref q.a).toArray
  t : ∀ q ∈ ts, h.get? q.a = some q.obj.2
  bt : ∀ q ∈ ts, b.get? q.a = none
  ne : ∀ q ∈ ts, q.a ≠ rl

local macro_rules
  | `(tactic| walk_at "eval ListComp") => `(tactic| (k_dflt (refine LCp.ListComp_P (F₀ := by k_asm) (by with_unfolding_all rfl) (by decide) (by rfl) (by decide) (by rfl) (by rfl) (by decide) ?_)))
  | `(tactic| walk_at "SrcLP") => `(tactic| (k_dflt (refine LCp.SrcLP.base (by rfl) (by k_asm) (by k_asm) (by assumption) ?_ ?_)))
set_option maxHeartbeats 4000000 in
theorem has_number_spec {w : World} {mean mg mb} {b : Heap} (G : Gd w mean mg mb b) {s : Shared} (kb : Kp [] b s.heap) {dp un fr gd} (hd : dp + 10 < 1000) {rl : Addr} {ts : List Rg} {n : Int} {t1 : Tok} {Q E}
  (R : RgIs b s.heap rl ts) (hlen : ts.length ≤ 100)
  (ret : ∀ h' tk', Kp [] s.heap h' → Q (.bool (ts.any fun q => decide (q.n = n))) {s with heap := h', toks := tk'}) :
  wpAny (model Challenge.rw_sa0568_01.row.prog w) (Ar dp un fr gd) (call (.ref 70) [.ref rl, .int n t1]) Q E s := by
  have KX := G.K
  revert KX; k_fill; intro KX
  refine wpAny_call ?_
  k_dflt (refine' enterC (b := b) (tl := ts.map Rg.obj) G kb ?kN ?k6 ?kb ?ks ?k7 ?k8 ?k9 ?kB ?kD ?_ ?c2 ?c3 ?c4; (case k6 => k_is); (case kb => (conv => lhs; whnf)); (case ks => (conv => lhs; whnf)); (case k7 => k_is); (case k8 => (first | exact room (a := 0) (by assumption) (by decide) | (simp only [recursionLimit]; omega))); (case k9 => exact BindsTo.of_eq rfl); (case kB => exact rfl); (case kD => decide +kernel); (case c2 => exact rfl); (case c3 => exact rfl); (case c4 => exact rfl))
  case kN =>
    intro p hp
    obtain ⟨q, hq, rfl⟩ := List.mem_map.mp hp
    exact ⟨R.t q hq, R.bt q hq⟩
  intro g L' h₁ tk cells F N Y G' kg hL kbg
  have KX' := G'.K
  have T' := G'.T
  clear KX
  k_cells Y
  have hl' : g.IsList rl (ts.map fun q => Value.ref q.a).toArray := R.l.at fun o e => kg _ _ (by intro q; simp only [List.map_map, List.mem_map] at q; obtain ⟨z, hz, e'⟩ := q; exact R.ne z hz e') e
  try simp only [List.cons_append, List.nil_append] at N
  (try dsimp only); (try k_fold)
  k_steps
  case refine_1 => simp only [List.size_toArray, List.length_map, sizeLine_eq]; omega
  all_goals (
  refine compP_ind (fun i ys news => news = (L' + 1, _) :: ts.map Rg.obj ∧ ys = (ts.take i).map (fun q => Value.bool (decide (q.n = n)))) _ ?step ?fin _ 0 [] _ (Nat.zero_add _) ⟨rfl, by simp⟩
  case step =>
    rintro i ys news hi ⟨rfl, rfl⟩ v hv
    have hi' : i < ts.length := by simpa using hi
    have ev : v = .ref (ts[i]).a := by
      have : (ts.map fun q => Value.ref q.a)[i]? = some v := by simpa using hv
      simpa [List.getElem?_map, List.getElem?_eq_getElem hi'] using this.symm
    refine ⟨(ts[i]).a, (ts[i]).obj.2, _, _, 0, ev, List.mem_cons_of_mem _ (List.mem_map.mpr ⟨ts[i], List.getElem_mem hi', rfl⟩), rfl, rfl, ?_⟩
    intro I oI C oC D m₂ hh tk E' hC hx hx2 F2 N2 off ne
    (try dsimp only); (try k_fold)
    k_steps
    · refine LCg.CompEnd.intro F2 N2 _ (fun p hp => hp) off (.inl hl') ⟨rfl, ?_⟩
      rw [← take_map_succ _ ts i hi', show decide (n ≤ (ts[i]).n) = decide ((ts[i]).n = n) from decide_eq_decide.mpr (by omega)]
    · refine LCg.CompEnd.intro F2 N2 _ (fun p hp => hp) off (.inl hl') ⟨rfl, ?_⟩
      rw [← take_map_succ _ ts i hi', show decide ((ts[i]).n ≤ n) = decide ((ts[i]).n = n) from decide_eq_decide.mpr (by omega)]
  case fin =>
    rintro ys news ⟨rfl, rfl⟩ D hh tk2 F2 N2 off
    (try dsimp only)
    k_steps
    rw [List.take_of_length_le (by simp)] at N2
    refine LSm.any_bools (bs := ts.map fun q => decide (q.n = n)) F2 N2 rfl ⟨_, (N2 (D, _) (.head _)).1, rfl, _, rfl⟩ (boolsAre_map _ ts) ?_
    intro h3 tk3 F3 N3
    rw [show (ts.map fun q => decide (q.n = n)).any id = ts.any fun q => decide (q.n = n) by simp [List.any_map]]
    refine ret _ _ (kpAll (kg.fr F3) (fun p hp => ?_) (fun p hp => (N3 p (.tail _ (.tail _ hp))).1))
    obtain ⟨q, hq, rfl⟩ := List.mem_map.mp hp
    exact R.t q hq)
end Mine
end
-- Ops
section
open PySem PySem.W PySem.Calls PyProof.Rows
set_option maxRecDepth 100000
namespace Mine
section
variable {prog : Program} {w : World} {A : Around} {E : Value → Shared → Prop} {s : Shared} {h₀ : Heap} {L : Addr} {m : Str → Option Value} {news : List (Addr × Obj)} {Q : Value → Shared → Prop}
theorem ints_keys : ∀ {kvs : List (Int × Value)} {vs : List Value}, vs.length = kvs.length → (∀ (j : Nat) (v : Value), vs[j]? = some v → ∃ (k : Int) (x : Value), kvs[j]? = some (k, x) ∧ (PySem.intKind prog w).is k v = true) → IntsAre vs (kvs.map (·.1))
  | [], [], _, _ => .nil
  | q :: r, v :: vs, hl, h => by
    obtain ⟨k, x, e, e'⟩ := h 0 v rfl
    simp only [List.getElem?_cons_zero, Option.some.injEq] at e
    obtain ⟨t, rfl⟩ := Value.isInt_shape e'
    subst e
    exact .cons _ _ (ints_keys (by simpa using hl) fun j u hu => by simpa using h (j + 1) u (by simpa using hu))
  | [], _ :: _, hl, _ => by simp at hl
  | _ :: _, [], hl, _ => by simp at hl

theorem sortedList {l : Addr} {vs : List Value} {ns : List Int} (F : Fr h₀ L s.heap m) (N : News h₀ L s.heap news) (hl : s.heap.IsList l vs.toArray) (hI : IntsAre vs ns) (h64 : ns.length < 64) (hs : ns.Pairwise (· ≤ ·))
    (h : ∀ D h' vs' e, Fr h₀ L h' m → News h₀ L h' ((D, W.listOf vs'.toArray e) :: news) → (∀ p ∈ news, p.1 < D) → s.heap.get? D = none → IntsAre vs' ns → Q (.ref D) { s with heap := h' }) :
    wpAny (model prog w) A (call (.builtin "sorted") [.ref l]) Q E s :=
  sorted_N F N hl hI (by rw [hI.length]; exact h64) fun h' vs' ns' e F' N' hI' hp hP =>
    h _ h' vs' e F' N' (fun p hp => Nat.lt_succ_of_lt (Heap.lt_size (N p hp).1)) (freshOf (Nat.le_succ _)) (lks_uniq hp hP hs ▸ hI')

theorem sortedDict {d : Addr} {kvs : List (Int × Value)} (hh : A.handled = none) (F : Fr h₀ L s.heap m) (N : News h₀ L s.heap news) (hd : s.heap.DictOf (PySem.intKind prog w) d kvs) (lo : (d == sysModules) = false) (h64 : kvs.length < 64) (hs : (kvs.map (·.1)).Pairwise (· ≤ ·))
    (h : ∀ D h' vs' e tk, Fr h₀ L h' m → News h₀ L h' ((D, W.listOf vs'.toArray e) :: news) → (∀ p ∈ news, p.1 < D) → IntsAre vs' (kvs.map (·.1)) → Q (.ref D) { s with heap := h', toks := tk }) :
    wpAny (model prog w) A (call (.builtin "sorted") [.ref d]) Q E s := by
  obtain ⟨ep, hat⟩ := hd.dictAt
  refine kdu_sorted (kdl_dict (knd := PySem.intKind prog w) (kvs := kvs) (ep := ep) lo) hh F N hat (by rw [sizeLine_eq]; omega) fun D h' tk vs F' N' l1 hl hv => ?_
  have hI := ints_keys hl hv
  have z := N' (D, _) List.mem_cons_self
  refine wpAny_call_entry PyProof.Rows.slot_list_sort ⟨_, z.1, rfl⟩ PyProof.Rows.entry_list_sort (list_sort_tree (n := 0) (vs := vs) z.1 hI (by omega) fun out ns' hI' hp hP => ⟨.none, rfl, ?_⟩) (PyProof.Rows.args_list_sort _)
  obtain ⟨e, he⟩ := sortedHeap_at (out := out) z.1
  have old : ∀ c, c ≠ D → ∀ o, h'.get? c = some o → (sortedHeap h' D vs out).get? c = some o := fun c n o q => (sortedHeap_old n (Heap.lt_size q)).trans q
  have hns := lks_uniq hp hP hs
  subst hns
  refine h D _ out.toList e _ (frBack (M := [D]) F' (fun c o n q => old c (by simpa using n) o q) (by simpa using z.2.1.symm) (by simpa using z.2.2)) (fun p hp => ?_) l1 hI'
  rcases List.mem_cons.mp hp with rfl | hp
  · exact ⟨by rw [Array.toArray_toList]; exact he, z.2⟩
  · have y := N' p (.tail _ hp)
    exact ⟨old _ (Nat.ne_of_lt (l1 p hp)) _ y.1, y.2⟩

theorem listDict {d : Addr} {kvs : List (Int × Value)} (hh : A.handled = none) (F : Fr h₀ L s.heap m) (N : News h₀ L s.heap news) (hd : s.heap.DictOf (PySem.intKind prog w) d kvs) (lo : (d == sysModules) = false) (h64 : kvs.length < 64)
    (h : ∀ D h' vs' e tk, Fr h₀ L h' m → News h₀ L h' ((D, W.listOf vs'.toArray e) :: news) → (∀ p ∈ news, p.1 < D) → IntsAre vs' (kvs.map (·.1)) → Q (.ref D) { s with heap := h', toks := tk }) :
    wpAny (model prog w) A (call (.type "list") [.ref d]) Q E s := by
  obtain ⟨ep, hat⟩ := hd.dictAt
  exact kdl_N (kdl_dict (knd := PySem.intKind prog w) (kvs := kvs) (ep := ep) lo) hh F N hat (by rw [sizeLine_eq]; omega) fun D c h' tk vs F' N' l1 hl hv => h D h' vs c tk F' N' l1 (ints_keys hl hv)
end
end Mine
end
-- Acked
section
open PySem PySem.W PySem.Calls PyProof.Rows
set_option maxRecDepth 100000
namespace Mine
theorem RgIs.kp {b h h' : Heap} {rl : Addr} {ts : List Rg} (R : RgIs b h rl ts) (k : Kp [] h h') : RgIs b h' rl ts := ⟨R.l.at fun o e => k.all _ _ e, fun q hq => k.all _ _ (R.t q hq), R.bt, R.ne⟩
theorem take_filter_succ {α : Type} (p : α → Bool) (l : List α) (i : Nat) (h : i < l.length) : (l.take (i + 1)).filter p = (l.take i).filter p ++ (if p l[i] then [l[i]] else []) := by
  rw [List.take_succ_eq_append_getElem h, List.filter_append]
  congr 1
  cases hp : p l[i] <;> simp [hp]
theorem ints_at {vs : List Value} {ns : List Int} (hi : IntsAre vs ns) {i : Nat} {v : Value} (h : vs[i]? = some v) : ∃ (hlt : i < ns.length) (t : Tok), v = .int ns[i] t := by
  have hlt : i < ns.length := by
    rw [← hi.length]
    rcases Nat.lt_or_ge i vs.length with q | q
    · exact q
    · rw [List.getElem?_eq_none q] at h; cases h
  obtain ⟨t, e⟩ := hi.get i ns[i] (by simp [hlt])
  exact ⟨hlt, t, by rw [e] at h; exact (Option.some.inj h).symm⟩

local macro_rules | `(tactic| walk_at "eval ListComp") => `(tactic| (k_dflt (refine LCt.ListComp_T (F₀ := by k_asm) (by with_unfolding_all rfl) (by decide) (by rfl) (by decide) (by rfl) ?_)))
local macro_rules | `(tactic| walk_at "CompSrcT") => `(tactic| (k_dflt (refine LCt.CompSrcT.base (by rfl) (by k_asm) (by k_asm) (by assumption) ?_ ?_)))
set_option maxHeartbeats 4000000 in
theorem newly_acked_spec {w : World} {mean mg mb} {b : Heap} (G : Gd w mean mg mb b) {s : Shared} (kb : Kp [] b s.heap) {dp un fr gd} (hd : dp + 15 < 1000) {rl sl : Addr} {ts : List Rg} {vs : List Value} {ns : List Int} {Q E}
  (R : RgIs b s.heap rl ts) (hlen : ts.length ≤ 100) (hl : s.heap.IsList sl vs.toArray) (hi : IntsAre vs ns) (hs : ns.Pairwise (· ≤ ·)) (hlen2 : ns.length < 64)
  (ret : ∀ h' tk' D vs' e, Kp [] s.heap h' → s.heap.get? D = none → h'.get? D = some (W.listOf vs'.toArray e) → IntsAre vs' (ns.filter fun k => ts.any fun q => decide (q.n = k)) → Q (.ref D) {s with heap := h', toks := tk'}) :
  wpAny (model Challenge.rw_sa0568_01.row.prog w) (Ar dp un fr gd) (call (.ref 75) [.ref sl, .ref rl]) Q E s := by
  have KX := G.K
  revert KX; k_fill; intro KX
  refine wpAny_call ?_
  k_dflt (refine' enterC (b := b) (tl := []) G kb ?kN ?k6 ?kb ?ks ?k7 ?k8 ?k9 ?kB ?kD ?_ ?c2 ?c3 ?c4; (case k6 => k_is); (case kb => (conv => lhs; whnf)); (case ks => (conv => lhs; whnf)); (case k7 => k_is); (case k8 => (first | exact room (a := 0) (by assumption) (by decide) | (simp only [recursionLimit]; omega))); (case k9 => exact BindsTo.of_eq rfl); (case kB => exact rfl); (case kD => decide +kernel); (case c2 => exact rfl); (case c3 => exact rfl); (case c4 => exact rfl))
  case kN => exact fa0
  intro g L' h₁ tk cells F N Y G' kg hL kbg
  have KX' := G'.K
  have T' := G'.T
  clear KX
  k_cells Y
  have kg0 : Kp [] s.heap g := kg
  have hl' : g.IsList sl vs.toArray := hl.at fun o e => kg0.all _ _ e
  try simp only [List.cons_append, List.nil_append] at N
  (try dsimp only); (try k_fold)
  k_steps
  case refine_1 => simp only [List.size_toArray, hi.length, sizeLine_eq]; omega
  all_goals (
  refine compT_ind (fun i ys news => news = [(L' + 1, _)] ∧ IntsAre ys ((ns.take i).filter fun k => ts.any fun q => decide (q.n = k))) _ ?step ?fin _ 0 [] _ (Nat.zero_add _) ⟨rfl, by simpa using IntsAre.nil⟩
  case step =>
    rintro i ys news hi' ⟨rfl, hys⟩ v I oI C oC D m₂ hh tk2 E' hv hC hx F2 N2 off ne
    obtain ⟨hlt, t, rfl⟩ := ints_at hi (show vs[i]? = some v by simpa using hv)
    simp only [LCg.Off3, and_true] at off
    (try dsimp only); (try k_fold)
    k_steps
    refine has_number_spec G (kbg.trans (frKp F2)) (room (d := dp) (n := 1000) (a := 11) (by assumption) (by decide)) (R.kp (kg0.trans (frKp F2))) hlen ?_
    intro h3 tk3 k3
    have F3 := F2.keeps k3.all
    have N3 := N2.grown k3.all
    clear F2 N2
    have hstep := take_filter_succ (fun k => ts.any fun q => decide (q.n = k)) ns i hlt
    generalize hb : (ts.any fun q => decide (q.n = ns[i])) = bb at hstep ⊢
    cases bb
    · (try dsimp only)
      k_steps
      rw [hstep]; simpa using hys
    · (try dsimp only)
      k_steps
      rw [hstep]; exact hys.append (.cons _ _ .nil)
  case fin =>
    rintro ys news ⟨rfl, hys⟩ D hh tk2 F2 N2 off
    (try dsimp only)
    k_steps
    rw [List.take_of_length_le (by simp [hi.length])] at hys
    refine sortedList F2 N2 ⟨_, (N2 (D, _) (.head _)).1, rfl, _, rfl⟩ hys (Nat.lt_of_le_of_lt (List.length_filter_le _ _) hlen2) (hs.filter _) ?_
    intro D3 h3 vs3 e3 F3 N3 l3 f3 hI3
    have hf3 := upNone kg0 F2 (by simp) f3
    clear F2 N2
    (try dsimp only)
    k_steps
    exact ret _ _ D3 vs3 e3 (kg0.fr F3) hf3 (N3 (D3, _) (.head _)).1 hI3)
end Mine
end
-- Acked2
section
open PySem PySem.W PySem.Calls PyProof.Rows
set_option maxRecDepth 100000
namespace Mine
theorem dictKp {prog : Program} {w : World} {K : Type} [DecidableEq K] {knd : KeyKind prog w K} {h h' : Heap} {d : Addr} {kvs : List (K × Value)} (x : h.DictOf knd d kvs) (k : ∀ o, h.get? d = some o → h'.get? d = some o) : h'.DictOf knd d kvs := by
  obtain ⟨o, e, r⟩ := Heap.dictOf_iff.mp x
  exact Heap.dictOf_iff.mpr ⟨o, k o e, r⟩
theorem RgIs.sp {w : World} {b h h' : Heap} {x dx sd rl : Addr} {ts : List Rg} {nn : Int} {la : Option Int} {ps : List Pk} (R : RgIs b h rl ts) (S : Sp w b h x dx sd nn la ps) {M : List Addr} (hM : ∀ a ∈ M, a ∈ [x, dx, sd]) (k : Kp M h h') : RgIs b h' rl ts := by
  have k' := k.mono hM
  refine ⟨R.l.at fun o e => k' _ _ ?_ e, fun q hq => k' _ _ (S.off (R.t q hq) (by simp) (by simp)) (R.t q hq), R.bt, R.ne⟩
  obtain ⟨o, e', c, _⟩ := R.l
  rw [e] at e'; cases e'
  exact S.off e (by rw [c]; simp) (by rw [c]; simp)

set_option maxHeartbeats 4000000 in
theorem acked_by_spec {w : World} {mean mg mb} {b : Heap} (G : Gd w mean mg mb b) {s : Shared} (kb : Kp [] b s.heap) {dp un fr gd} (hd : dp + 20 < 1000) {x dx sd rl : Addr} {nn : Int} {la : Option Int} {ps : List Pk} {ts : List Rg} {Q E}
  (S : Sp w b s.heap x dx sd nn la ps) (R : RgIs b s.heap rl ts) (hlen : ts.length ≤ 100) (hs : (ps.map (·.num)).Pairwise (· ≤ ·)) (hlen2 : ps.length < 64)
  (ret : ∀ h' tk' D vs' e, Kp [] s.heap h' → s.heap.get? D = none → h'.get? D = some (W.listOf vs'.toArray e) → IntsAre vs' ((ps.map (·.num)).filter fun k => ts.any fun q => decide (q.n = k)) → Q (.ref D) {s with heap := h', toks := tk'}) :
  wpAny (model Challenge.rw_sa0568_01.row.prog w) (Ar dp un fr gd) (call (.ref 171) [.ref x, .ref rl]) Q E s := by
  have KX := G.K
  revert KX; k_fill; intro KX
  obtain ⟨t, i0, lav, le, r, edx, hla⟩ := S.edx
  refine wpAny_call ?_
  k_dflt (refine' enter (b := b) (tl := [(x, instObj 235 dx), (dx, spD w t (.int nn i0) (.ref sd) lav le r)]) G kb ?kN ?k6 ?kb ?ks ?k7 ?k8 ?k9 ?kB ?_ ?c2 ?c3 ?c4 ?c5; (case k6 => k_is); (case kb => (conv => lhs; whnf)); (case ks => (conv => lhs; whnf)); (case k7 => k_is); (case k8 => (first | exact room (a := 0) (by assumption) (by decide) | (simp only [recursionLimit]; omega))); (case k9 => exact BindsTo.of_eq rfl); (case c5 => decide); (case kB => exact locs rfl); (case c2 => exact rfl); (case c3 => exact rfl); (case c4 => exact rfl))
  case kN => exact fa2 ⟨S.ex, S.bx⟩ ⟨edx, S.bdx⟩
  intro g L' h₁ tk F N G' kg hL kbg
  have KX' := G'.K
  have T' := G'.T
  clear KX
  have hlt := ltN S.lt
  have kg0 : Kp [x, dx] s.heap g := kg
  have hdg : g.DictOf (ik w) sd (kvsOf ps) := dictKp S.esd fun o e => kg0 _ _ (by simp only [List.mem_cons, List.not_mem_nil, or_false, not_or]; exact ⟨Ne.symm S.n1, Ne.symm S.n2⟩) e
  have Rg' : RgIs b g rl ts := R.sp S (by intro a ha; simp only [List.mem_cons, List.not_mem_nil, or_false] at ha ⊢; rcases ha with h | h <;> simp [h]) kg0
  (try dsimp only); (try k_fold)
  k_steps
  rename Fr _ _ _ _ => F1; rename News _ _ _ _ => N1
  refine listDict rfl F1 N1 (dictKp hdg fun o e => F1.keep _ _ e) S.sys (by simp only [kvsOf, List.length_map]; exact hlen2) ?_
  intro D2 h2 vs2 e2 tk2 F2 N2 l2 hI2
  rw [kvs_num] at hI2
  clear F1 N1
  (try k_lt l2)
  (try dsimp only)
  k_steps
  have hM2 : ∀ a ∈ [x, dx], ∃ o, h2.get? a = some o := fa2 ⟨_, (N2 (x, _) (by k_mem)).1⟩ ⟨_, (N2 (dx, _) (by k_mem)).1⟩
  refine newly_acked_spec G (kbg.trans (frKp F2)) (room (d := dp) (n := 1000) (a := 16) (by assumption) (by decide)) (Rg'.kp (frKp F2)) hlen ⟨_, (N2 (D2, _) (by k_mem)).1, rfl, _, rfl⟩ hI2 hs (by simpa using hlen2) ?_
  intro h3 tk3 D3 vs3 e3 k3 f3 g3 hI3
  have hf3 := upNone kg0 F2 hM2 f3
  have F3 := F2.keeps k3.all
  have N3 := N2.grown k3.all
  clear F2 N2
  (try dsimp only)
  k_steps
  refine ret _ _ D3 vs3 e3 ?_ hf3 g3 hI3
  exact ((kg0.fr F3).drop S.ex (N3 (x, _) (by k_mem)).1).drop edx (N3 (dx, _) (by k_mem)).1
end Mine
end
-- Ops2
section
open PySem PySem.W PySem.Calls PyProof.Rows
set_option maxRecDepth 100000
namespace Mine
section
variable {prog : Program} {w : World} {A : Around} {E : Value → Shared → Prop} {s : Shared} {h₀ : Heap} {L : Addr} {m : Str → Option Value} {news : List (Addr × Obj)}
theorem inDict {d : Addr} {kvs : List (Int × Value)} {k : Int} {t : Tok} {Q : Value → Shared → Prop} (hd : s.heap.DictOf (PySem.intKind prog w) d kvs) (h : Q (.bool (valueAt kvs k).isSome) { s with toks := s.toks + 1 }) :
    wpAny (model prog w) A (compareOp .In (.int k t) (.ref d)) Q E s := wpAny_in_intMap hd.mapOf.intMap h
theorem getDict {d : Addr} {kvs : List (Int × Value)} {k : Int} {t : Tok} {v : Value} {Q : Value → Shared → Prop} (hd : s.heap.DictOf (PySem.intKind prog w) d kvs) (hv : valueAt kvs k = some v) (h : Q v { s with toks := s.toks + 1 }) :
    wpAny (model prog w) A (getItem (.ref d) (.int k t)) Q E s := wpAny_getItem_intMap hd.mapOf.intMap hv h
theorem popDict {d : Addr} {o : Obj} {kvs : List (Int × Value)} {k : Int} {t : Tok} {v : Value} {Q : Value → Shared → Prop} {f : Obj → List (Addr × Obj)} (F : Fr h₀ L s.heap m) (N : News h₀ L s.heap news) (U : UpdF d o news f) (hd : o.IsDictOf (PySem.intKind prog w) kvs) (hv : valueAt kvs k = some v)
    (hsz : kvs.length ≤ sizeLine)
    (h : ∀ h' o', Fr h₀ L h' m → News h₀ L h' (f o') → o'.IsDictOf (PySem.intKind prog w) (without kvs k) → Q v { s with heap := h', toks := s.toks + 1 }) :
    wpAny (model prog w) A (call (.builtin "dict.pop") [.ref d, .int k t]) Q E s := by
  obtain ⟨pre, post, rfl, hg, a, c⟩ := U.split
  have hm := N (d, o) (List.mem_append_right _ (.head _))
  have hD : s.heap.DictOf (PySem.intKind prog w) d kvs := Heap.dictOf_iff.mpr ⟨o, hm.1, hd⟩
  refine call_meetsIn PySem.F.slot_dict_pop hD.typeIs PySem.F.entry_dict_pop (PySem.F.args_dict_pop_2 _ _) (meets_dict_pop_there (PySem.intKind prog w) d (intKind_is prog w k t) [] (.inl rfl) rfl) ⟨kvs, v, hD, hsz, hv, fun h' hmm hs => ?_⟩
  obtain ⟨o', ho', hd'⟩ := Heap.dictOf_iff.mp hmm
  exact h h' o' (F.change hs hm.2.1 hm.2.2) (hg o' ▸ N.setIn a c hs ho') hd'
end
theorem valueAt_kvs (ps : List Pk) (k : Int) : valueAt (kvsOf ps) k = (ps.find? fun p => decide (p.num = k)).map fun p => .ref p.a := by
  unfold valueAt kvsOf
  rw [List.find?_map, Option.map_map]
  rfl
theorem without_kvs (ps : List Pk) (k : Int) : without (kvsOf ps) k = kvsOf (ps.filter fun p => decide (p.num ≠ k)) := by
  unfold without kvsOf
  rw [List.filter_map]
  rfl
end Mine
end
-- TakeP
section
open PySem PySem.W PySem.Calls PyProof.Rows
set_option maxRecDepth 100000
namespace Mine
theorem backNone {M : List Addr} {h g : Heap} {c : Addr} (k : Kp M h g) (e : g.get? c = none) (n : c ∉ M) : h.get? c = none := by
  cases q : h.get? c with
  | none => rfl
  | some o => rw [k c o n q] at e; cases e
theorem Sp.filt {w : World} {b h h' : Heap} {x dx sd : Addr} {nn : Int} {la la' : Option Int} {ps ps' : List Pk} (S : Sp w b h x dx sd nn la ps) (k : Kp [x, dx, sd] h h') (ex' : h'.get? x = some (instObj 235 dx))
    (edx' : ∃ t i0 lav le r, h'.get? dx = some (spD w t (.int nn i0) (.ref sd) lav le r) ∧ OptIs lav la') (esd' : h'.DictOf (ik w) sd (kvsOf ps')) (sub : ∀ p ∈ ps', p ∈ ps) : Sp w b h' x dx sd nn la' ps' :=
  ⟨ex', edx', esd', S.sys, S.lt, S.n1, S.n2, S.bx, S.bdx, S.bsd, fun q hq => by
    obtain ⟨a, n1, n2⟩ := S.pks q (sub q hq)
    exact ⟨a.kp k n1 n2, n1, n2⟩⟩
theorem filter_nil (ps : List Pk) : (ps.filter fun p => decide (p.num ∉ ([] : List Int))) = ps := List.filter_eq_self.mpr fun _ _ => by simp
theorem not_mem_take {ns : List Int} (hs : ns.Pairwise (· < ·)) {i : Nat} (h : i < ns.length) : ns[i] ∉ ns.take i := fun q => by
  obtain ⟨j, hj, e⟩ := List.getElem_of_mem q
  have hj' : j < i := by simpa using (List.length_take ▸ hj : j < min i ns.length) |> fun z => Nat.lt_of_lt_of_le z (Nat.min_le_left _ _)
  rw [List.getElem_take] at e
  have := List.pairwise_iff_getElem.mp hs j i (by omega) h hj'
  omega
theorem find_filter {ps : List Pk} {ms : List Int} {k : Int} (h : k ∉ ms) : ((ps.filter fun p => decide (p.num ∉ ms)).find? fun p => decide (p.num = k)) = ps.find? fun p => decide (p.num = k) := by
  rw [List.find?_filter]
  congr 1
  funext p
  by_cases hp : p.num = k
  · simp [hp, h]
  · simp [hp]
theorem filter_step {ps : List Pk} {ns : List Int} {i : Nat} (h : i < ns.length) : ((ps.filter fun p => decide (p.num ∉ ns.take i)).filter fun p => decide (p.num ≠ ns[i])) = ps.filter fun p => decide (p.num ∉ ns.take (i + 1)) := by
  rw [List.filter_filter]
  congr 1
  funext p
  rw [List.take_succ_eq_append_getElem h]
  simp only [List.mem_append, List.mem_singleton, not_or, Bool.decide_and]
  exact Bool.and_comm _ _
theorem filter_none {ps : List Pk} {ns : List Int} {i : Nat} (h : i < ns.length) (hn : (ps.find? fun p => decide (p.num = ns[i])) = none) : (ps.filter fun p => decide (p.num ∉ ns.take i)) = ps.filter fun p => decide (p.num ∉ ns.take (i + 1)) := by
  rw [← filter_step h]
  refine (List.filter_eq_self.mpr fun p hp => ?_).symm
  have := List.find?_eq_none.mp hn p (List.mem_filter.mp hp).1
  simpa using this
theorem filterMap_step {β : Type} (f : Int → Option β) {ns : List Int} {i : Nat} (h : i < ns.length) : (ns.take (i + 1)).filterMap f = (ns.take i).filterMap f ++ (f ns[i]).toList := by
  rw [List.take_succ_eq_append_getElem h, List.filterMap_append]
  cases hf : f ns[i] <;> simp [hf]

local macro_rules | `(tactic| lcg_off) => `(tactic| (rename LCg.Off3 _ _ _ _ => oo; exact oo))
local macro_rules | `(tactic| k_ne) => `(tactic| (refine neN ?_; (try dsimp only); first | with_reducible assumption | exact Ne.symm (by with_reducible assumption) | ((repeat (rename @Ne Nat _ _ => zz; clear zz)); omega)))
local macro_rules
  | `(tactic| walk_at "exec Assign cons ListComp") => `(tactic| (k_dflt (refine LCt.Assign_ListComp_T (F₀ := by k_asm) (by rfl) (by with_unfolding_all rfl) (by with_unfolding_all rfl) (by decide) (by rfl) (by decide) (by rfl) (by rfl) (by rfl) ?_)))
  | `(tactic| walk_at "CompSrcT") => `(tactic| (fail "mine"))
  | `(tactic| walk_at "call builtin:sorted") => `(tactic| (k_dflt (refine sortedList (by k_asm) (by k_asm) ⟨_, Fr.keep (by k_asm) _ _ (by assumption), rfl, _, rfl⟩ (by assumption) (by assumption) (by assumption) ?_)))
set_option maxHeartbeats 4000000 in
theorem take_spec2 {w : World} {mean mg mb} {b : Heap} (G : Gd w mean mg mb b) {s : Shared} (kb : Kp [] b s.heap) {dp un fr gd} (hd : dp + 20 < 1000) {x dx sd nl : Addr} {nn : Int} {la : Option Int} {ps : List Pk} {vs : List Value} {ns : List Int} {ne : Nat} {Q E}
  (S : Sp w b s.heap x dx sd nn la ps) (hl : s.heap.get? nl = some (W.listOf vs.toArray ne)) (hi : IntsAre vs ns) (hs0 : ns.Pairwise (· < ·)) (hlen : ns.length < 64) (hlen2 : ps.length < 64)
  (ret : ∀ h' tk' D e, Kp [x, dx, sd] s.heap h' → s.heap.get? D = none →
    h'.get? D = some (W.listOf ((ns.filterMap fun k => ps.find? fun p => decide (p.num = k)).map fun p => Value.ref p.a).toArray e) →
    Sp w b h' x dx sd nn la (ps.filter fun p => decide (p.num ∉ ns)) → Q (.ref D) {s with heap := h', toks := tk'}) :
  wpAny (model Challenge.rw_sa0568_01.row.prog w) (Ar dp un fr gd) (call (.ref 164) [.ref x, .ref nl]) Q E s := by
  have hs : ns.Pairwise (· ≤ ·) := hs0.imp fun h => Int.le_of_lt h
  have KX := G.K
  revert KX; k_fill; intro KX
  obtain ⟨t, i0, lav, le, r, edx, hla⟩ := S.edx
  obtain ⟨od, eod, hod⟩ := Heap.dictOf_iff.mp S.esd
  refine wpAny_call ?_
  k_dflt (refine' enterC (b := b) (tl := [(x, instObj 235 dx), (dx, spD w t (.int nn i0) (.ref sd) lav le r), (sd, od)]) G kb ?kN ?k6 ?kb ?ks ?k7 ?k8 ?k9 ?kB ?kD ?_ ?c2 ?c3 ?c4; (case k6 => k_is); (case kb => (conv => lhs; whnf)); (case ks => (conv => lhs; whnf)); (case k7 => k_is); (case k8 => (first | exact room (a := 0) (by assumption) (by decide) | (simp only [recursionLimit]; omega))); (case k9 => exact BindsTo.of_eq rfl); (case kB => exact rfl); (case kD => decide +kernel); (case c2 => exact rfl); (case c3 => exact rfl); (case c4 => exact rfl))
  case kN => exact fa3 ⟨S.ex, S.bx⟩ ⟨edx, S.bdx⟩ ⟨eod, S.bsd⟩
  intro g L' h₁ tk cells F N Y G' kg hL kbg
  have KX' := G'.K
  have T' := G'.T
  clear KX
  have hlt := ltN S.lt
  have hn1 := neN S.n1
  have hn2 := neN S.n2
  have kg0 : Kp [x, dx, sd] s.heap g := kg
  have hlg : g.get? nl = some (W.listOf vs.toArray ne) := kg0 _ _ (S.off hl (by simp) (by simp)) hl
  have hLa := hL (x, instObj 235 dx) (by simp)
  have hLb := hL (dx, spD w t (.int nn i0) (.ref sd) lav le r) (by simp)
  have hLc := hL (sd, od) (by simp)
  replace hLa := ltN hLa
  replace hLb := ltN hLb
  replace hLc := ltN hLc
  k_cells Y
  try simp only [List.cons_append, List.nil_append] at N
  (try dsimp only); (try k_fold)
  k_steps
  rename Fr _ _ _ _ => F1
  rename News _ _ _ _ => N1
  rename IntsAre _ _ => hI1
  rename (∀ p ∈ (_ : List (Addr × Obj)), p.1 < _) => l1
  rename Heap.get? _ _ = none => f1
  refine LCt.CompSrcT.ledger rfl F1 N1 (by k_mem) ?_ ?_
  · simp only [List.size_toArray, hI1.length, sizeLine_eq]; omega
  intro g2
  have hf1 := upNone kg0 F (fa3 ⟨_, (N (x, _) (by k_mem)).1⟩ ⟨_, (N (dx, _) (by k_mem)).1⟩ ⟨_, (N (sd, _) (by k_mem)).1⟩) f1
  clear F N F1
  k_lt l1
  refine compT_ind (fun i ys news => ∃ o' : Obj, o'.IsDictOf (ik w) (kvsOf (ps.filter fun p => decide (p.num ∉ ns.take i))) ∧ news = [(_, W.listOf _ _), (L' + 1, _), (x, instObj 235 dx), (dx, spD w t (.int nn i0) (.ref sd) lav le r), (sd, o')] ∧ ys = ((ns.take i).filterMap fun k => ps.find? fun p => decide (p.num = k)).map fun p => Value.ref p.a) _ ?step ?fin _ 0 [] _ (Nat.zero_add _) ⟨od, by rw [List.take_zero, filter_nil]; exact hod, rfl, by simp⟩
  case step =>
    rintro i ys news hi' ⟨o', ho', rfl, rfl⟩ v I oI C oC D m₂ hh tk2 E' hv hC hx F2 N2 off ne
    obtain ⟨hlt', t9, rfl⟩ := ints_at hI1 (show _ = some v from by simpa using hv)
    have offK := off
    simp only [LCg.Off3, and_true] at off
    obtain ⟨⟨_, _, _⟩, ⟨_, _, _⟩, ⟨_, _, _⟩, ⟨_, _, _⟩, _, _, _⟩ := off
    (try dsimp only); (try k_fold)
    k_steps
    rename Fr _ _ _ _ => F3
    rename News _ _ _ _ => N3
    have hnm := not_mem_take hs0 hlt'
    refine inDict (dictOf_of (N3 (sd, o') (by k_mem)).1 ho') ?_
    rw [valueAt_kvs, find_filter hnm]
    have hst := filterMap_step (fun k => ps.find? fun p => decide (p.num = k)) hlt'
    generalize hfo : (ps.find? fun p => decide (p.num = ns[i])) = fo at hst ⊢
    cases fo with
    | none =>
      simp only [Option.map_none, Option.isSome_none, Option.toList_none, List.append_nil] at hst ⊢
      k_steps
      · rw [← filter_none hlt' hfo]; exact ho'
      · rw [hst]
    | some p =>
      simp only [Option.map_some, Option.isSome_some, Option.toList_some] at hst ⊢
      k_steps
      rename Fr _ _ _ _ => F5
      rename News _ _ _ _ => N5
      k_dflt (refine popDict (o := o') F5 N5 (by k_updF) ho' (by rw [valueAt_kvs, find_filter hnm, hfo]; rfl) (by simp only [kvsOf, List.length_map, sizeLine_eq]; exact Nat.le_trans (List.length_filter_le _ _) (by omega)) ?_)
      intro h6 o6 F6 N6 ho6
      rw [without_kvs, filter_step hlt'] at ho6
      (try dsimp only at N6)
      clear F5 N5
      (try dsimp only)
      k_steps
      · exact ho6
      · rw [hst, List.map_append]; rfl
  case fin =>
    rintro ys news ⟨o', ho', rfl, rfl⟩ D hh tk2 F2 N2 off
    rw [List.take_of_length_le (by simp [hI1.length])] at ho' N2
    (try dsimp only)
    simp only [LCg.Off1, and_true] at off
    k_steps
    refine ret hh _ D _ (kg0.fr F2) (backNone kg0 (N2 (D, _) (by k_mem)).2.2 ?_) (N2 (D, _) (by k_mem)).1 (S.filt (kg0.fr F2) (N2 (x, _) (by k_mem)).1 ⟨t, i0, lav, le, r, (N2 (dx, _) (by k_mem)).1, hla⟩ (dictOf_of (N2 (sd, o') (by k_mem)).1 ho') fun p hp => (List.mem_filter.mp hp).1)
    simp only [List.mem_cons, List.not_mem_nil, or_false, not_or]
    obtain ⟨_, _, o1, o2, o3⟩ := off
    exact ⟨Ne.symm o1, Ne.symm o2, Ne.symm o3⟩
end Mine
end
-- Loop
section
open PySem PySem.W PySem.Calls PyProof.Rows
set_option maxRecDepth 100000
namespace Mine
/-- the end of a turn -/
def MyEnd (g : Heap) (L I : Addr) (oI : Obj) (Jn : (Str → Option Value) → List (Addr × Obj) → Prop) (s₁ s₂ : Shared) : Prop :=
  ∃ h' tk m' news', s₂ = { s₁ with heap := h', toks := tk } ∧ Fr g L h' m' ∧ News g L h' ((I, oI) :: news') ∧ (∀ p ∈ news', p.1 ≠ I) ∧ Jn m' news'
def MyPost (g : Heap) (L I : Addr) (oI : Obj) (Jn : (Str → Option Value) → List (Addr × Obj) → Prop) (s₁ : Shared) (Q : Flow → Shared → Prop) (f : Flow) (s₂ : Shared) : Prop :=
  match f with
  | .ret v => Q (.ret v) s₂
  | .brk => Q .next s₂
  | _ => MyEnd g L I oI Jn s₁ s₂
theorem MyEnd.intro {g : Heap} {L I : Addr} {oI : Obj} {Jn : (Str → Option Value) → List (Addr × Obj) → Prop} {s₁ : Shared} {h' : Heap} {tk : Nat} {m' : Str → Option Value} {all : List (Addr × Obj)} (F : Fr g L h' m') (N : News g L h' all) (news' : List (Addr × Obj))
    (sub : ∀ p ∈ (I, oI) :: news', p ∈ all) (off : ∀ p ∈ news', p.1 ≠ I) (j : Jn m' news') : MyEnd g L I oI Jn s₁ { s₁ with heap := h', toks := tk } := ⟨h', tk, m', news', rfl, F, fun p hp => N p (sub p hp), off, j⟩
section
variable {prog : Program} {w : World} {A : Around} {E : Value → Shared → Prop} {s : Shared} {env : Env} {g : Heap} {x : Str} {target : Expr} {body : List Stmt} {Q : Flow → Shared → Prop}

theorem ownOf1 {I l L : Addr} {o oI : Obj} {h : Heap} {own news₁ : List (Addr × Obj)} (sub : ∀ p ∈ own, p.1 ∈ [I, l]) (eq : ∀ p ∈ own, h.get? p.1 = some p.2) (eI : h.get? I = some oI) (N : News g L h (own ++ news₁)) (hl : g.get? l = some o ∨ (l, o) ∈ news₁) :
    ∀ p ∈ own, p = (I, oI) ∨ (p = (l, o) ∧ g.get? l = none) := fun p hp => by
  have z := N p (List.mem_append_left _ hp)
  rcases List.mem_cons.mp (sub p hp) with q | q
  · left
    have := eq p hp
    rw [q, eI] at this
    exact Prod.ext q (Option.some.inj this).symm
  · have q := List.mem_singleton.mp q
    rcases hl with e | e
    · rw [q, e] at z; cases z.2.2
    · right
      have y := (N _ (List.mem_append_right _ e)).1
      have := eq p hp
      rw [q, y] at this
      exact ⟨Prod.ext q (Option.some.inj this).symm, q ▸ z.2.2⟩

theorem loopGen {I l : Addr} {o : Obj} {n : Nat} {P : Nat → Value → Prop} {St : Nat → Heap → Prop} {m₀ : Str → Option Value} {news₀ : List (Addr × Obj)} (W : Walks prog w A I [I, l] [I] n P St)
    (hI : g.get? I = none) (hIL : env.locals ≠ I) (hlL : env.locals ≠ l) (hst : St 0 s.heap) (hIo : ∀ i h, St i h → ∃ oI, h.get? I = some oI) (F : Fr g env.locals s.heap m₀) (N : News g env.locals s.heap news₀) (hnI : ∀ p ∈ news₀, p.1 ≠ I)
    (J : Nat → (Str → Option Value) → List (Addr × Obj) → Prop) (hJ : J 0 m₀ news₀) (hS : ∀ i m nw, J i m nw → g.get? l = some o ∨ (l, o) ∈ nw)
    (turn : ∀ i v m₁ news₁ oI h tk, i < n → P i v → J i m₁ news₁ → (∀ p ∈ news₁, p.1 ≠ I) → Fr g env.locals h (fun y => if y = x then some v else m₁ y) → News g env.locals h ((I, oI) :: news₁) →
      wpAny (model prog w) A (execs body env) (MyPost g env.locals I oI (J (i + 1)) { s with heap := h, toks := tk } Q) E { s with heap := h, toks := tk })
    (done : ∀ m₁ news₁ h tk, J n m₁ news₁ → Fr g env.locals h m₁ → News g env.locals h news₁ → Q .next { s with heap := h, toks := tk }) :
    LoopAtV prog w A g env x body Q E (.ref I) s := by
  refine ⟨I, [I, l], [I], n, P, St, m₀, news₀, J, rfl, W, ?_, fun b hb => (List.mem_singleton.mp hb) ▸ hI, fun p hp hb => hnI p hp (List.mem_singleton.mp hb), hst, F, N, hJ, ?_, fun h' tk m' news' F' N' _ hJ' => done m' news' h' tk hJ' F' N'⟩
  · simp only [List.mem_cons, List.not_mem_nil, or_false, not_or]; exact ⟨hIL, hlL⟩
  · rintro i v m₁ news₁ s₁ own ⟨h, tk, rfl⟩ hi hP hJ₁ hoff sub eq all st F₁ N₁
    obtain ⟨oI, eI⟩ := hIo _ _ st
    have hio : (I, oI) ∈ own := all I (.head _) hI oI eI
    have own1 := ownOf1 sub eq eI N₁ (hS _ _ _ hJ₁)
    refine wpAny_mono (turn i v m₁ news₁ oI h tk hi hP hJ₁ (fun p hp q => hoff p hp (by rw [q]; exact .head _)) F₁ (fun p hp => ?_)) (fun f s₂ q => ?_) fun _ _ q => q
    · rcases List.mem_cons.mp hp with rfl | hp
      · exact N₁ _ (List.mem_append_left _ hio)
      · exact N₁ _ (List.mem_append_right _ hp)
    · have fin : MyEnd g env.locals I oI (J (i + 1)) { s with heap := h, toks := tk } s₂ → LoopStepU g env.locals [I] own (J (i + 1)) { s with heap := h, toks := tk } .next s₂ := by
        rintro ⟨h', tk', m', news', rfl, F', N', off', j'⟩
        refine ⟨rfl, h', tk', m', news', rfl, F', fun p hp => ?_, fun p hp hb => off' p hp (List.mem_singleton.mp hb), j'⟩
        rcases List.mem_append.mp hp with hp | hp
        · rcases own1 p hp with rfl | ⟨rfl, hg⟩
          · exact N' _ (.head _)
          · rcases hS _ _ _ j' with e | e
            · rw [hg] at e; cases e
            · exact N' _ (.tail _ e)
        · exact N' _ (.tail _ hp)
      cases f with
      | ret v => exact .ret q
      | brk => exact .brk q
      | next => exact .next (fin q)
      | cont => exact .cont (fin q)

theorem loopGenT {I l : Addr} {o : Obj} {n : Nat} {P : Nat → Value → Prop} {St : Nat → Heap → Prop} {m₀ : Str → Option Value} {news₀ : List (Addr × Obj)} (W : Walks prog w A I [I, l] [I] n P St)
    (hI : g.get? I = none) (hIL : env.locals ≠ I) (hlL : env.locals ≠ l) (hst : St 0 s.heap) (hIo : ∀ i h, St i h → ∃ oI, h.get? I = some oI) (F : Fr g env.locals s.heap m₀) (N : News g env.locals s.heap news₀) (hnI : ∀ p ∈ news₀, p.1 ≠ I)
    (hgo : ∀ i (s' : Shared) v (Q' : Unit → Shared → Prop), St i s'.heap → Q' () s' → wpAny (model prog w) A (letOwnedTupleGo target (.ref I) v) Q' E s')
    (J : Nat → (Str → Option Value) → List (Addr × Obj) → Prop) (hJ : J 0 m₀ news₀) (hS : ∀ i m nw, J i m nw → g.get? l = some o ∨ (l, o) ∈ nw)
    (turn : ∀ i v m₁ news₁ oI (s₁ : Shared), i < n → P i v → J i m₁ news₁ → (∀ p ∈ news₁, p.1 ≠ I) → Fr g env.locals s₁.heap m₁ → News g env.locals s₁.heap ((I, oI) :: news₁) →
      wpAny (model prog w) A (assign target env v) (fun _ s₃ => wpAny (model prog w) A (execs body env) (fun f s₄ => f = .next ∧ MyEnd g env.locals I oI (J (i + 1)) s₁ s₄) E s₃) E s₁)
    (done : ∀ m₁ news₁ h tk, J n m₁ news₁ → Fr g env.locals h m₁ → News g env.locals h news₁ → Q .next { s with heap := h, toks := tk }) :
    LoopAtT prog w A g env target body Q E (.ref I) s := by
  refine ⟨I, [I, l], [I], n, P, St, m₀, news₀, J, rfl, W, ?_, fun b hb => (List.mem_singleton.mp hb) ▸ hI, fun p hp hb => hnI p hp (List.mem_singleton.mp hb), hst, F, N, hgo, hJ, ?_, fun h' tk m' news' F' N' _ hJ' => done m' news' h' tk hJ' F' N'⟩
  · simp only [List.mem_cons, List.not_mem_nil, or_false, not_or]; exact ⟨hIL, hlL⟩
  · rintro i v m₁ news₁ s₁ own hi hP hJ₁ hoff sub eq all st F₁ N₁
    obtain ⟨oI, eI⟩ := hIo _ _ st
    have hio : (I, oI) ∈ own := all I (.head _) hI oI eI
    have own1 := ownOf1 sub eq eI N₁ (hS _ _ _ hJ₁)
    refine wpAny_mono (turn i v m₁ news₁ oI s₁ hi hP hJ₁ (fun p hp q => hoff p hp (by rw [q]; exact .head _)) F₁ (fun p hp => ?_)) (fun _ s₃ q3 => wpAny_mono q3 (fun f s₂ q => ?_) fun _ _ q => q) fun _ _ q => q
    · rcases List.mem_cons.mp hp with rfl | hp
      · exact N₁ _ (List.mem_append_left _ hio)
      · exact N₁ _ (List.mem_append_right _ hp)
    · obtain ⟨rfl, h', tk', m', news', rfl, F', N', off', j'⟩ := q
      refine ⟨rfl, h', tk', m', news', rfl, F', fun p hp => ?_, fun p hp hb => off' p hp (List.mem_singleton.mp hb), j'⟩
      rcases List.mem_append.mp hp with hp | hp
      · rcases own1 p hp with rfl | ⟨rfl, hg⟩
        · exact N' _ (.head _)
        · rcases hS _ _ _ j' with e | e
          · rw [hg] at e; cases e
          · exact N' _ (.tail _ e)
      · exact N' _ (.tail _ hp)

/-- a for over a list, in the base or on the ledger -/
theorem loopList {l : Addr} {its : Array Value} {e : Nat} {m₀ : Str → Option Value} {news₀ : List (Addr × Obj)} (hh : A.handled = none) (hl : s.heap.get? l = some (W.listOf its e)) (F : Fr g env.locals s.heap m₀) (N : News g env.locals s.heap news₀) (hlL : env.locals ≠ l)
    (J : Nat → (Str → Option Value) → List (Addr × Obj) → Prop) (hJ : J 0 m₀ news₀) (hS : ∀ i m nw, J i m nw → g.get? l = some (W.listOf its e) ∨ (l, W.listOf its e) ∈ nw)
    (turn : ∀ i v m₁ news₁ I oI h tk, its[i]? = some v → J i m₁ news₁ → (∀ p ∈ news₁, p.1 ≠ I) → Fr g env.locals h (fun y => if y = x then some v else m₁ y) → News g env.locals h ((I, oI) :: news₁) →
      wpAny (model prog w) A (execs body env) (MyPost g env.locals I oI (J (i + 1)) { s with heap := h, toks := tk } Q) E { s with heap := h, toks := tk })
    (done : ∀ m₁ news₁ h tk, J its.size m₁ news₁ → Fr g env.locals h m₁ → News g env.locals h news₁ → Q .next { s with heap := h, toks := tk }) :
    wpAny (model prog w) A (pyIter (.ref l)) (fun it s₂ => LoopAtV prog w A g env x body Q E it s₂) E s := by
  have hls : s.heap.IsList l its := ⟨_, hl, rfl, _, rfl⟩
  refine wpAny_pyIter_list hls ?_
  have hlt : l < s.heap.objs.size := Heap.lt_size hl
  exact loopGen (s := { s with heap := s.heap.push _ }) (Walks.list hh s.heap.objs.size l (Nat.ne_of_lt hlt) its) (next_is_new F) (Nat.ne_of_lt F.ns.lt) hlL ⟨⟨_, Heap.get?_push_size _ rfl, rfl, rfl⟩, hls.push _⟩
    (fun i h st => by obtain ⟨o, e, _⟩ := st.1; exact ⟨o, e⟩) (F.push _) (N.grown fun _ _ e => Heap.get?_push_of_some _ e) (fun p hp => Nat.ne_of_lt (Heap.lt_size (N p hp).1)) J hJ hS
    (fun i v m₁ news₁ oI h tk hi hP hJ₁ off F₁ N₁ => turn i v m₁ news₁ _ oI h tk hP hJ₁ off F₁ N₁) done

/-- a for with a tuple's names over a list -/
theorem loopListT {elts : List Expr} {kk : Nat} {tp : Pos} {l : Addr} {its : Array Value} {e : Nat} {m₀ : Str → Option Value} {news₀ : List (Addr × Obj)} (hh : A.handled = none) (hl : s.heap.get? l = some (W.listOf its e)) (F : Fr g env.locals s.heap m₀) (N : News g env.locals s.heap news₀) (hlL : env.locals ≠ l)
    (J : Nat → (Str → Option Value) → List (Addr × Obj) → Prop) (hJ : J 0 m₀ news₀) (hS : ∀ i m nw, J i m nw → g.get? l = some (W.listOf its e) ∨ (l, W.listOf its e) ∈ nw)
    (turn : ∀ i v m₁ news₁ I oI (s₁ : Shared), its[i]? = some v → J i m₁ news₁ → (∀ p ∈ news₁, p.1 ≠ I) → Fr g env.locals s₁.heap m₁ → News g env.locals s₁.heap ((I, oI) :: news₁) →
      wpAny (model prog w) A (assign (.Tuple elts kk tp) env v) (fun _ s₃ => wpAny (model prog w) A (execs body env) (fun f s₄ => f = .next ∧ MyEnd g env.locals I oI (J (i + 1)) s₁ s₄) E s₃) E s₁)
    (done : ∀ m₁ news₁ h tk, J its.size m₁ news₁ → Fr g env.locals h m₁ → News g env.locals h news₁ → Q .next { s with heap := h, toks := tk }) :
    wpAny (model prog w) A (pyIter (.ref l)) (fun it s₂ => LoopAtT prog w A g env (.Tuple elts kk tp) body Q E it s₂) E s := by
  have hls : s.heap.IsList l its := ⟨_, hl, rfl, _, rfl⟩
  refine wpAny_pyIter_list hls ?_
  have hlt : l < s.heap.objs.size := Heap.lt_size hl
  exact loopGenT (s := { s with heap := s.heap.push _ }) (Walks.list hh s.heap.objs.size l (Nat.ne_of_lt hlt) its) (next_is_new F) (Nat.ne_of_lt F.ns.lt) hlL ⟨⟨_, Heap.get?_push_size _ rfl, rfl, rfl⟩, hls.push _⟩
    (fun i h st => by obtain ⟨o, e, _⟩ := st.1; exact ⟨o, e⟩) (F.push _) (N.grown fun _ _ e => Heap.get?_push_of_some _ e) (fun p hp => Nat.ne_of_lt (Heap.lt_size (N p hp).1)) (fun i s' v Q' st hQ' => letGo_listiter st.1 hQ') J hJ hS
    (fun i v m₁ news₁ oI s₁ hi hP hJ₁ off F₁ N₁ => turn i v m₁ news₁ _ oI s₁ hP hJ₁ off F₁ N₁) done

/-- a for over a dict's keys -/
theorem loopKeys {d : Addr} {o : Obj} {kvs : List (Int × Value)} {m₀ : Str → Option Value} {news₀ : List (Addr × Obj)} (hh : A.handled = none) (hd : s.heap.get? d = some o) (ho : o.IsDictOf (PySem.intKind prog w) kvs) (lo : (d == sysModules) = false) (F : Fr g env.locals s.heap m₀) (N : News g env.locals s.heap news₀) (hlL : env.locals ≠ d)
    (J : Nat → (Str → Option Value) → List (Addr × Obj) → Prop) (hJ : J 0 m₀ news₀) (hS : ∀ i m nw, J i m nw → g.get? d = some o ∨ (d, o) ∈ nw)
    (turn : ∀ i k t m₁ news₁ I oI h tk, (kvs.map (·.1))[i]? = some k → J i m₁ news₁ → (∀ p ∈ news₁, p.1 ≠ I) → Fr g env.locals h (fun y => if y = x then some (.int k t) else m₁ y) → News g env.locals h ((I, oI) :: news₁) →
      wpAny (model prog w) A (execs body env) (MyPost g env.locals I oI (J (i + 1)) { s with heap := h, toks := tk } Q) E { s with heap := h, toks := tk })
    (done : ∀ m₁ news₁ h tk, J kvs.length m₁ news₁ → Fr g env.locals h m₁ → News g env.locals h news₁ → Q .next { s with heap := h, toks := tk }) :
    wpAny (model prog w) A (pyIter (.ref d)) (fun it s₂ => LoopAtV prog w A g env x body Q E it s₂) E s := by
  have hD : s.heap.DictOf (PySem.intKind prog w) d kvs := Heap.dictOf_iff.mpr ⟨o, hd, ho⟩
  obtain ⟨ep, hat⟩ := hD.dictAt
  refine wpAny_pyIter_dict lo hat ?_
  have hlt : d < s.heap.objs.size := Heap.lt_size hd
  refine loopGen (s := { s with heap := s.heap.push _ }) (Walks.dictKeys hh s.heap.objs.size d (Nat.ne_of_lt hlt) kvs ep) (next_is_new F) (Nat.ne_of_lt F.ns.lt) hlL ⟨⟨_, Heap.get?_push_size _ rfl, rfl, rfl⟩, hat.at' fun o e => Heap.get?_push_of_some _ e⟩
    (fun i h st => by obtain ⟨o, e, _⟩ := st.1; exact ⟨o, e⟩) (F.push _) (N.grown fun _ _ e => Heap.get?_push_of_some _ e) (fun p hp => Nat.ne_of_lt (Heap.lt_size (N p hp).1)) J hJ hS
    (fun i v m₁ news₁ oI h tk hi hP hJ₁ off F₁ N₁ => ?_) done
  obtain ⟨k, y, e, e'⟩ := hP
  obtain ⟨t, rfl⟩ := Value.isInt_shape e'
  exact turn i k t m₁ news₁ _ oI h tk (by simp [e]) hJ₁ off F₁ N₁
end
end Mine
end
-- Rows
section
open PySem PySem.W PySem.Calls PyProof.Rows
set_option maxRecDepth 100000
namespace Mine
def Hold (P : Prop) : Prop := P
theorem hold {P : Prop} (h : Hold P) : P := h
theorem Hold.out {P : Prop} (h : Hold P) : P := h
local macro_rules
  | `(tactic| walk_at "exec For Name Attribute cons nil") => `(tactic| (k_dflt (refine For_invVF (by k_asm) (by rfl) (by rfl) ?_)))
  | `(tactic| walk_at "pyIter ref") => `(tactic| (refine hold ?_))
local macro_rules | `(tactic| k_all) => `(tactic| assumption)
theorem subDict {prog : Program} {w : World} {A : Around} {E : Value → Shared → Prop} {s : Shared} {value slice : PySem.Expr} {d : Addr} {kvs : List (Int × Value)} {k : Int} {t : Tok} {v : Value} {Q : Value → Shared → Prop} (hd : s.heap.DictOf (PySem.intKind prog w) d kvs) (hv : valueAt kvs k = some v) (h : Q v { s with toks := s.toks + 1 })
    (hs : subscripted slice false (.ref d) (.int k t) = operate [.ref d, .int k t] (getItem (.ref d) (.int k t)) := by with_unfolding_all rfl) : wpAny (model prog w) A (subscriptTail value slice (.ref d) (.int k t)) Q E s :=
  tail_any hd.typeIs slot_dict_getitem.lookup (getDict hd hv h) hs
theorem find_at {ps : List Pk} (hn : (ps.map (·.num)).Nodup) {i : Nat} (h : i < ps.length) : (ps.find? fun p => decide (p.num = (ps[i]).num)) = some ps[i] := by
  induction ps generalizing i with
  | nil => exact absurd h (Nat.not_lt_zero _)
  | cons p r ih =>
    rw [List.map_cons, List.nodup_cons] at hn
    cases i with
    | zero => simp
    | succ i =>
      have h' : i < r.length := by simpa using h
      have hne : p.num ≠ (r[i]).num := fun e => hn.1 (List.mem_map.mpr ⟨r[i], List.getElem_mem h', e.symm⟩)
      simp only [List.getElem_cons_succ, List.find?_cons, hne, decide_false]
      exact ih hn.2 h'
local macro_rules | `(tactic| walk_at "getAttr ref") => `(tactic| (k_dflt (refine' get_own ?k1 ?k2 ?k3 ?k4 ?k5 ?k6 ?k7 ?k8 ?k9 ?_; (case k1 => k_asm); (case k2 => k_asm); (case k3 => exact ⟨Fr.keep (by k_asm) _ _ (by assumption), rfl, rfl, Fr.keep (by k_asm) _ _ (by assumption)⟩); (case k4 => k_is); (case k5 => k_is); (case k6 => k_is); (case k7 => k_is); (case k8 => k_get); (case k9 => k_handed); k_whole)))
theorem map_two {m : Str → Option Value} {a c : Str} {va vc : Value} (ha : m a = some va) (hc : m c = some vc) : ∃ u : Str → Option Value, m = fun y => if y = a then some va else if y = c then some vc else u y :=
  ⟨m, funext fun y => by
    by_cases h1 : y = a
    · rw [if_pos h1, h1, ha]
    · rw [if_neg h1]
      by_cases h2 : y = c
      · rw [if_pos h2, h2, hc]
      · rw [if_neg h2]⟩
/-- a row of what was sent -/
def rowObj (p : Pk) (t : Tok × Tok) : Obj := tupOf #[.int p.at_ t.1, .int p.sz t.2, .bool p.ping, .bool p.ping]

set_option maxHeartbeats 4000000 in
theorem sent_rows_spec {w : World} {mean mg mb} {b : Heap} (G : Gd w mean mg mb b) {s : Shared} (kb : Kp [] b s.heap) {dp un fr gd} (hd : dp + 20 < 1000) {x dx sd : Addr} {nn : Int} {la : Option Int} {ps : List Pk} {Q E}
  (S : Sp w b s.heap x dx sd nn la ps) (hlen2 : ps.length < 64) (hnd : (ps.map (·.num)).Nodup)
  (ret : ∀ h' tk' D rs, Kp [] s.heap h' → s.heap.get? D = none → (D == sysModules) = false → rs.map (·.1) = ps.map (·.num) →
    h'.DictOf (ik w) D rs → (∀ i (hi : i < ps.length), ∃ a t, rs[i]? = some ((ps[i]).num, .ref a) ∧ h'.get? a = some (rowObj ps[i] t) ∧ s.heap.get? a = none) → Q (.ref D) {s with heap := h', toks := tk'}) :
  wpAny (model Challenge.rw_sa0568_01.row.prog w) (Ar dp un fr gd) (call (.ref 225) [.ref x]) Q E s := by
  have KX := G.K
  revert KX; k_fill; intro KX
  obtain ⟨t, i0, lav, le, r, edx, hla⟩ := S.edx
  obtain ⟨od, eod, hod⟩ := Heap.dictOf_iff.mp S.esd
  refine wpAny_call ?_
  k_dflt (refine' enter (b := b) (tl := [(x, instObj 235 dx), (dx, spD w t (.int nn i0) (.ref sd) lav le r)]) G kb ?kN ?k6 ?kb ?ks ?k7 ?k8 ?k9 ?kB ?_ ?c2 ?c3 ?c4 ?c5; (case k6 => k_is); (case kb => (conv => lhs; whnf)); (case ks => (conv => lhs; whnf)); (case k7 => k_is); (case k8 => (first | exact room (a := 0) (by assumption) (by decide) | (simp only [recursionLimit]; omega))); (case k9 => exact BindsTo.of_eq rfl); (case c5 => decide); (case kB => exact locs rfl); (case c2 => exact rfl); (case c3 => exact rfl); (case c4 => exact rfl))
  case kN => exact fa2 ⟨S.ex, S.bx⟩ ⟨edx, S.bdx⟩
  intro g L' h₁ tk F N G' kg hL kbg
  have KX' := G'.K
  have T' := G'.T
  clear KX
  have hlt := ltN S.lt
  have kg0 : Kp [x, dx] s.heap g := kg
  have hdg : g.get? sd = some od := kg0 _ _ (by simp only [List.mem_cons, List.not_mem_nil, or_false, not_or]; exact ⟨Ne.symm S.n1, Ne.symm S.n2⟩) eod
  (try dsimp only); (try k_fold)
  k_steps
  refine Hold.out ?_
  rename Fr _ _ _ _ => F1
  rename News _ _ _ _ => N1
  rename Obj.IsDictOf (PySem.intKind _ _) _ [] => hi1
  rename (_ == sysModules) = false => lo1
  rename _ ∧ _ => l1
  rename Obj => o1
  rename Addr => D
  have fD : s.heap.get? D = none := backNone kg0 (N1 (D, o1) (by k_mem)).2.2 (by simp only [List.mem_cons, List.not_mem_nil, or_false, not_or]; exact ⟨Nat.ne_of_gt l1.1, Nat.ne_of_gt l1.2⟩)
  refine loopKeys rfl (F1.keep _ _ hdg) hod S.sys F1 N1 (fun (q : L' = sd) => Nat.lt_irrefl _ (Nat.lt_of_lt_of_le (Heap.lt_size hdg) (q ▸ F1.above))) (fun i m news => m (Str.ofString "self") = some (.ref x) ∧ m (Str.ofString "found") = some (.ref D) ∧ ∃ o' rs T, o'.IsDictOf (ik w) rs ∧ rs.map (·.1) = (ps.take i).map (·.num) ∧
    (∀ j (hj : j < ps.length), j < i → ∃ a t, rs[j]? = some ((ps[j]).num, .ref a) ∧ (a, rowObj ps[j] t) ∈ T) ∧ (∀ p ∈ T, p.1 ≠ D) ∧ (∀ p ∈ T, s.heap.get? p.1 = none) ∧ news = (D, o') :: (x, instObj 235 dx) :: (dx, spD w t (.int nn i0) (.ref sd) lav le r) :: T)
    ⟨rfl, rfl, o1, [], [], hi1, by simp, fun j hj h => absurd h (Nat.not_lt_zero _), by simp, by simp, rfl⟩ (fun _ _ _ _ => .inl hdg) ?turn ?done
  case turn =>
    intro i k t9 m₁ news₁ I oI hh tk2 hk HG1 off F2 N2
    refine gen ?_
    intro QG finG
    obtain ⟨hms, hmf, o', rs, T, ho', hrs, hrow, hTD, hTf, rfl⟩ := HG1
    obtain ⟨u, rfl⟩ := map_two hms hmf
    clear F1 N1
    (try dsimp only); (try k_fold)
    k_steps
    have hip : i < ps.length := by
      rcases Nat.lt_or_ge i ps.length with q | q
      · exact q
      · rw [List.getElem?_eq_none (by simpa [kvsOf] using q)] at hk; cases hk
    have ek : k = (ps[i]).num := by simpa [kvsOf, List.getElem?_eq_getElem hip] using hk.symm
    subst ek
    obtain ⟨⟨ga, tp, p1, p2, p3, gd'⟩, na, nd⟩ := S.pks ps[i] (List.getElem_mem hip)
    have n12 : ∀ a, a ∉ [x, dx, sd] → a ∉ [x, dx] := fun a h q => h (by simp only [List.mem_cons, List.not_mem_nil, or_false] at q ⊢; rcases q with h | h <;> simp [h])
    replace ga := kg0 _ _ (n12 _ na) ga
    replace gd' := kg0 _ _ (n12 _ nd) gd'
    refine subDict (kvs := kvsOf ps) (dictOf_of (F2.keep _ _ hdg) hod) (by rw [valueAt_kvs, find_at hnd hip]; rfl) ?_
    generalize hpi : ps[i] = pk at *
    (try dsimp only)
    k_steps
    rename Fr _ _ _ _ => F4
    rename News _ _ _ _ => N4
    rename _ ∧ _ => lD
    rename Addr => tu
    have hDI : @Ne Nat I D := Ne.symm (off (D, o') (by k_mem))
    have hrl : rs.length = i := by have := congrArg List.length hrs; simpa [Nat.min_eq_left (Nat.le_of_lt hip)] using this
    have hnk : valueAt rs pk.num = none := valueAt_none fun q hq e => by
      have h1 : q.1 ∈ (ps.take i).map (·.num) := hrs ▸ List.mem_map_of_mem hq
      obtain ⟨z, hz, ez⟩ := List.mem_map.mp h1
      obtain ⟨j, hj, rfl⟩ := List.getElem_of_mem hz
      have hj' : j < i := Nat.lt_of_lt_of_le (List.length_take ▸ hj) (Nat.min_le_left _ _)
      rw [List.getElem_take] at ez
      have := List.pairwise_iff_getElem.mp hnd j i (by simp; omega) (by simpa using hip) hj'
      apply this
      simp only [List.getElem_map]
      rw [ez, e, hpi]
    refine wpAny_setItem_pairs (knd := ik w) (intKind_is _ _ _ _) (dictOf_of (N4 (D, o') (by k_mem)).1 ho') ?_ (by rw [hrl, sizeLine_eq]; omega)
    intro h5 hd5 hs5
    rw [stored_absent hnk] at hd5
    obtain ⟨o5, e5, ho5⟩ := Heap.dictOf_iff.mp hd5
    obtain ⟨F5, N5⟩ := updN (o' := o5) F4 N4 (by k_upd) hs5 e5
    clear F4 N4
    k_steps
    have hfd : s.heap.get? tu = none := backNone kg0 (N5 (tu, _) (by k_mem)).2.2 (by simp only [List.mem_cons, List.not_mem_nil, or_false, not_or]; exact ⟨Nat.ne_of_gt lD.2.2.1, Nat.ne_of_gt lD.2.2.2.1⟩)
    obtain ⟨tt0, N6⟩ : ∃ tt : Tok × Tok, News g L' h5 ((tu, rowObj pk tt) :: (I, oI) :: (D, o5) :: (x, instObj 235 dx) :: (dx, spD w t (.int nn i0) (.ref sd) lav le r) :: T) := ⟨(_, _), N5⟩
    refine finG _ _ ?_
    refine MyEnd.intro F5 N6 ((D, o5) :: (x, instObj 235 dx) :: (dx, spD w t (.int nn i0) (.ref sd) lav le r) :: (tu, rowObj pk tt0) :: T) ?_ ?_ ⟨rfl, rfl, o5, _, (tu, rowObj pk tt0) :: T, ho5, ?_, ?_, ?_, ?_, rfl⟩
    · intro p hp
      simp only [List.mem_cons] at hp ⊢
      rcases hp with h | h | h | h | h | h <;> simp [h]
    · intro p hp
      simp only [List.mem_cons] at hp
      rcases hp with h | h | h | h | h
      · rw [h]; exact Ne.symm hDI
      · rw [h]; exact off (x, _) (by k_mem)
      · rw [h]; exact off (dx, _) (by k_mem)
      · rw [h]; exact Nat.ne_of_gt lD.1
      · exact off p (.tail _ (.tail _ (.tail _ h)))
    · rw [List.map_append, hrs, ← take_map_succ _ ps i hip, hpi]; rfl
    · intro j hj hji
      rcases Nat.lt_or_ge j i with q | q
      · obtain ⟨a, tt, e1, e2⟩ := hrow j hj q
        exact ⟨a, tt, by rw [List.getElem?_append_left (by omega)]; exact e1, .tail _ e2⟩
      · have : j = i := by omega
        subst this
        exact ⟨tu, tt0, by rw [List.getElem?_append_right (by omega), hrl, Nat.sub_self, hpi]; rfl, by rw [hpi]; exact .head _⟩
    · intro p hp
      rcases List.mem_cons.mp hp with h | h
      · rw [h]; exact Nat.ne_of_gt lD.2.1
      · exact hTD p h
    · intro p hp
      rcases List.mem_cons.mp hp with h | h
      · rw [h]; exact hfd
      · exact hTf p h
  case done =>
    rintro m₁ news₁ hh tk2 ⟨hms, hmf, o', rs, T, ho', hrs, hrow, hTD, hTf, rfl⟩ F2 N2
    obtain ⟨u, rfl⟩ := map_two hms hmf
    clear F1 N1
    (try dsimp only)
    k_steps
    have hlk : (kvsOf ps).length = ps.length := by simp [kvsOf]
    rw [hlk, List.take_length] at hrs
    refine ret hh tk2 D rs (((kg0.fr F2).drop S.ex (N2 (x, _) (by k_mem)).1).drop edx (N2 (dx, _) (by k_mem)).1) fD lo1 hrs (dictOf_of (N2 (D, o') (by k_mem)).1 ho') ?_
    intro i hi
    obtain ⟨a, tt, e1, e2⟩ := hrow i hi (by rw [hlk]; exact hi)
    exact ⟨a, tt, e1, (N2 _ (.tail _ (.tail _ (.tail _ e2)))).1, hTf _ e2⟩
end Mine
end
-- Lost
section
open PySem PySem.W PySem.Calls PyProof.Rows
set_option maxRecDepth 100000
namespace Mine
theorem lookup_mem {y : Str} {v : Value} : ∀ {l : List (Str × Value)}, l.lookup y = some v → (y, v) ∈ l
  | [], h => by simp at h
  | (a, c) :: r, h => by
    rw [List.lookup_cons] at h
    split at h
    · rename_i q; cases h; rw [beq_iff_eq.mp q]; exact .head _
    · exact .tail _ (lookup_mem h)
theorem map_list {m : Str → Option Value} (l : List (Str × Value)) (h : ∀ p ∈ l, m p.1 = some p.2) : ∃ u : Str → Option Value, m = fun y => (l.lookup y).or (u y) :=
  ⟨m, funext fun y => by
    cases e : l.lookup y with
    | none => rfl
    | some v => exact h _ (lookup_mem e)⟩
/-- the ledger's addresses, to give them a name -/
def adr0 {g h : Heap} {L a : Addr} {o : Obj} {r : List (Addr × Obj)} (_ : News g L h ((a, o) :: r)) : Addr := a
def adr1 {g h : Heap} {L a a1 : Addr} {o o1 : Obj} {r : List (Addr × Obj)} (_ : News g L h ((a, o) :: (a1, o1) :: r)) : Addr := a1
def adr2 {g h : Heap} {L a a1 a2 : Addr} {o o1 o2 : Obj} {r : List (Addr × Obj)} (_ : News g L h ((a, o) :: (a1, o1) :: (a2, o2) :: r)) : Addr := a2
theorem valueAt_at : ∀ {kvs : List (Int × Value)}, (kvs.map (·.1)).Nodup → ∀ {i : Nat} {k : Int} {v : Value}, kvs[i]? = some (k, v) → valueAt kvs k = some v
  | [], _, _, _, _, h => by simp at h
  | q :: r, hn, 0, k, v, h => by
    simp only [List.getElem?_cons_zero, Option.some.injEq] at h
    subst h
    simp [valueAt]
  | q :: r, hn, i + 1, k, v, h => by
    rw [List.map_cons, List.nodup_cons] at hn
    simp only [List.getElem?_cons_succ] at h
    have hne : q.1 ≠ k := fun e => hn.1 (e ▸ List.mem_map_of_mem (f := (·.1)) (List.mem_of_getElem? h))
    have := valueAt_at hn.2 h
    unfold valueAt at this ⊢
    rw [List.find?_cons]
    simp only [hne, decide_false]
    exact this
/-- what is told lost: its plain reading -/
def pkLost (la : Option Int) (now dl : Int) (p : Pk) : Bool :=
  match la with
  | none => false
  | some g => decide (p.num ≤ g) && decide (g ≥ p.num + 3 ∨ p.at_ + dl ≤ now)
def laterStep (la : Option Int) (now dl : Int) (acc : Option Int) (p : Pk) : Option Int :=
  match la with
  | none => acc
  | some g => if p.num ≤ g then (if g ≥ p.num + 3 ∨ p.at_ + dl ≤ now then acc else match acc with | none => some (p.at_ + dl) | some l => if p.at_ + dl < l then some (p.at_ + dl) else some l) else acc

/-- the rows that are handed on -/
structure RowsIn (w : World) (h : Heap) (D : Addr) (ps : List Pk) : Prop where
  ex : ∃ rs, h.DictOf (ik w) D rs ∧ rs.map (·.1) = ps.map (·.num) ∧ ∀ i (hi : i < ps.length), ∃ a t, rs[i]? = some ((ps[i]).num, .ref a) ∧ h.get? a = some (rowObj ps[i] t)
  sys : (D == sysModules) = false

local macro_rules
  | `(tactic| walk_at "exec For Name Call cons nil") => `(tactic| (k_dflt (refine For_invVF (by k_asm) (by rfl) (by rfl) ?_)))
  | `(tactic| walk_at "pyIter ref") => `(tactic| (refine hold ?_))
  | `(tactic| walk_at "call builtin:sorted") => `(tactic| (refine hold ?_))
  | `(tactic| walk_at "subscriptTail") => `(tactic| (k_dflt (refine' item_tupleT ?t ?a ?b ?c ?d ?_; (case t => exact ⟨_, Fr.keep (by k_asm) _ _ (by assumption), rfl, _, rfl⟩); (case a => decide); (case b => decide); (case c => rfl); (case d => rfl); k_whole)))
  | `(tactic| walk_at "my map") => `(tactic| (repeat (first | exact List.forall_mem_nil _ | refine List.forall_mem_cons.mpr ⟨rfl, ?_⟩)))
set_option maxHeartbeats 8000000 in
theorem detect_spec {w : World} {mean mg mb} {b : Heap} (G : Gd w mean mg mb b) {s : Shared} (kb : Kp [] b s.heap) {dp un fr gd} (hd : dp + 20 < 1000) {D : Addr} {ps : List Pk} {lav : Value} {la : Option Int} {now dl : Int} {tn td : Tok} {Q E}
  (R : RowsIn w s.heap D ps) (hla : OptIs lav la) (hlen2 : ps.length < 64) (hs : (ps.map (·.num)).Pairwise (· < ·))
  (ret : ∀ h' tk' T lo vs e lv, Kp [] s.heap h' → s.heap.get? T = none → s.heap.get? lo = none → lo < T → h'.get? T = some (tupOf #[.ref lo, lv]) → h'.get? lo = some (W.listOf vs.toArray e) → IntsAre vs ((ps.filter (pkLost la now dl)).map (·.num)) → OptIs lv (ps.foldl (laterStep la now dl) none) →
    Q (.ref T) {s with heap := h', toks := tk'}) :
  wpAny (model Challenge.rw_sa0568_01.row.prog w) (Ar dp un fr gd) (call (.ref 35) [.ref D, lav, .int now tn, .int dl td]) Q E s := by
  have KX := G.K
  revert KX; k_fill; intro KX
  obtain ⟨rs, hrs, hrm, hrow⟩ := R.ex
  refine wpAny_call ?_
  k_dflt (refine' enter (b := b) (tl := []) G kb ?kN ?k6 ?kb ?ks ?k7 ?k8 ?k9 ?kB ?_ ?c2 ?c3 ?c4 ?c5; (case k6 => k_is); (case kb => (conv => lhs; whnf)); (case ks => (conv => lhs; whnf)); (case k7 => k_is); (case k8 => (first | exact room (a := 0) (by assumption) (by decide) | (simp only [recursionLimit]; omega))); (case k9 => exact BindsTo.of_eq rfl); (case c5 => decide); (case kB => exact locs rfl); (case c2 => exact rfl); (case c3 => exact rfl); (case c4 => exact rfl))
  case kN => exact fa0
  intro g L' h₁ tk F N G' kg hL kbg
  have KX' := G'.K
  have T' := G'.T
  clear KX
  have kg0 : Kp [] s.heap g := kg
  (try dsimp only); (try k_fold)
  k_steps
  unfold Hold
  rename Fr _ _ _ _ => F1
  rename News _ _ _ _ => N1
  refine sortedDict rfl F1 N1 (dictKp hrs fun o e => F1.keep _ _ (kg0.all _ _ e)) R.sys (by have := congrArg List.length hrm; simp only [List.length_map] at this; omega) (by rw [hrm]; exact hs.imp fun h => Int.le_of_lt h) ?_
  intro SL h2 vs2 e2 tk2 F2 N2 l2 hI2
  rw [hrm] at hI2
  clear F1 N1
  k_lt l2
  (try dsimp only)
  k_steps
  unfold Hold
  obtain ⟨lo, elo⟩ : ∃ z, z = adr2 N2 := ⟨_, rfl⟩
  dsimp only [adr2] at elo
  subst elo
  have hSL : @Ne Nat SL L' := (N2 (SL, _) (by k_mem)).2.1
  have flo : s.heap.get? lo = none := backNone kg0 (N2 (lo, _) (by k_mem)).2.2 (by simp)
  refine loopList rfl (N2 (SL, _) (by k_mem)).1 F2 (newsSub (tl' := [(SL, W.listOf vs2.toArray e2), (lo, W.listOf #[] 0)]) N2 (fa2 (by k_mem) (by k_mem))) (Ne.symm hSL)
    (fun i m news => ∀ CC : Prop, (∀ lv its n, (∀ p ∈ [(Str.ofString "sent", Value.ref D), (Str.ofString "largest", lav), (Str.ofString "now", .int now tn), (Str.ofString "delay", .int dl td), (Str.ofString "lost", .ref lo), (Str.ofString "later", lv)], m p.1 = some p.2) → (OptIs lv ((ps.take i).foldl (laterStep la now dl) none)) → (IntsAre its.toList (((ps.take i).filter (pkLost la now dl)).map (·.num))) → (news = [(SL, W.listOf vs2.toArray e2), (lo, W.listOf its n)]) → CC) → CC)
    (fun CC kk => kk .none #[] 0 (by repeat (first | exact List.forall_mem_nil _ | refine List.forall_mem_cons.mpr ⟨rfl, ?_⟩)) rfl (by simpa using IntsAre.nil) rfl) (by intro i m nw q; refine q _ ?_; intro _ _ _ _ _ _ e; subst e; exact .inr (.head _)) ?turn ?done
  case turn =>
    intro i v m₁ news₁ I oI hh tk3 hv HG1 off F3 N3
    refine gen ?_
    intro QG finG
    refine HG1 _ ?_
    intro lv its ne hm hlv hits eq104
    subst eq104
    obtain ⟨hlt, t9, rfl⟩ := ints_at hI2 (show vs2[i]? = some v by simpa using hv)
    have hip : i < ps.length := by simpa using hlt
    obtain ⟨u, rfl⟩ := map_list _ hm
    clear F2 N2
    have offI : @Ne Nat SL I ∧ @Ne Nat lo I := ⟨off (SL, _) (by k_mem), off (lo, _) (by k_mem)⟩
    have l2' := l2.2
    obtain ⟨ra, rt, hr1, hr2⟩ := hrow i hip
    replace hr2 := kg0.all _ _ hr2
    have hst1 : (ps.take (i + 1)).foldl (laterStep la now dl) none = laterStep la now dl ((ps.take i).foldl (laterStep la now dl) none) ps[i] := by rw [List.take_succ_eq_append_getElem hip, List.foldl_append]; rfl
    have hst2 := take_filter_succ (pkLost la now dl) ps i hip
    simp only [List.getElem_map] at F3 ⊢
    have hsub : valueAt rs (ps[i]).num = some (.ref ra) := valueAt_at (by rw [hrm]; exact hs.imp fun h => Int.ne_of_lt h) hr1
    generalize hpi : ps[i] = pk at *
    cases la with
    | none =>
      have e : lav = .none := hla
      subst e
      (try dsimp only); (try k_fold)
      k_steps
      refine finG _ _ ?_
      refine MyEnd.intro F3 N3 [(SL, _), (lo, W.listOf its ne)] (fun p hp => hp) (fa2 offI.1 offI.2) (fun CC kk => kk lv its ne (by walk_at "my map") ?_ ?_ rfl)
      · rw [hst1]; exact hlv
      · rw [hst2, if_neg (by simp [pkLost]), List.append_nil]; exact hits
    | some g0 =>
      obtain ⟨tg, e⟩ := hla
      subst e
      (try dsimp only); (try k_fold)
      k_steps
      · refine finG _ _ ?_
        refine MyEnd.intro F3 N3 [(SL, _), (lo, W.listOf its ne)] (fun p hp => hp) (fa2 offI.1 offI.2) (fun CC kk => kk lv its ne (by walk_at "my map") ?_ ?_ rfl)
        · rw [hst1]; simp only [laterStep]; rw [if_neg (by omega)]; exact hlv
        · rw [hst2, if_neg (by simp only [pkLost, Bool.and_eq_true, decide_eq_true_eq]; omega), List.append_nil]; exact hits
      · rename ¬ _ < _ => hle
        refine subDict (kvs := rs) (dictKp hrs fun o e => F3.keep _ _ (kg0.all _ _ e)) hsub ?_
        k_steps
        refine is_lost_spec G (kbg.trans (frKp (by assumption))) (room (d := dp) (n := 1000) (a := 6) (by assumption) (by decide)) ?_
        intro h4 tk4 k4
        rename Fr _ _ _ _ => F4
        rename News _ _ _ _ => N4
        have F5 := F4.keeps k4.all
        have N5 := N4.grown k4.all
        clear F4 N4
        (try dsimp only)
        by_cases hlost : g0 ≥ pk.num + 3 ∨ pk.at_ + dl ≤ now
        · rw [decide_eq_true hlost]
          k_steps
          rename Fr _ _ _ _ => F6
          rename News _ _ _ _ => N6
          refine finG _ _ ?_
          refine MyEnd.intro F6 N6 [(SL, _), (lo, _)] (fun p hp => hp) (fa2 offI.1 offI.2) (fun CC kk => kk lv (its.push (.int pk.num t9)) _ (by walk_at "my map") ?_ ?_ rfl)
          · rw [hst1]; simp only [laterStep]; rw [if_pos (by omega), if_pos hlost]; exact hlv
          · rw [hst2, if_pos (by simp only [pkLost, Bool.and_eq_true, decide_eq_true_eq]; exact ⟨by omega, hlost⟩), List.map_append, Array.toList_push]
            exact hits.append (.cons _ _ .nil)
        · rw [decide_eq_false hlost]
          have hpf : ((ps.take (i + 1)).filter (pkLost (some g0) now dl)) = (ps.take i).filter (pkLost (some g0) now dl) := by
            rw [hst2, if_neg (by simp only [pkLost, Bool.and_eq_true, decide_eq_true_eq]; exact fun q => hlost q.2), List.append_nil]
          generalize hacc : (ps.take i).foldl (laterStep (some g0) now dl) none = acc at *
          cases acc with
          | none =>
            have e : lv = .none := hlv
            subst e
            (try dsimp only)
            k_steps
            rename Fr _ _ _ _ => F7
            rename News _ _ _ _ => N7
            refine finG _ _ ?_
            refine MyEnd.intro F7 N7 [(SL, _), (lo, W.listOf its ne)] (fun p hp => hp) (fa2 offI.1 offI.2) (fun CC kk => kk _ its ne (by walk_at "my map") ?_ (by rw [hpf]; exact hits) rfl)
            rw [hst1]; simp only [laterStep]; rw [if_pos (by omega), if_neg hlost]; exact ⟨_, rfl⟩
          | some l0 =>
            obtain ⟨tl, e⟩ := hlv
            subst e
            (try dsimp only)
            k_steps
            · rename Fr _ _ _ _ => F7
              rename News _ _ _ _ => N7
              refine finG _ _ ?_
              refine MyEnd.intro F7 N7 [(SL, _), (lo, W.listOf its ne)] (fun p hp => hp) (fa2 offI.1 offI.2) (fun CC kk => kk _ its ne (by walk_at "my map") ?_ (by rw [hpf]; exact hits) rfl)
              rw [hst1]; simp only [laterStep]; rw [if_pos (by omega), if_neg hlost, if_pos (by omega)]; exact ⟨_, rfl⟩
            · rename Fr _ _ _ _ => F7
              rename News _ _ _ _ => N7
              refine finG _ _ ?_
              refine MyEnd.intro F7 N7 [(SL, _), (lo, W.listOf its ne)] (fun p hp => hp) (fa2 offI.1 offI.2) (fun CC kk => kk _ its ne (by walk_at "my map") ?_ (by rw [hpf]; exact hits) rfl)
              rw [hst1]; simp only [laterStep]; rw [if_pos (by omega), if_neg hlost, if_neg (by omega)]; exact ⟨_, rfl⟩
  case done =>
    intro m₁ news₁ hh tk3 hh105 F3 N3
    refine hh105 _ ?_
    intro lv its ne hm hlv hits eq106
    subst eq106
    obtain ⟨u, rfl⟩ := map_list _ hm
    clear F2 N2
    have l2' := l2.2
    rw [List.take_of_length_le (by simp [hI2.length])] at hlv hits
    (try dsimp only)
    k_steps
    rename Fr _ _ _ _ => F7
    rename News _ _ _ _ => N7
    rename _ ∧ _ => l7
    rename Addr => T
    exact ret _ _ T lo its.toList ne lv (kg0.fr F7) (backNone kg0 (N7 (T, _) (by k_mem)).2.2 (by simp)) flo l7.2 (N7 (T, _) (by k_mem)).1 (by rw [Array.toArray_toList]; exact (N7 (lo, _) (by k_mem)).1) hits hlv
end Mine
end
-- CompV
section
open PySem PySem.W PySem.Calls PyProof.Rows PyProof.Rows.LCg PyProof.Rows.LCt
set_option maxRecDepth 100000
namespace Mine
def SrcV (prog : Program) (w : World) (A : Around) (h₀ : Heap) (L : Addr) (m : Str → Option Value) (env : Env) (ct elt : Expr) (x : Str) (scope : Scope) (cl : List (Str × Addr)) (Q : Value → Shared → Prop) (xv : Value) (s₁ : Shared) : Prop :=
  ∃ v d o kvs news, xv = .ref v ∧ A.handled = none ∧ Fr h₀ L s₁.heap m ∧ News h₀ L s₁.heap news ∧ s₁.heap.IsValuesView v d ∧ Obj.IsDictOf (PySem.intKind prog w) o kvs ∧ (h₀.get? d = some o ∨ (d, o) ∈ news) ∧ kvs.length ≤ sizeLine ∧
    ∀ s₂ : Shared, (∃ h, s₂ = { s₁ with heap := h }) → CompRestT prog w A h₀ L m env ct elt x scope cl s₂ (fun nw => h₀.get? d = some o ∨ (d, o) ∈ nw) (fun i v => ∃ k, kvs[i]? = some (k, v)) (FinE h₀ L m s₂ Q) kvs.length 0 [] news
section
variable {prog : Program} {w : World} {A : Around} {E : Value → Shared → Prop} {s : Shared} {h₀ : Heap} {L : Addr} {m : Str → Option Value} {env : Env}
theorem ListComp_V {ct elt iter : Expr} {x : Str} {px : Pos} {scope : Scope} {cl : List (Str × Addr)} {pos : Pos} {Q : Value → Shared → Prop} (F₀ : Fr h₀ L s.heap m)
    (hclos : closureFor scope env = pure cl) (hcell : ∀ y ∈ scope.names, y.2 ≠ .cell) (hkind : scope.kind = .function)
    (hnames : ∀ y ∈ scope.names, y.2 = .local → scope.names.lookup y.1 = some .local) (hx : scope.names.lookup x = some .local)
    (h : wpAny (model prog w) A (eval iter env) (SrcV prog w A h₀ L m env ct elt x scope cl Q) E s)
    (hs : ∀ x, foldedSetIterable iter env x = pure x := by intro _; rfl) :
    wpAny (model prog w) A (eval (.ListComp elt [⟨.Name x px, iter, [ct], 0⟩] scope pos) env) Q E s := by
  rw [eval_ListComp]
  refine wpAny_comprehension_free (use := none) rfl hs hclos hkind hnames (wpAny_mono h (fun xv s₁ h₁ => ?_) fun _ _ e => e)
  obtain ⟨v, d, o, kvs, news, rfl, hh, F, N, hv, ho, S, hsz, R⟩ := h₁
  have eo : s₁.heap.get? d = some o := S.elim (fun e => F.keep _ _ e) fun e => (N _ e).1
  have hD : s₁.heap.DictOf (PySem.intKind prog w) d kvs := Heap.dictOf_iff.mpr ⟨o, eo, ho⟩
  obtain ⟨ep, hat⟩ := hD.dictAt
  have hlt : d < s₁.heap.objs.size := Heap.lt_size eo
  refine wpAny_pyIter_values hv hat ?_
  refine block_T (S := fun nw => h₀.get? d = some o ∨ (d, o) ∈ nw) (Walks.dictValues hh s₁.heap.objs.size d (Nat.ne_of_lt hlt) kvs ep) hsz (fun i h st => by obtain ⟨o, e, _⟩ := st.1; exact ⟨o, e⟩) ?_ hcell hkind hx ⟨⟨_, Heap.get?_push_size _ rfl, rfl, rfl⟩, hat.at' fun o e => Heap.get?_push_of_some _ e⟩ (fun b hb => ?_)
    (F.keeps fun b o e => Heap.get?_push_of_some _ e) (N.grown fun b o e => Heap.get?_push_of_some _ e) (Nat.ne_of_lt F.ns.lt) (next_is_new F) (fun p hp => Nat.ne_of_lt (Heap.lt_size (N p hp).1)) S (R _ ⟨_, rfl⟩) ?_
  · intro i h h' oI nw st e e' k N' S'
    have eo' : h'.get? d = some o := S'.elim (fun e => k _ _ e) fun e => (N' _ e).1
    refine ⟨st.1.at fun o2 e2 => by rw [e] at e2; cases e2; exact e', ?_⟩
    obtain ⟨o3, es, e3, r⟩ := hat
    have e4 : o3 = o := by rw [eo] at e3; exact (Option.some.inj e3).symm
    exact ⟨o3, es, e4 ▸ eo', r⟩
  · show b < (s₁.heap.push _).objs.size
    rw [Heap.size_push]
    rcases List.mem_cons.mp hb with rfl | hb
    · exact Nat.lt_succ_self _
    · rw [List.mem_singleton.mp hb]; exact Nat.lt_succ_of_lt hlt
  · intro D C h tk m' ys news' F' N' o1 hn hC₀ hD₀ hCL hDL hCD offC fin
    refine ⟨m', hn, fun h'' hs'' => fin D h'' tk (F'.change hs'' hCL hC₀) (fun p hp => ?_) o1⟩
    refine ⟨hs''.extBut _ _ ?_ (N' p hp).1, (N' p hp).2⟩
    rcases List.mem_cons.mp hp with rfl | hp
    · exact Ne.symm hCD
    · exact offC p hp
end
end Mine
end
-- Octets
section
open PySem PySem.W PySem.Calls PyProof.Rows
set_option maxRecDepth 100000
namespace Mine
def octs (ps : List Pk) : Int := ((ps.filter (·.ping)).map (·.sz)).sum
local macro_rules | `(tactic| walk_at "eval ListComp") => `(tactic| (k_dflt (refine ListComp_V (F₀ := by k_asm) (by with_unfolding_all rfl) (by decide) (by rfl) (by decide) (by rfl) ?_)))
local macro_rules | `(tactic| walk_at "getAttr ref") => `(tactic| (k_dflt (refine' get_own ?k1 ?k2 ?k3 ?k4 ?k5 ?k6 ?k7 ?k8 ?k9 ?_; (case k1 => k_asm); (case k2 => k_asm); (case k3 => exact ⟨Fr.keep (by k_asm) _ _ (by assumption), rfl, rfl, Fr.keep (by k_asm) _ _ (by assumption)⟩); (case k4 => k_is); (case k5 => k_is); (case k6 => k_is); (case k7 => k_is); (case k8 => k_get); (case k9 => k_handed); k_whole)))
set_option maxHeartbeats 4000000 in
theorem octets_spec {w : World} {mean mg mb} {b : Heap} (G : Gd w mean mg mb b) {s : Shared} (kb : Kp [] b s.heap) {dp un fr gd} (hd : dp + 20 < 1000) {x dx sd : Addr} {nn : Int} {la : Option Int} {ps : List Pk} {Q E}
  (S : Sp w b s.heap x dx sd nn la ps) (hlen2 : ps.length < 64)
  (ret : ∀ h' tk' t, Kp [] s.heap h' → Q (.int (octs ps) t) {s with heap := h', toks := tk'}) :
  wpAny (model Challenge.rw_sa0568_01.row.prog w) (Ar dp un fr gd) (call (.ref 218) [.ref x]) Q E s := by
  have KX := G.K
  revert KX; k_fill; intro KX
  obtain ⟨t, i0, lav, le, r, edx, hla⟩ := S.edx
  obtain ⟨od, eod, hod⟩ := Heap.dictOf_iff.mp S.esd
  refine wpAny_call ?_
  k_dflt (refine' enter (b := b) (tl := [(x, instObj 235 dx), (dx, spD w t (.int nn i0) (.ref sd) lav le r), (sd, od)]) G kb ?kN ?k6 ?kb ?ks ?k7 ?k8 ?k9 ?kB ?_ ?c2 ?c3 ?c4 ?c5; (case k6 => k_is); (case kb => (conv => lhs; whnf)); (case ks => (conv => lhs; whnf)); (case k7 => k_is); (case k8 => (first | exact room (a := 0) (by assumption) (by decide) | (simp only [recursionLimit]; omega))); (case k9 => exact BindsTo.of_eq rfl); (case c5 => decide); (case kB => exact locs rfl); (case c2 => exact rfl); (case c3 => exact rfl); (case c4 => exact rfl))
  case kN => exact fa3 ⟨S.ex, S.bx⟩ ⟨edx, S.bdx⟩ ⟨eod, S.bsd⟩
  intro g L' h₁ tk F N G' kg hL kbg
  have KX' := G'.K
  have T' := G'.T
  clear KX
  have hlt := ltN S.lt
  have hn1 := neN S.n1
  have hn2 := neN S.n2
  have hsys := S.sys
  have kg0 : Kp [x, dx, sd] s.heap g := kg
  have pkg : ∀ p ∈ ps, PkIn w g p := fun p hp => let ⟨a, n1, n2⟩ := S.pks p hp; a.kp kg0 n1 n2
  (try dsimp only); (try k_fold)
  k_steps
  rename Fr _ _ _ _ => F1
  rename News _ _ _ _ => N1
  obtain ⟨V, eV⟩ : ∃ z, z = adr0 N1 := ⟨_, rfl⟩
  dsimp only [adr0] at eV
  subst eV
  have hVs : @Ne Nat V x ∧ @Ne Nat V dx ∧ @Ne Nat V sd := by
    rename _ ∧ _ => lV
    exact ⟨by omega, by omega, by omega⟩
  refine ⟨V, sd, od, kvsOf ps, _, rfl, rfl, F1, N1, ⟨_, (N1 (V, _) (by k_mem)).1, rfl, rfl⟩, hod, .inr (by k_mem), by simp only [kvsOf, List.length_map, sizeLine_eq]; omega, ?_⟩
  rintro s₂ ⟨h9, rfl⟩
  refine compT_ind (fun i ys news => IntsAre ys (((ps.take i).filter (·.ping)).map (·.sz)) ∧ news = [(V, _), (x, _), (dx, _), (sd, od)]) _ ?step ?fin _ 0 [] _ (Nat.zero_add _) ⟨by simpa using IntsAre.nil, rfl⟩
  case step =>
    rintro i ys news hi' ⟨hys, rfl⟩ v I oI C oC D m₂ hh tk2 E' ⟨k, hv⟩ hC hx F2 N2 off ne
    have hip : i < ps.length := by simpa [kvsOf] using hi'
    have ev : v = .ref (ps[i]).a := by
      simp only [kvsOf, List.getElem?_map, List.getElem?_eq_getElem hip, Option.map_some, Option.some.injEq, Prod.mk.injEq] at hv
      exact hv.2.symm
    subst ev
    have offK := off
    simp only [LCg.Off3, and_true] at off
    obtain ⟨ga, tp, p1, p2, p3, gd'⟩ := pkg ps[i] (List.getElem_mem hip)
    have hst := take_filter_succ (·.ping) ps i hip
    generalize hpi : ps[i] = pk at *
    clear F1 N1
    (try dsimp only); (try k_fold)
    k_steps
    · rename _ = true => hpp
      rename Fr _ _ _ _ => F4
      rename News _ _ _ _ => N4
      refine LCg.CompEnd.intro F4 N4 [(V, _), (x, _), (dx, _), (sd, od)] (by lcg_sub) offK (.inr (by k_mem)) ⟨?_, rfl⟩
      rw [hst, if_pos hpp, List.map_append]
      exact hys.append (.cons _ _ .nil)
    · rename _ = false => hpp
      rename Fr _ _ _ _ => F4
      rename News _ _ _ _ => N4
      refine LCg.CompEnd.intro F4 N4 [(V, _), (x, _), (dx, _), (sd, od)] (by lcg_sub) offK (.inr (by k_mem)) ⟨?_, rfl⟩
      rw [hst, if_neg (by rw [hpp]; exact Bool.false_ne_true), List.append_nil]
      exact hys
  case fin =>
    rintro ys news ⟨hys, rfl⟩ D hh tk2 F2 N2 off
    rw [List.take_of_length_le (by simp [kvsOf])] at hys
    clear F1 N1
    (try dsimp only)
    k_steps
    rename Fr _ _ _ _ => F4
    rename News _ _ _ _ => N4
    exact ret _ _ _ (((kg0.fr F4).drop S.ex (N4 (x, _) (by k_mem)).1).drop edx (N4 (dx, _) (by k_mem)).1 |>.drop eod (N4 (sd, _) (by k_mem)).1)
end Mine
end
-- Flight
section
open PySem PySem.W PySem.Calls PyProof.Rows
set_option maxRecDepth 100000
namespace Mine
local macro_rules
  | `(tactic| walk_at "eval ListComp") => `(tactic| (k_dflt (refine LCt.ListComp_T (F₀ := by k_asm) (by with_unfolding_all rfl) (by decide) (by rfl) (by decide) (by rfl) ?_)))
  | `(tactic| walk_at "CompSrcT") => `(tactic| (k_dflt (refine LCt.CompSrcT.base (by rfl) (by k_asm) (by k_asm) (by assumption) ?_ ?_)))
  | `(tactic| walk_at "subscriptTail") => `(tactic| (k_dflt (refine' item_tupleT ?t ?a ?b ?c ?d ?_; (case t => exact ⟨_, Fr.keep (by k_asm) _ _ (by assumption), rfl, _, rfl⟩); (case a => decide); (case b => decide); (case c => rfl); (case d => rfl); k_whole)))
set_option maxHeartbeats 4000000 in
theorem flight_spec {w : World} {mean mg mb} {b : Heap} (G : Gd w mean mg mb b) {s : Shared} (kb : Kp [] b s.heap) {dp un fr gd} (hd : dp + 20 < 1000) {D nl : Addr} {ps : List Pk} {vs : List Value} {Q E}
  (R : RowsIn w s.heap D ps) (hl : s.heap.IsList nl vs.toArray) (hi : IntsAre vs (ps.map (·.num))) (hlen2 : ps.length < 64) (hs : (ps.map (·.num)).Pairwise (· < ·))
  (ret : ∀ h' tk' t, Kp [] s.heap h' → Q (.int (octs ps) t) {s with heap := h', toks := tk'}) :
  wpAny (model Challenge.rw_sa0568_01.row.prog w) (Ar dp un fr gd) (call (.ref 40) [.ref D, .ref nl]) Q E s := by
  have KX := G.K
  revert KX; k_fill; intro KX
  obtain ⟨rs, hrs, hrm, hrow⟩ := R.ex
  refine wpAny_call ?_
  k_dflt (refine' enterC (b := b) (tl := []) G kb ?kN ?k6 ?kb ?ks ?k7 ?k8 ?k9 ?kB ?kD ?_ ?c2 ?c3 ?c4; (case k6 => k_is); (case kb => (conv => lhs; whnf)); (case ks => (conv => lhs; whnf)); (case k7 => k_is); (case k8 => (first | exact room (a := 0) (by assumption) (by decide) | (simp only [recursionLimit]; omega))); (case k9 => exact BindsTo.of_eq rfl); (case kB => exact rfl); (case kD => decide +kernel); (case c2 => exact rfl); (case c3 => exact rfl); (case c4 => exact rfl))
  case kN => exact fa0
  intro g L' h₁ tk cells F N Y G' kg hL kbg
  have KX' := G'.K
  have T' := G'.T
  clear KX
  k_cells Y
  have kg0 : Kp [] s.heap g := kg
  have hl' : g.IsList nl vs.toArray := hl.at fun o e => kg0.all _ _ e
  try simp only [List.cons_append, List.nil_append] at N
  (try dsimp only); (try k_fold)
  k_steps
  case refine_1 => simp only [List.size_toArray, hi.length, List.length_map, sizeLine_eq]; omega
  all_goals (
  refine compT_ind (fun i ys news => news = [(L' + 1, _)] ∧ IntsAre ys (((ps.take i).filter (·.ping)).map (·.sz))) _ ?step ?fin _ 0 [] _ (Nat.zero_add _) ⟨rfl, by simpa using IntsAre.nil⟩
  case step =>
    rintro i ys news hi' ⟨rfl, hys⟩ v I oI C oC D' m₂ hh tk2 E' hv hC hx F2 N2 off ne
    obtain ⟨hlt, t9, rfl⟩ := ints_at hi (show vs[i]? = some v by simpa using hv)
    have hip : i < ps.length := by simpa using hlt
    simp only [LCg.Off3, and_true] at off
    obtain ⟨ra, rt, hr1, hr2⟩ := hrow i hip
    replace hr2 := kg0.all _ _ hr2
    have hst := take_filter_succ (·.ping) ps i hip
    simp only [List.getElem_map] at *
    have hsub : valueAt rs (ps[i]).num = some (.ref ra) := valueAt_at (by rw [hrm]; exact hs.imp fun h => Int.ne_of_lt h) hr1
    generalize hpi : ps[i] = pk at *
    have hrg : g.DictOf (ik w) D rs := dictKp hrs fun o e => kg0.all _ _ e
    (try dsimp only); (try k_fold)
    k_steps
    refine subDict (kvs := rs) (dictKp hrg fun o e => F2.keep _ _ e) hsub ?_
    k_steps
    · refine subDict (kvs := rs) (dictKp hrg fun o e => F2.keep _ _ e) hsub ?_
      rename _ = true => hpp
      k_steps
      rw [hst, if_pos hpp, List.map_append]
      exact hys.append (.cons _ _ .nil)
    · rename _ = false => hpp
      rw [hst, if_neg (by rw [hpp]; exact Bool.false_ne_true), List.append_nil]
      exact hys
  case fin =>
    rintro ys news ⟨rfl, hys⟩ D' hh tk2 F2 N2 off
    rw [List.take_of_length_le (by simp [hi.length])] at hys
    (try dsimp only)
    k_steps
    rename Fr _ _ _ _ => F4
    exact ret _ _ _ (kg0.fr F4))
end Mine
end
-- Pl
section
open PySem PySem.W PySem.Calls PyProof.Rows
set_option maxRecDepth 100000
namespace Mine
structure Box (P : Prop) : Prop where
  out : P
/-- a Space and its packets on the ledger -/
structure Pl (w : World) (x dx sd : Addr) (la : Option Int) (lav : Value) (od : Obj) (ps : List Pk) (TP : List (Addr × Obj)) : Prop where
  sys : (sd == sysModules) = false
  lt : dx < x
  n1 : x ≠ sd
  n2 : dx ≠ sd
  ol : OptIs lav la
  od : od.IsDictOf (ik w) (kvsOf ps)
  tp : ∀ p ∈ ps, (p.a, instObj 92 p.d) ∈ TP ∧ ∃ t t1 t2 t3, (p.d, pkD w t (.int p.num t1) (.int p.at_ t2) (.int p.sz t3) (.ref p.f) (.bool p.ping) (.bool p.ping)) ∈ TP
  off : ∀ q ∈ TP, q.1 ∉ [x, dx, sd]
theorem Pl.sp {w : World} {b g h : Heap} {L x dx sd : Addr} {la : Option Int} {lav : Value} {od : Obj} {ps : List Pk} {TP news : List (Addr × Obj)} {t : Nat → Nat} {nn : Int} {i0 : Tok} {le : Value} {r : Nat → Value}
    (P : Pl w x dx sd la lav od ps TP) (kbg : Kp [] b g) (N : News g L h news) (hs : ∀ q ∈ (x, instObj 235 dx) :: (dx, spD w t (.int nn i0) (.ref sd) lav le r) :: (sd, od) :: TP, q ∈ news) : Sp w b h x dx sd nn la ps :=
  have e1 := N _ (hs _ (.head _))
  have e2 := N _ (hs _ (.tail _ (.head _)))
  have e3 := N _ (hs _ (.tail _ (.tail _ (.head _))))
  ⟨e1.1, ⟨t, i0, lav, le, r, e2.1, P.ol⟩, dictOf_of e3.1 P.od, P.sys, P.lt, P.n1, P.n2, kpFresh kbg e1.2.2, kpFresh kbg e2.2.2, kpFresh kbg e3.2.2, fun p hp => by
    obtain ⟨a, t', t1, t2, t3, c⟩ := P.tp p hp
    have y1 := N _ (hs _ (.tail _ (.tail _ (.tail _ a))))
    have y2 := N _ (hs _ (.tail _ (.tail _ (.tail _ c))))
    exact ⟨⟨y1.1, t', t1, t2, t3, y2.1⟩, P.off _ a, P.off _ c⟩⟩
theorem pkList {w : World} {h : Heap} {x dx sd : Addr} : ∀ (ps : List Pk), (∀ p ∈ ps, PkIn w h p ∧ p.a ∉ [x, dx, sd] ∧ p.d ∉ [x, dx, sd]) →
    ∃ TP : List (Addr × Obj), (∀ p ∈ ps, (p.a, instObj 92 p.d) ∈ TP ∧ ∃ t t1 t2 t3, (p.d, pkD w t (.int p.num t1) (.int p.at_ t2) (.int p.sz t3) (.ref p.f) (.bool p.ping) (.bool p.ping)) ∈ TP) ∧ (∀ q ∈ TP, h.get? q.1 = some q.2 ∧ q.1 ∉ [x, dx, sd] ∧ ∃ p ∈ ps, q.1 = p.a ∨ q.1 = p.d)
  | [], _ => ⟨[], by simp, by simp⟩
  | p :: ps, hh => by
    obtain ⟨TP, h1, h2⟩ := pkList ps fun q hq => hh q (.tail _ hq)
    obtain ⟨⟨e, t, t1, t2, t3, e'⟩, n1, n2⟩ := hh p (.head _)
    refine ⟨(p.a, instObj 92 p.d) :: (p.d, pkD w t (.int p.num t1) (.int p.at_ t2) (.int p.sz t3) (.ref p.f) (.bool p.ping) (.bool p.ping)) :: TP, fun q hq => ?_, fun q hq => ?_⟩
    · rcases List.mem_cons.mp hq with rfl | hq
      · exact ⟨.head _, t, t1, t2, t3, .tail _ (.head _)⟩
      · obtain ⟨a, t', t1', t2', t3', c⟩ := h1 q hq
        exact ⟨.tail _ (.tail _ a), t', t1', t2', t3', .tail _ (.tail _ c)⟩
    · rcases List.mem_cons.mp hq with rfl | hq
      · exact ⟨e, n1, p, .head _, .inl rfl⟩
      · rcases List.mem_cons.mp hq with rfl | hq
        · exact ⟨e', n2, p, .head _, .inr rfl⟩
        · obtain ⟨a, c, p', hp', d⟩ := h2 q hq
          exact ⟨a, c, p', .tail _ hp', d⟩
theorem Pl.next {w : World} {b g h h' : Heap} {L x dx sd : Addr} {m : Str → Option Value} {la la' : Option Int} {lav : Value} {od : Obj} {ps ps' : List Pk} {TP X news : List (Addr × Obj)} {t : Nat → Nat} {nn nn' : Int} {i0 : Tok} {le : Value} {r : Nat → Value}
    (P : Pl w x dx sd la lav od ps TP) (F : Fr g L h m) (N : News g L h news) (hs : ∀ q ∈ (x, instObj 235 dx) :: (dx, spD w t (.int nn i0) (.ref sd) lav le r) :: (sd, od) :: TP, q ∈ news)
    (hX : ∀ q ∈ X, q ∈ news) (oX : ∀ q ∈ X, q.1 ∉ [x, dx, sd]) (k : Kp [x, dx, sd] h h') (S' : Sp w b h' x dx sd nn' la' ps') (hn : ∀ p ∈ ps', p ∈ ps ∨ (h.get? p.a = none ∧ h.get? p.d = none)) {CC : Prop} (kk : ∀ t' i0' lav' le' r' od' TP', (Pl w x dx sd la' lav' od' ps' TP') → (Fr g L h' m) → (News g L h' (X ++ (x, instObj 235 dx) :: (dx, spD w t' (.int nn' i0') (.ref sd) lav' le' r') :: (sd, od') :: TP')) → (∀ q ∈ TP', (q ∈ TP ∨ ∃ p ∈ ps, q.1 = p.a ∨ q.1 = p.d) ∨ h.get? q.1 = none) → (∀ q ∈ TP, q ∈ TP') → CC) : CC := by
  obtain ⟨t', i0', lav', le', r', edx, hla⟩ := S'.edx
  obtain ⟨od', eod, hod⟩ := Heap.dictOf_iff.mp S'.esd
  obtain ⟨TP', h1, h2⟩ := pkList ps' S'.pks
  have e1 := N _ (hs _ (.head _))
  have e2 := N _ (hs _ (.tail _ (.head _)))
  have e3 := N _ (hs _ (.tail _ (.tail _ (.head _))))
  have old : ∀ q ∈ TP', (∃ p ∈ ps, q.1 = p.a ∨ q.1 = p.d) ∨ h.get? q.1 = none := fun q hq => by
    obtain ⟨_, _, p, hp, hpq⟩ := h2 q hq
    rcases hn p hp with q1 | ⟨q1, q2⟩
    · exact .inl ⟨p, q1, hpq⟩
    · rcases hpq with z | z <;> rw [z] <;> right <;> assumption
  refine kk t' i0' lav' le' r' od' (TP' ++ TP) ⟨S'.sys, S'.lt, S'.n1, S'.n2, hla, hod, fun p hp => by
      obtain ⟨a, t, t1, t2, t3, c⟩ := h1 p hp
      exact ⟨List.mem_append_left _ a, t, t1, t2, t3, List.mem_append_left _ c⟩, fun q hq => by
      rcases List.mem_append.mp hq with hq | hq
      · exact (h2 q hq).2.1
      · exact P.off q hq⟩ (frBack F k ?_ (fa3 e1.2.2 e2.2.2 e3.2.2)) ?_ (fun q hq => by
      rcases List.mem_append.mp hq with hq | hq
      · exact (old q hq).imp .inr id
      · exact .inl (.inl hq)) (fun q hq => List.mem_append_right _ hq)
  · intro q
    simp only [List.mem_cons, List.not_mem_nil, or_false] at q
    rcases q with q | q | q
    · exact e1.2.1 q.symm
    · exact e2.2.1 q.symm
    · exact e3.2.1 q.symm
  · intro q hq
    rcases List.mem_append.mp hq with hq | hq
    · exact ⟨k _ _ (oX q hq) (N q (hX q hq)).1, (N q (hX q hq)).2⟩
    · rcases List.mem_cons.mp hq with rfl | hq
      · exact ⟨S'.ex, e1.2⟩
      · rcases List.mem_cons.mp hq with rfl | hq
        · exact ⟨edx, e2.2⟩
        · rcases List.mem_cons.mp hq with rfl | hq
          · exact ⟨eod, e3.2⟩
          rcases List.mem_append.mp hq with hq | hq
          rotate_left
          · exact ⟨k _ _ (P.off q hq) (N q (hs _ (.tail _ (.tail _ (.tail _ hq))))).1, (N q (hs _ (.tail _ (.tail _ (.tail _ hq))))).2⟩
          · refine ⟨(h2 q hq).1, ?_⟩
            rcases old q hq with ⟨p, hp, hpq⟩ | z
            · obtain ⟨a, t', t1, t2, t3, c⟩ := P.tp p hp
              rcases hpq with z | z
              · exact z ▸ (N _ (hs _ (.tail _ (.tail _ (.tail _ a))))).2
              · exact z ▸ (N _ (hs _ (.tail _ (.tail _ (.tail _ c))))).2
            · exact frNew F z
theorem Pl.old {w : World} {h : Heap} {x dx sd c : Addr} {la : Option Int} {lav : Value} {od o : Obj} {ps : List Pk} {TP TP' : List (Addr × Obj)} (P : Pl w x dx sd la lav od ps TP)
    (ol : ∀ q ∈ TP', (q ∈ TP ∨ ∃ p ∈ ps, q.1 = p.a ∨ q.1 = p.d) ∨ h.get? q.1 = none) (hc : ∀ q ∈ TP, q.1 ≠ c) (e : h.get? c = some o) : ∀ q ∈ TP', q.1 ≠ c := fun q hq => by
  rcases ol q hq with (z | ⟨p, hp, z⟩) | z
  · exact hc q z
  · obtain ⟨y1, _, _, _, _, y2⟩ := P.tp p hp
    rcases z with z | z
    · rw [z]; exact hc _ y1
    · rw [z]; exact hc _ y2
  · exact Ne.symm (neOf e z)
theorem Sp.upd {w : World} {b h h' : Heap} {x dx sd : Addr} {nn nn' : Int} {la la' : Option Int} {ps : List Pk} (S : Sp w b h x dx sd nn la ps) (k : Kp [dx] h h')
    (edx' : ∃ t i0 lav le r, h'.get? dx = some (spD w t (.int nn' i0) (.ref sd) lav le r) ∧ OptIs lav la') : Sp w b h' x dx sd nn' la' ps :=
  ⟨k _ _ (by simpa using Ne.symm (Nat.ne_of_lt S.lt)) S.ex, edx', dictKp S.esd fun o e => k _ _ (by simpa using Ne.symm S.n2) e, S.sys, S.lt, S.n1, S.n2, S.bx, S.bdx, S.bsd, fun q hq => by
    obtain ⟨a, n1, n2⟩ := S.pks q hq
    refine ⟨a.kp k ?_ ?_, n1, n2⟩
    · simp only [List.mem_cons, List.not_mem_nil, or_false, not_or] at n1 ⊢; exact n1.2.1
    · simp only [List.mem_cons, List.not_mem_nil, or_false, not_or] at n2 ⊢; exact n2.2.1⟩
theorem off1mem {D : Addr} : ∀ {l : List (Addr × Obj)}, LCg.Off1 D l → ∀ p ∈ l, p.1 ≠ D
  | [], _, _, h => nomatch h
  | _ :: _, x, p, h => by
    rcases List.mem_cons.mp h with rfl | h
    · exact x.1
    · exact off1mem x.2 p h
/-- a cell, a list, a tuple are no part of a Space -/
theorem Sp.offC {w : World} {b h : Heap} {x dx sd a : Addr} {nn : Int} {la : Option Int} {ps : List Pk} {o : Obj} {v : Option Value} (S : Sp w b h x dx sd nn la ps) (e : h.get? a = some o) (hd : o.data = .cell v) : a ∉ [x, dx, sd] := fun q => by
  obtain ⟨t, i0, lav, le, r, edx, _⟩ := S.edx
  obtain ⟨od, eod, es, ep, hx, hy⟩ := Heap.dictOf_iff.mp S.esd
  simp only [List.mem_cons, List.not_mem_nil, or_false] at q
  rcases q with rfl | rfl | rfl
  · rw [S.ex] at e; cases e; cases hd
  · rw [edx] at e; cases e; cases hd
  · rw [eod] at e; cases e
    simp_all
end Mine
end
-- PureA
section
open PySem PySem.W PySem.Calls PyProof.Rows
set_option maxRecDepth 100000
namespace Mine
/-- a row: when, how large, whether it counts in flight -/
structure Rw where
  a : Addr
  at_ : Int
  t1 : Tok
  sz : Int
  t2 : Tok
  f : Addr
  ping : Bool
structure RowsOk (b h : Heap) (rl : Addr) (rows : List Rw) : Prop where
  l : ∃ e, h.get? rl = some (W.listOf (rows.map fun r => Value.ref r.a).toArray e)
  t : ∀ r ∈ rows, h.get? r.a = some (tupOf #[.int r.at_ r.t1, .int r.sz r.t2, .ref r.f])
  f : ∀ r ∈ rows, FrIs b h r.f r.ping
structure Pt where
  a : Addr
  now : Int
  tn : Tok
  nl : Addr
  vs : List Value
  e : Nat
  ns : List Int
structure PartsOk (h : Heap) (pl : Addr) (parts : List Pt) : Prop where
  l : ∃ e, h.get? pl = some (W.listOf (parts.map fun r => Value.ref r.a).toArray e)
  t : ∀ r ∈ parts, h.get? r.a = some (tupOf #[.int r.now r.tn, .ref r.nl])
  n : ∀ r ∈ parts, h.get? r.nl = some (W.listOf r.vs.toArray r.e) ∧ IntsAre r.vs r.ns

structure Qd where
  num : Int
  at_ : Int
  sz : Int
  ping : Bool
def Pk.q (p : Pk) : Qd := ⟨p.num, p.at_, p.sz, p.ping⟩
def Rw.q (i : Nat) (r : Rw) : Qd := ⟨(i : Int), r.at_, r.sz, r.ping⟩
def rowsQ (rows : List Rw) : List Qd := rows.mapIdx Rw.q
theorem rowsQ_length (rows : List Rw) : (rowsQ rows).length = rows.length := by simp [rowsQ]
theorem rowsQ_num (rows : List Rw) : (rowsQ rows).map (·.num) = rangeKs 0 rows.length := by
  unfold rowsQ rangeKs
  apply List.ext_getElem
  · simp
  · intro i h1 h2
    simp [Rw.q]
theorem map_num {ps : List Pk} {qs : List Qd} (h : ps.map Pk.q = qs) : ps.map (·.num) = qs.map (·.num) := by
  rw [← h, List.map_map]; rfl
theorem rangeKs_lt : ∀ (n : Nat) (a : Int), (rangeKs a n).Pairwise (· < ·) := by
  intro n a
  unfold rangeKs
  rw [List.pairwise_map]
  exact (List.pairwise_lt_range (n := n)).imp fun h => by omega

def qLost (la : Option Int) (now dl : Int) (p : Qd) : Bool :=
  match la with
  | none => false
  | some g => decide (p.num ≤ g) && decide (g ≥ p.num + 3 ∨ p.at_ + dl ≤ now)
def qLater (la : Option Int) (now dl : Int) (acc : Option Int) (p : Qd) : Option Int :=
  match la with
  | none => acc
  | some g => if p.num ≤ g then (if g ≥ p.num + 3 ∨ p.at_ + dl ≤ now then acc else match acc with | none => some (p.at_ + dl) | some l => if p.at_ + dl < l then some (p.at_ + dl) else some l) else acc
structure St where
  qs : List Qd
  la : Option Int
  gone : List Int
  later : Option Int
/-- the greatest told -/
def big (la : Option Int) (ns : List Int) : Option Int :=
  match ns.getLast? with
  | none => la
  | some n => some (match la with | none => n | some g => if g < n then n else g)
def afterQ (qs : List Qd) (ns : List Int) : List Qd := qs.filter fun p => decide (p.num ∉ ns)
def lostQ (dl : Int) (qs : List Qd) (la : Option Int) (now : Int) : List Int := (qs.filter (qLost la now dl)).map (·.num)
def stepQ (dl : Int) (st : St) (now : Int) (ns : List Int) : St :=
  ⟨afterQ (afterQ st.qs ns) (lostQ dl (afterQ st.qs ns) (big st.la ns) now), big st.la ns, st.gone ++ lostQ dl (afterQ st.qs ns) (big st.la ns) now, (afterQ st.qs ns).foldl (qLater (big st.la ns) now dl) none⟩
def runQ (dl : Int) (rows : List Qd) (parts : List (Int × List Int)) : St := parts.foldl (fun st p => stepQ dl st p.1 p.2) ⟨rows, none, [], none⟩
theorem runQ_succ (dl : Int) (rows : List Qd) (parts : List (Int × List Int)) (i : Nat) (h : i < parts.length) : runQ dl rows (parts.take (i + 1)) = stepQ dl (runQ dl rows (parts.take i)) (parts[i]).1 (parts[i]).2 := by
  unfold runQ
  rw [List.take_succ_eq_append_getElem h, List.foldl_append]; rfl
def StOk (rows : List Qd) (st : St) : Prop := st.qs.Sublist rows ∧ ∀ p ∈ st.qs, st.la ≠ some p.num
theorem big_mem {la : Option Int} {ns : List Int} : big la ns = la ∨ ∃ n ∈ ns, big la ns = some n := by
  unfold big
  cases e : ns.getLast? with
  | none => exact .inl rfl
  | some n =>
    have hn : n ∈ ns := List.mem_of_getLast? e
    cases la with
    | none => exact .inr ⟨n, hn, rfl⟩
    | some g =>
      by_cases h : g < n
      · right; exact ⟨n, hn, by simp [h]⟩
      · left; simp [h]
theorem StOk.after {rows : List Qd} {st : St} (h : StOk rows st) (ns : List Int) : ∀ p ∈ afterQ st.qs ns, big st.la ns ≠ some p.num := by
  intro p hp e
  obtain ⟨hp1, hp2⟩ := List.mem_filter.mp hp
  rcases big_mem (la := st.la) (ns := ns) with q | ⟨n, hn, q⟩
  · exact h.2 p hp1 (q ▸ e)
  · rw [q] at e; cases e; simp at hp2; exact hp2 hn
theorem StOk.step {rows : List Qd} {st : St} (h : StOk rows st) (dl now : Int) (ns : List Int) : StOk rows (stepQ dl st now ns) :=
  ⟨(List.filter_sublist.trans List.filter_sublist).trans h.1, fun p hp => h.after ns p (List.mem_filter.mp hp).1⟩
theorem runQ_ok (dl : Int) (rows : List Qd) (parts : List (Int × List Int)) : StOk rows (runQ dl rows parts) := by
  have : ∀ (l : List (Int × List Int)) (st : St), StOk rows st → StOk rows (l.foldl (fun st p => stepQ dl st p.1 p.2) st) := by
    intro l
    induction l with
    | nil => intro st h; exact h
    | cons p r ih => intro st h; exact ih _ (h.step dl p.1 p.2)
  exact this _ _ ⟨List.Sublist.refl _, fun p _ e => by cases e⟩
theorem pkLost_q (la : Option Int) (now dl : Int) (p : Pk) : pkLost la now dl p = qLost la now dl p.q := by cases la <;> rfl
theorem laterStep_q (la : Option Int) (now dl : Int) (acc : Option Int) (p : Pk) : laterStep la now dl acc p = qLater la now dl acc p.q := by cases la <;> rfl
theorem lostPs {ps : List Pk} {qs : List Qd} (h : ps.map Pk.q = qs) (la : Option Int) (now dl : Int) : (ps.filter (pkLost la now dl)).map (·.num) = lostQ dl qs la now := by
  subst h
  unfold lostQ
  rw [List.filter_map, List.map_map]
  have e : pkLost la now dl = qLost la now dl ∘ Pk.q := funext fun p => pkLost_q la now dl p
  rw [e]; rfl
theorem laterPs {ps : List Pk} {qs : List Qd} (h : ps.map Pk.q = qs) (la : Option Int) (now dl : Int) (acc : Option Int) : ps.foldl (laterStep la now dl) acc = qs.foldl (qLater la now dl) acc := by
  subst h
  rw [List.foldl_map]
  have e : laterStep la now dl = fun a p => qLater la now dl a (Pk.q p) := funext fun a => funext fun p => laterStep_q la now dl a p
  rw [e]
theorem afterPs {ps : List Pk} {qs : List Qd} (h : ps.map Pk.q = qs) (ns : List Int) : (ps.filter fun p => decide (p.num ∉ ns)).map Pk.q = afterQ qs ns := by
  subst h
  unfold afterQ
  rw [List.filter_map]
  rfl
/-- two ascending lists of the same numbers are one -/
theorem asc_eq : ∀ {a b : List Int}, a.Pairwise (· < ·) → b.Pairwise (· < ·) → (∀ x, x ∈ a ↔ x ∈ b) → a = b
  | [], [], _, _, _ => rfl
  | [], y :: r, _, _, h => absurd ((h y).mpr (.head _)) (by simp)
  | x :: r, [], _, _, h => absurd ((h x).mp (.head _)) (by simp)
  | x :: r, y :: t, ha, hb, h => by
    rw [List.pairwise_cons] at ha hb
    have e : x = y := by
      have h1 := (h x).mp (.head _)
      have h2 := (h y).mpr (.head _)
      rcases List.mem_cons.mp h1 with q | q
      · exact q
      · rcases List.mem_cons.mp h2 with q' | q'
        · exact q'.symm
        · have := hb.1 x q; have := ha.1 y q'; omega
    subst e
    congr 1
    refine asc_eq ha.2 hb.2 fun z => ⟨fun hz => ?_, fun hz => ?_⟩
    · rcases List.mem_cons.mp ((h z).mp (.tail _ hz)) with q | q
      · have := ha.1 z hz; omega
      · exact q
    · rcases List.mem_cons.mp ((h z).mpr (.tail _ hz)) with q | q
      · have := hb.1 z hz; omega
      · exact q
theorem last_getD {ns : List Int} (h : ns ≠ []) : ns.getLast? = some (ns.getD (ns.length - 1) 0) := by
  rw [List.getLast?_eq_getElem?, List.getD_eq_getElem?_getD]
  have : ns.length - 1 < ns.length := by have := List.length_pos_iff.mpr h; omega
  rw [List.getElem?_eq_getElem this]; rfl
theorem asc_last : ∀ {ns : List Int} {n : Int}, ns.Pairwise (· < ·) → ns.getLast? = some n → ∀ a ∈ ns, a ≤ n
  | [], _, _, h, _, _ => by simp at h
  | [x], n, _, h, a, ha => by simp at h ha; omega
  | x :: y :: r, n, hp, h, a, ha => by
    rw [List.pairwise_cons] at hp
    rw [List.getLast?_cons_cons] at h
    rcases List.mem_cons.mp ha with q | q
    · have h1 := asc_last hp.2 h y (.head _)
      have h2 := hp.1 y (.head _)
      omega
    · exact asc_last hp.2 h a q
theorem big_last {la : Option Int} {ns : List Int} (h : ns ≠ []) : big la ns = some (match la with | none => ns.getD (ns.length - 1) 0 | some g => if g < ns.getD (ns.length - 1) 0 then ns.getD (ns.length - 1) 0 else g) := by
  unfold big
  rw [last_getD h]
theorem big_max {la : Option Int} {ns : List Int} (h : ns ≠ []) (hp : ns.Pairwise (· < ·)) {M : Int} (hM : M ∈ ns ++ la.toList) (hall : ∀ a ∈ ns ++ la.toList, a ≤ M) : big la ns = some M := by
  have hl := last_getD h
  have hle := asc_last hp hl
  have hmem := List.mem_of_getLast? hl
  rw [big_last h]
  generalize ns.getD (ns.length - 1) 0 = n at *
  congr 1
  cases la with
  | none =>
    simp only [Option.toList_none, List.append_nil] at hM hall
    have := hle M hM; have := hall n hmem; show n = M; omega
  | some g =>
    simp only [Option.toList_some, List.mem_append, List.mem_singleton] at hM hall
    have h1 := hall n (.inl hmem)
    have h2 := hall g (.inr rfl)
    show (if g < n then n else g) = M
    rcases hM with q | q
    · have := hle M q
      split <;> omega
    · split <;> omega
theorem afterQ_num (qs : List Qd) (ns : List Int) : ((qs.map (·.num)).filter fun k => !(ns.any (· == k))) = (afterQ qs ns).map (·.num) := by
  unfold afterQ
  rw [List.filter_map]
  congr 1
  refine List.filter_congr fun p _ => ?_
  have : (ns.any fun x => x == p.num) = decide (p.num ∈ ns) := by
    rw [Bool.eq_iff_iff]; simp
  simp [this]
theorem rowsQ_mem {rows : List Rw} {p : Qd} (h : p ∈ rowsQ rows) : ∃ (j : Nat) (hj : j < rows.length), p.num = (j : Int) ∧ p.at_ = (rows[j]).at_ ∧ p.sz = (rows[j]).sz ∧ p.ping = (rows[j]).ping := by
  obtain ⟨j, hj, e⟩ := List.getElem_of_mem h
  have hj' : j < rows.length := by rw [rowsQ_length] at hj; exact hj
  have e' : Rw.q j rows[j] = p := by rw [← e]; simp [rowsQ]
  exact ⟨j, hj', by rw [← e']; rfl, by rw [← e']; rfl, by rw [← e']; rfl, by rw [← e']; rfl⟩
theorem itemRef {prog : Program} {w : World} {A : Around} {E : Value → Shared → Prop} {s : Shared} {value slice : PySem.Expr} {l : Addr} {its : Array Value} {k : Int} {u : Tok} {x : Value} {Q : Value → Shared → Prop} (hl : s.heap.IsList l its)
    (h0 : 0 ≤ k) (hfit : k < 2 ^ 63) (hx : its[k.toNat]? = some x) (h : Q x s)
    (hs : subscripted slice false (.ref l) (.int k u) = operate [.ref l, .int k u] (getItem (.ref l) (.int k u)) := by with_unfolding_all rfl) :
    wpAny (model prog w) A (subscriptTail value slice (.ref l) (.int k u)) Q E s :=
  tail_any hl.typeIs slot_list_getitem.lookup (wpAny_getItem_list hl h0 hfit (x := x) hx h) hs
theorem allLt_ne {d : Addr} : ∀ {l : List (Addr × Obj)}, AllLt d l → ∀ p ∈ l, p.1 ≠ d
  | [], _, _, h => nomatch h
  | _ :: _, x, p, h => by
    rcases List.mem_cons.mp h with rfl | h
    · exact Nat.ne_of_lt x.1
    · exact allLt_ne x.2 p h
theorem find_all : ∀ {ps : List Pk} (c : Int → Bool), (ps.map (·.num)).Nodup → (((ps.map (·.num)).filter c).filterMap fun k => ps.find? fun p => decide (p.num = k)) = ps.filter fun p => c p.num := by
  intro ps c hn
  have key : ∀ (l : List Pk), (∀ p ∈ l, p ∈ ps) → (((l.map (·.num)).filter c).filterMap fun k => ps.find? fun p => decide (p.num = k)) = l.filter fun p => c p.num := by
    intro l
    induction l with
    | nil => intro _; rfl
    | cons p r ih =>
      intro h
      have hp := h p (.head _)
      obtain ⟨i, hi, e⟩ := List.getElem_of_mem hp
      have hf := find_at hn hi
      rw [e] at hf
      simp only [List.map_cons, List.filter_cons]
      cases hc : c p.num with
      | true => simp only [if_true, List.filterMap_cons, hf]; rw [ih fun q hq => h q (.tail _ hq)]
      | false => simp only [Bool.false_eq_true, if_false]; exact ih fun q hq => h q (.tail _ hq)
  exact key ps fun p hp => hp
end Mine
end
-- PureB
section
open PySem PySem.W PySem.Calls PyProof.Rows
set_option maxRecDepth 100000
namespace Mine
/-- what holds of a run -/
structure RInv (dl T : Int) (rows : List Qd) (told : List Int) (st : St) : Prop where
  q : st.qs = rows.filter fun p => decide (p.num ∉ told) && decide (p.num ∉ st.gone)
  l0 : st.la = none → told = []
  l1 : ∀ g, st.la = some g → g ∈ told ∧ ∀ k ∈ told, k ≤ g
  g1 : ∀ k ∈ st.gone, ∃ p ∈ rows, p.num = k ∧ ∃ g ∈ told, p.num ≤ g ∧ (g ≥ p.num + 3 ∨ p.at_ + dl ≤ T)
  nd : st.gone.Nodup
theorem big_none {la : Option Int} {ns : List Int} (h : big la ns = none) : la = none ∧ ns = [] := by
  unfold big at h
  cases e : ns.getLast? with
  | none => rw [e] at h; exact ⟨h, List.getLast?_eq_none_iff.mp e⟩
  | some n => rw [e] at h; cases h
theorem big_some {la : Option Int} {ns told : List Int} {g : Int} (hs : ns.Pairwise (· < ·)) (l0 : la = none → told = []) (l1 : ∀ g, la = some g → g ∈ told ∧ ∀ k ∈ told, k ≤ g) (h : big la ns = some g) : g ∈ told ++ ns ∧ ∀ k ∈ told ++ ns, k ≤ g := by
  unfold big at h
  cases e : ns.getLast? with
  | none =>
    rw [e] at h
    have hn := List.getLast?_eq_none_iff.mp e
    subst hn
    simpa using l1 g h
  | some n =>
    rw [e] at h
    have hl := asc_last hs e
    have hm := List.mem_of_getLast? e
    cases la with
    | none =>
      have := l0 rfl
      subst this
      cases h
      simpa using ⟨hm, hl⟩
    | some g0 =>
      obtain ⟨h1, h2⟩ := l1 g0 rfl
      simp only [Option.some.injEq] at h
      by_cases hlt : g0 < n
      · rw [if_pos hlt] at h
        subst h
        refine ⟨List.mem_append_right _ hm, fun k hk => ?_⟩
        rcases List.mem_append.mp hk with hk | hk
        · have := h2 k hk; omega
        · exact hl k hk
      · rw [if_neg hlt] at h
        subst h
        refine ⟨List.mem_append_left _ h1, fun k hk => ?_⟩
        rcases List.mem_append.mp hk with hk | hk
        · exact h2 k hk
        · have := hl k hk; omega
theorem RInv.step {dl T now : Int} {rows : List Qd} {told ns : List Int} {st : St} (h : RInv dl T rows told st) (hnd : (rows.map (·.num)).Nodup) (hs : ns.Pairwise (· < ·)) (hT : now ≤ T) : RInv dl T rows (told ++ ns) (stepQ dl st now ns) := by
  have hq1 : afterQ st.qs ns = rows.filter fun p => decide (p.num ∉ told ++ ns) && decide (p.num ∉ st.gone) := by
    unfold afterQ
    rw [h.q, List.filter_filter]
    refine List.filter_congr fun p _ => ?_
    rw [Bool.eq_iff_iff]
    simp only [Bool.and_eq_true, decide_eq_true_eq, List.mem_append, not_or]
    constructor
    · rintro ⟨a, b, c⟩; exact ⟨⟨b, a⟩, c⟩
    · rintro ⟨⟨b, a⟩, c⟩; exact ⟨a, b, c⟩
  have hsub : (afterQ st.qs ns).Sublist rows := by rw [hq1]; exact List.filter_sublist
  have hbig0 : big st.la ns = none → told ++ ns = [] := fun e => by
    obtain ⟨a, c⟩ := big_none e
    rw [h.l0 a, c]; rfl
  have hbig1 : ∀ g, big st.la ns = some g → g ∈ told ++ ns ∧ ∀ k ∈ told ++ ns, k ≤ g := fun g e => big_some hs h.l0 h.l1 e
  refine ⟨?_, hbig0, hbig1, ?_, ?_⟩
  · show afterQ (afterQ st.qs ns) _ = rows.filter fun p => decide (p.num ∉ told ++ ns) && decide (p.num ∉ st.gone ++ lostQ dl (afterQ st.qs ns) (big st.la ns) now)
    generalize lostQ dl (afterQ st.qs ns) (big st.la ns) now = lost
    rw [hq1]
    unfold afterQ
    rw [List.filter_filter]
    refine List.filter_congr fun p _ => ?_
    rw [Bool.eq_iff_iff]
    simp only [Bool.and_eq_true, decide_eq_true_eq, List.mem_append, not_or]
    constructor
    · rintro ⟨a, b, c⟩; exact ⟨b, c, a⟩
    · rintro ⟨b, c, a⟩; exact ⟨a, b, c⟩
  · show ∀ k ∈ st.gone ++ lostQ dl (afterQ st.qs ns) (big st.la ns) now, _
    intro k hk
    rcases List.mem_append.mp hk with hk | hk
    · obtain ⟨p, hp, e, g, hg, h1, h2⟩ := h.g1 k hk
      exact ⟨p, hp, e, g, List.mem_append_left _ hg, h1, h2⟩
    · obtain ⟨p, hp, e⟩ := List.mem_map.mp hk
      obtain ⟨hp1, hp2⟩ := List.mem_filter.mp hp
      refine ⟨p, hsub.subset hp1, e, ?_⟩
      cases hb : big st.la ns with
      | none => rw [hb] at hp2; simp [qLost] at hp2
      | some g =>
        rw [hb] at hp2
        simp only [qLost, Bool.and_eq_true, decide_eq_true_eq] at hp2
        exact ⟨g, (hbig1 g hb).1, hp2.1, hp2.2.imp id fun q => by omega⟩
  · show (st.gone ++ lostQ dl (afterQ st.qs ns) (big st.la ns) now).Nodup
    refine List.nodup_append.mpr ⟨h.nd, (hnd.sublist (hsub.map _)).sublist (List.filter_sublist.map _), fun a ha c hc e => ?_⟩
    subst e
    obtain ⟨p, hp, e⟩ := List.mem_map.mp hc
    have hp1 := (List.mem_filter.mp hp).1
    rw [hq1] at hp1
    have := (List.mem_filter.mp hp1).2
    simp only [Bool.and_eq_true, decide_eq_true_eq] at this
    exact this.2 (e ▸ ha)
theorem runQ_inv {dl T : Int} {rows : List Qd} (hnd : (rows.map (·.num)).Nodup) : ∀ (parts : List (Int × List Int)) (told : List Int) (st : St), (∀ p ∈ parts, p.1 ≤ T ∧ p.2.Pairwise (· < ·)) → RInv dl T rows told st →
    RInv dl T rows (told ++ (parts.map (·.2)).flatten) (parts.foldl (fun st p => stepQ dl st p.1 p.2) st)
  | [], told, st, _, h => by simpa using h
  | p :: r, told, st, hp, h => by
    have h1 := hp p (.head _)
    have := runQ_inv hnd r (told ++ p.2) _ (fun q hq => hp q (.tail _ hq)) (h.step hnd h1.2 h1.1)
    simpa [List.append_assoc] using this
theorem RInv.start (dl T : Int) (rows : List Qd) : RInv dl T rows [] ⟨rows, none, [], none⟩ :=
  ⟨(List.filter_eq_self.mpr fun _ _ => by simp).symm, fun _ => rfl, (fun _ e => by cases e), (fun _ h => by cases h), List.nodup_nil⟩
theorem num_inj : ∀ {l : List Qd}, (l.map (·.num)).Nodup → ∀ {p p' : Qd}, p ∈ l → p' ∈ l → p.num = p'.num → p = p'
  | [], _, _, _, h, _, _ => by cases h
  | q :: r, hn, p, p', h, h', e => by
    rw [List.map_cons, List.nodup_cons] at hn
    rcases List.mem_cons.mp h with h1 | h1 <;> rcases List.mem_cons.mp h' with h2 | h2
    · rw [h1, h2]
    · exact absurd (show q.num ∈ r.map (·.num) by rw [← h1, e]; exact List.mem_map_of_mem h2) hn.1
    · exact absurd (show q.num ∈ r.map (·.num) by rw [← h2, ← e]; exact List.mem_map_of_mem h1) hn.1
    · exact num_inj hn.2 h1 h2 e
theorem later_skip {la : Option Int} {now dl : Int} : ∀ (l : List Qd) (acc : Option Int), l.foldl (qLater la now dl) acc = (l.filter fun p => !qLost la now dl p).foldl (qLater la now dl) acc
  | [], _ => rfl
  | p :: r, acc => by
    rw [List.filter_cons]
    cases h : qLost la now dl p with
    | true =>
      have e : qLater la now dl acc p = acc := by
        cases la with
        | none => simp [qLost] at h
        | some g =>
          simp only [qLost, Bool.and_eq_true, decide_eq_true_eq] at h
          simp only [qLater]
          rw [if_pos h.1, if_pos h.2]
      simp only [List.foldl_cons, e, Bool.not_true, Bool.false_eq_true, if_false]
      exact later_skip r acc
    | false =>
      simp only [List.foldl_cons, Bool.not_false, if_true]
      exact later_skip r _
/-- the end of a run whose last part is told at T -/
theorem run_end {dl T : Int} {rows : List Qd} (hnd : (rows.map (·.num)).Nodup) (parts : List (Int × List Int)) (ns : List Int) (hp : ∀ p ∈ parts, p.1 ≤ T ∧ p.2.Pairwise (· < ·)) (hs : ns.Pairwise (· < ·)) (W1 : List Int) (hW : ∀ k, k ∈ W1 ↔ k ∈ (parts.map (·.2)).flatten ++ ns) :
    ∃ st, st = runQ dl rows (parts ++ [(T, ns)]) ∧ (st.la = none → ∀ k, k ∉ W1) ∧ (∀ g, st.la = some g → g ∈ W1 ∧ ∀ k ∈ W1, k ≤ g) ∧
      st.qs = rows.filter (fun p => decide (p.num ∉ W1) && !qLost st.la T dl p) ∧ st.later = st.qs.foldl (qLater st.la T dl) none ∧ st.gone.Nodup ∧
      (∀ k ∈ st.gone, ∃ p ∈ rows, p.num = k ∧ qLost st.la T dl p = true) ∧ (∀ p ∈ rows, qLost st.la T dl p = true → p.num ∉ W1 → p.num ∈ st.gone) := by
  have h0 := runQ_inv (dl := dl) (T := T) hnd parts [] _ hp (RInv.start dl T rows)
  rw [List.nil_append] at h0
  have h1 := h0.step hnd hs (Int.le_refl T)
  have e : runQ dl rows (parts ++ [(T, ns)]) = stepQ dl (parts.foldl (fun st p => stepQ dl st p.1 p.2) ⟨rows, none, [], none⟩) T ns := by
    unfold runQ; rw [List.foldl_append]; rfl
  generalize hs0 : parts.foldl (fun st p => stepQ dl st p.1 p.2) ⟨rows, none, [], none⟩ = s0 at *
  generalize htold : (parts.map (·.2)).flatten ++ ns = told at *
  have hgl : ∀ k ∈ (stepQ dl s0 T ns).gone, ∃ p ∈ rows, p.num = k ∧ qLost (stepQ dl s0 T ns).la T dl p = true := fun k hk => by
    obtain ⟨p, hp, e, g, hg, q1, q2⟩ := h1.g1 k hk
    refine ⟨p, hp, e, ?_⟩
    cases hla : (stepQ dl s0 T ns).la with
    | none => rw [h1.l0 hla] at hg; cases hg
    | some G =>
      have := (h1.l1 G hla).2 g hg
      simp only [qLost, Bool.and_eq_true, decide_eq_true_eq]
      exact ⟨by omega, q2.imp (fun q => by omega) id⟩
  have hin : ∀ p ∈ rows, qLost (stepQ dl s0 T ns).la T dl p = true → p.num ∉ W1 → p.num ∈ (stepQ dl s0 T ns).gone := fun p hp hl hw => by
    rw [hW] at hw
    by_cases hg : p.num ∈ s0.gone
    · exact List.mem_append_left _ hg
    · refine List.mem_append_right _ (List.mem_map_of_mem (List.mem_filter.mpr ⟨?_, hl⟩))
      unfold afterQ
      rw [h0.q]
      rw [← htold] at hw
      simp only [List.mem_append, not_or] at hw
      simp only [List.mem_filter, Bool.and_eq_true, decide_eq_true_eq]
      exact ⟨⟨hp, hw.1, hg⟩, hw.2⟩
  refine ⟨_, rfl, ?_⟩
  rw [e]
  refine ⟨fun q k hk => ?_, fun g hg => ?_, ?_, ?_, h1.nd, hgl, hin⟩
  · rw [hW, h1.l0 q] at hk; cases hk
  · obtain ⟨a, c⟩ := h1.l1 g hg
    exact ⟨(hW g).mpr a, fun k hk => c k ((hW k).mp hk)⟩
  · rw [h1.q]
    refine List.filter_congr fun p hp => ?_
    rw [Bool.eq_iff_iff]
    simp only [Bool.and_eq_true, decide_eq_true_eq, Bool.not_eq_true', ← hW]
    constructor
    · rintro ⟨a, c⟩
      refine ⟨a, ?_⟩
      cases hl : qLost (stepQ dl s0 T ns).la T dl p with
      | false => rfl
      | true => exact absurd (hin p hp hl a) c
    · rintro ⟨a, c⟩
      refine ⟨a, fun hg => ?_⟩
      obtain ⟨p', hp', e', hl⟩ := hgl _ hg
      have : p' = p := num_inj hnd hp' hp e'
      rw [this, c] at hl; cases hl
  · show (afterQ s0.qs ns).foldl (qLater (big s0.la ns) T dl) none = (afterQ (afterQ s0.qs ns) (lostQ dl (afterQ s0.qs ns) (big s0.la ns) T)).foldl (qLater (big s0.la ns) T dl) none
    rw [later_skip]
    congr 1
    have hsub : (afterQ s0.qs ns).Sublist rows := by unfold afterQ; rw [h0.q]; exact List.filter_sublist.trans List.filter_sublist
    generalize afterQ s0.qs ns = qs at hsub
    show qs.filter _ = qs.filter _
    refine List.filter_congr fun p hp => ?_
    rw [Bool.eq_iff_iff]
    simp only [Bool.not_eq_true', decide_eq_true_eq]
    constructor
    · intro hl hm
      obtain ⟨p', hp', e'⟩ := List.mem_map.mp hm
      obtain ⟨h1, h2⟩ := List.mem_filter.mp hp'
      have : p' = p := num_inj hnd (hsub.subset h1) (hsub.subset hp) e'
      rw [this, hl] at h2; cases h2
    · intro hm
      cases hl : qLost (big s0.la ns) T dl p with
      | false => rfl
      | true => exact absurd (List.mem_map_of_mem (List.mem_filter.mpr ⟨hp, hl⟩)) hm
/-- the law of the runs: by parts and at once -/
theorem pure_law {dl T : Int} {rows : List Qd} (hnd : (rows.map (·.num)).Nodup) (parts : List (Int × List Int)) (ns W1 : List Int) (hp : ∀ p ∈ parts, p.1 ≤ T ∧ p.2.Pairwise (· < ·)) (hs : ns.Pairwise (· < ·)) (hw : W1.Pairwise (· < ·)) (hW : ∀ k, k ∈ W1 ↔ k ∈ (parts.map (·.2)).flatten ++ ns) :
    (runQ dl rows (parts ++ [(T, ns)])).qs = (runQ dl rows [(T, W1)]).qs ∧ (runQ dl rows (parts ++ [(T, ns)])).la = (runQ dl rows [(T, W1)]).la ∧ (runQ dl rows (parts ++ [(T, ns)])).later = (runQ dl rows [(T, W1)]).later ∧
      (∀ k ∈ (runQ dl rows [(T, W1)]).gone, k ∈ (runQ dl rows (parts ++ [(T, ns)])).gone) ∧ (∀ k ∈ (runQ dl rows (parts ++ [(T, ns)])).gone, k ∈ (runQ dl rows [(T, W1)]).gone ∨ k ∈ W1) ∧ (∀ k : Int, (runQ dl rows (parts ++ [(T, ns)])).gone.count k ≤ 1) := by
  obtain ⟨s2, e2, a0, a1, aq, al, an, ag, ai⟩ := run_end (dl := dl) (T := T) hnd parts ns hp hs W1 hW
  obtain ⟨s1, e1, b0, b1, bq, bl, bn, bg, bi⟩ := run_end (dl := dl) (T := T) hnd [] W1 (by simp) hw W1 (by simp)
  rw [List.nil_append] at e1
  have hno : ∀ k ∈ s1.gone, k ∉ W1 := fun k hk hkw => by
    rw [e1] at hk
    have e : runQ dl rows [(T, W1)] = stepQ dl ⟨rows, none, [], none⟩ T W1 := rfl
    rw [e] at hk
    have hk' : k ∈ lostQ dl (afterQ rows W1) (big none W1) T := by simpa [stepQ] using hk
    obtain ⟨p, hp, e'⟩ := List.mem_map.mp hk'
    have h1 := (List.mem_filter.mp (List.mem_filter.mp hp).1).2
    simp only [decide_eq_true_eq] at h1
    exact h1 (e' ▸ hkw)
  rw [← e1, ← e2]
  have hla : s2.la = s1.la := by
    cases h2 : s2.la with
    | none =>
      cases h1 : s1.la with
      | none => rfl
      | some g => exact absurd (b1 g h1).1 (a0 h2 g)
    | some g2 =>
      obtain ⟨c1, c2⟩ := a1 g2 h2
      cases h1 : s1.la with
      | none => exact absurd c1 (b0 h1 g2)
      | some g1 =>
        obtain ⟨d1, d2⟩ := b1 g1 h1
        have := c2 g1 d1
        have := d2 g2 c1
        congr 1; omega
  have hqs : s2.qs = s1.qs := by rw [aq, bq, hla]
  refine ⟨hqs, hla, by rw [al, bl, hqs, hla], fun k hk => ?_, fun k hk => ?_, fun k => List.nodup_iff_count.mp an k⟩
  · obtain ⟨p, hp', e, hl⟩ := bg k hk
    rw [← e]
    exact ai p hp' (hla ▸ hl) (by rw [e]; exact hno k hk)
  · obtain ⟨p, hp', e, hl⟩ := ag k hk
    by_cases hkw : k ∈ W1
    · exact .inr hkw
    · left
      rw [← e]
      exact bi p hp' (hla ▸ hl) (by rw [e]; exact hkw)
end Mine
end
-- Sg0
section
open PySem PySem.W PySem.Calls PyProof.Rows
set_option maxRecDepth 100000
namespace Mine
def runFd : Stmt := Challenge.pw_sa0568_01.main.body.getD 20 default
def runStmt (i : Nat) : Stmt := (fdBody runFd).getD i default
def turnStmt (i : Nat) : Stmt := (fdBody (runStmt 2)).getD i default
def runEnv (L : Addr) : Env := envOfC (Str.ofString "_law_run") (fdScope runFd) L 251 (.ref 250)
end Mine
end
-- Lg0
section
open PySem PySem.W PySem.Calls PyProof.Rows
set_option maxRecDepth 100000
namespace Mine
def lawFd : Stmt := Challenge.pw_sa0568_01.main.body.getD 21 default
def lawStmt (i : Nat) : Stmt := (fdBody lawFd).getD i default
def someStmt (i : Nat) : Stmt := (fdBody (lawStmt 9)).getD i default
def lawEnv (L fa : Addr) (cd : Value) : Env := envOfC (Str.ofString "law") (fdScope lawFd) L fa cd
theorem takeUp {g h h' : Heap} {L bx : Addr} {o o' : Obj} {m : Str → Option Value} {tl : List (Addr × Obj)} (F : Fr g L h m) (N : News g L h ((bx, o) :: tl)) (k : Kp [bx] h h') (e : h'.get? bx = some o') (hne : ∀ p ∈ tl, p.1 ≠ bx) :
    Fr g L h' m ∧ News g L h' ((bx, o') :: tl) := by
  have z := N (bx, o) (.head _)
  refine ⟨frBack F k (by simpa using Ne.symm z.2.1) (fa1 z.2.2), fun p hp => ?_⟩
  rcases List.mem_cons.mp hp with rfl | hp
  · exact ⟨e, z.2⟩
  · have y := N p (.tail _ hp)
    exact ⟨k _ _ (by simpa using hne p hp) y.1, y.2⟩
/-- an address that is none of law's cells -/
structure OffL (L a : Addr) : Prop where
  c1 : @Ne Nat (L + 1) a
  c2 : @Ne Nat (L + 1 + 1) a
  c3 : @Ne Nat (L + 1 + 1 + 1) a
  c4 : @Ne Nat (L + 1 + 1 + 1 + 1) a
  c5 : @Ne Nat (L + 1 + 1 + 1 + 1 + 1) a
  c6 : @Ne Nat (L + 1 + 1 + 1 + 1 + 1 + 1) a
theorem OffL.of {L a : Addr} (h : @LT.lt Nat _ (L + 1 + 1 + 1 + 1 + 1 + 1) a) : OffL L a := by
  constructor <;> (refine Nat.ne_of_lt ?_) <;> omega
/-- the law's box, its rows, the rest, apart -/
structure Apart (L BL RL : Addr) (Z : List (Addr × Obj)) : Prop where
  br : @Ne Nat BL RL
  cb : OffL L BL
  cr : OffL L RL
  zb : ∀ q ∈ Z, q.1 ≠ BL
  zr : ∀ q ∈ Z, q.1 ≠ RL
  zl : ∀ q ∈ Z, OffL L q.1
end Mine
end
-- CompC
section
open PySem PySem.W PySem.Calls PyProof.Rows PyProof.Rows.LCg
set_option maxRecDepth 100000
namespace Mine
section
variable {M : Model} {prog : Program} {w : World} {A : Around} {E : Value → Shared → Prop} {s : Shared} {h₀ : Heap} {L : Addr} {m : Str → Option Value} {env : Env}
theorem newEnv_one {scope : Scope} {cl : List (Str × Addr)} {x : Str} {Q : Env → Shared → Prop} (hcf : ∀ n, cellsFrom n scope.names cl = (x, n) :: cl) (hpc : ∀ h, pushCells h scope.names = h.push { cls := .type "cell", data := .cell none })
    (hQ : Q { scope := scope, locals := s.heap.objs.size, globals := env.globals, cells := (x, s.heap.objs.size + 1) :: cl, qual := env.qual, func := none, code := env.code, frame := env.frame, builtins := env.builtins }
      { s with heap := (s.heap.push { cls := .type "dict", data := .dict #[] }).push { cls := .type "cell", data := .cell none } }) :
    wpAny M A (newFunctionEnv scope env.globals cl [] env.qual none .none (some env)) Q E s := by
  simp only [newFunctionEnv, Option.isSome_some, if_true]
  refine wpAny_bind (wpAny_alloc ?_)
  refine wpAny_bind (wpAny_layCells _ (fun name kind cells => by cases hkc : kind == NameKind.cell <;> simp [hkc]) _ _ _ _ ?_)
  rw [hcf, hpc]
  rw [show ({ s with heap := s.heap.push { cls := .type "dict", data := .dict #[] } } : Shared).heap.objs.size = s.heap.objs.size + 1 from Heap.size_push ..]
  refine wpAny_bind ?_
  rw [List.forIn_nil]
  exact wpAny_pure (wpAny_pure hQ)
/-- a comprehension over a range whose letter is a cell of its own -/
theorem ListComp_C {elt iter : Expr} {x : Str} {px : Pos} {scope : Scope} {cl : List (Str × Addr)} {pos : Pos} {Q : Value → Shared → Prop} (Inv : Nat → List Value → List (Addr × Obj) → Prop) (n : Nat)
    (hclos : closureFor scope env = pure cl) (hkind : scope.kind = .function)
    (hnames : ∀ y ∈ scope.names, y.2 = .local → scope.names.lookup y.1 = some .local) (hcf : ∀ n, cellsFrom n scope.names cl = (x, n) :: cl) (hpc : ∀ h, pushCells h scope.names = h.push { cls := .type "cell", data := .cell none })
    (hxk : ∀ C K, (compEnvC scope ((x, K) :: cl) C env).kindOf x = some .cell)
    (h : wpAny (model prog w) A (eval iter env) (fun xv s₁ => Box (∃ r t u v news, xv = .ref r ∧ A.handled = none ∧ Fr h₀ L s₁.heap m ∧ News h₀ L s₁.heap news ∧ IsRange s₁.heap r 0 (n : Int) 1 t u v ∧ Builtin.Range.small 0 (n : Int) 1 = true ∧ Builtin.Range.rangeSize 0 (n : Int) 1 = (n : Int) ∧ n ≤ sizeLine ∧ Inv 0 [] news ∧
      (∀ i ys news, i < n → Inv i ys news → ∀ t I oI C oC D K oK h tk (E' : Value → Shared → Prop), oK.data = .cell (some (.int (i : Int) t)) → Fr h₀ L h m → News h₀ L h ((I, oI) :: (C, oC) :: (D, lst ys) :: (K, oK) :: news) → Off3 I C D ((K, oK) :: news) → (∀ p ∈ news, p.1 ≠ K) →
        wpAny (model prog w) A (eval elt (compEnvC scope ((x, K) :: cl) C env)) (CompEnd h₀ L m { s₁ with heap := h, toks := tk } I oI C oC D (lst ys) (fun nw => ∃ nw0, nw = (K, oK) :: nw0 ∧ ∀ p ∈ nw0, p.1 ≠ K) (fun y nw => ∃ nw0, nw = (K, oK) :: nw0 ∧ Inv (i + 1) (ys ++ [y]) nw0)) E' { s₁ with heap := h, toks := tk }) ∧
      (∀ ys news D h tk, Inv n ys news → Fr h₀ L h m → News h₀ L h ((D, lst ys) :: news) → Off1 D news → Q (.ref D) { s₁ with heap := h, toks := tk }))) E s)
    (hs : ∀ x, foldedSetIterable iter env x = pure x := by intro _; rfl) :
    wpAny (model prog w) A (eval (.ListComp elt [⟨.Name x px, iter, [], 0⟩] scope pos) env) Q E s := by
  rw [eval_ListComp]
  refine wpAny_comprehension_free (use := none) rfl hs hclos hkind hnames (wpAny_mono h (fun xv s₁ h₁ => ?_) fun _ _ e => e)
  obtain ⟨r, t, u, v, news, rfl, hh, F, N, hr, hsm, hn, hsz, hInv, step, fin⟩ := h₁.out
  refine wpAny_pyIter_range hr hsm ?_
  rw [hn]
  generalize hI : s₁.heap.objs.size = I
  generalize hH1 : s₁.heap.push { cls := .type "range_iterator", data := .fields #[rawInt 0, rawInt (n : Int), rawInt 1] } = H1
  have up1 : ∀ b o, s₁.heap.get? b = some o → H1.get? b = some o := fun b o e => hH1 ▸ Heap.get?_push_of_some _ e
  have sz1 : H1.objs.size = I + 1 := by rw [← hH1, Heap.size_push, hI]
  have F1 : Fr h₀ L H1 m := F.keeps up1
  have N1 : News h₀ L H1 news := N.grown up1
  have hst : IsRangeIter H1 I (0 + (((0 : Nat) : Int)) * 1) ((n : Int) - ((0 : Nat) : Int)) 1 := by
    rw [← hH1, ← hI]
    show IsRangeIter _ _ _ _ _
    refine Heap.get?_push_size _ ?_
    simp [rawInt]; rfl
  have hIL : L ≠ I := fun q => Nat.lt_irrefl _ (hI ▸ q ▸ F.ns.lt)
  have hI₀ : h₀.get? I = none := kpFresh (frKp F) (freshOf (Nat.le_of_eq hI))
  have offI : ∀ p ∈ news, p.1 ≠ I := fun p hp => hI ▸ Nat.ne_of_lt (Heap.lt_size (N p hp).1)
  refine wpAny_newObj_type ?_
  refine newEnv_one hcf hpc ?_
  dsimp only
  generalize hH2 : H1.push { cls := .type "list", dict := none, data := .seq ([] : List Value).toArray } = H2
  have up2 : ∀ b o, H1.get? b = some o → H2.get? b = some o := fun b o e => hH2 ▸ Heap.get?_push_of_some _ e
  have sz2 : H2.objs.size = I + 1 + 1 := by rw [← hH2, Heap.size_push, sz1]
  have eD : H2.get? (I + 1) = some (lst []) := by rw [← sz1, ← hH2]; exact Heap.get?_push_size _ rfl
  rw [sz1, sz2]
  generalize hH3 : H2.push { cls := .type "dict", data := .dict #[] } = H3
  have up3 : ∀ b o, H2.get? b = some o → H3.get? b = some o := fun b o e => hH3 ▸ Heap.get?_push_of_some _ e
  have sz3 : H3.objs.size = I + 1 + 1 + 1 := by rw [← hH3, Heap.size_push, sz2]
  have nC : H3.Ns (I + 1 + 1) fun _ => none := by rw [← sz2, ← hH3]; exact Heap.Ns.new H2 (.type "dict")
  generalize hH4 : H3.push { cls := .type "cell", data := .cell none } = H4
  have up4 : ∀ b o, H3.get? b = some o → H4.get? b = some o := fun b o e => hH4 ▸ Heap.get?_push_of_some _ e
  have eK : H4.get? (I + 1 + 1 + 1) = some { cls := .type "cell", data := .cell none } := by rw [← sz3, ← hH4]; exact Heap.get?_push_size _ rfl
  have up : ∀ b o, H1.get? b = some o → H4.get? b = some o := fun b o e => up4 _ _ (up3 _ _ (up2 _ _ e))
  have lt1 : ∀ b o, H1.get? b = some o → b < I + 1 := fun b o e => sz1 ▸ Heap.lt_size e
  have fr1 : ∀ a, I + 1 ≤ a → h₀.get? a = none := fun a ha => kpFresh (frKp F1) (freshOf (by rw [sz1]; exact ha))
  have hLlt : L < I + 1 := by obtain ⟨o, _, _, e, _⟩ := F1.ns; exact lt1 _ _ e
  generalize hDa : I + 1 = D at *
  generalize hCa : D + 1 = C at *
  generalize hKa : C + 1 = K at *
  have hDC : D ≠ C := by rw [← hCa]; exact Nat.ne_of_lt (Nat.lt_succ_self _)
  have hCK : C ≠ K := by rw [← hKa]; exact Nat.ne_of_lt (Nat.lt_succ_self _)
  have hDK : D ≠ K := by rw [← hKa, ← hCa]; exact Nat.ne_of_lt (Nat.lt_succ_of_lt (Nat.lt_succ_self _))
  have hID : I ≠ D := by rw [← hDa]; exact Nat.ne_of_lt (Nat.lt_succ_self _)
  have hDltC : D < C := by rw [← hCa]; exact Nat.lt_succ_self _
  have hCltK : C < K := by rw [← hKa]; exact Nat.lt_succ_self _
  have hIC : I ≠ C := Nat.ne_of_lt (Nat.lt_trans (by rw [← hDa]; exact Nat.lt_succ_self _) hDltC)
  have hIK : I ≠ K := Nat.ne_of_lt (Nat.lt_trans (Nat.lt_trans (by rw [← hDa]; exact Nat.lt_succ_self _) hDltC) hCltK)
  have hD₀ : h₀.get? D = none := fr1 D (Nat.le_refl _)
  have hC₀ : h₀.get? C = none := fr1 C (Nat.le_of_lt hDltC)
  have hK₀ : h₀.get? K = none := fr1 K (Nat.le_of_lt (Nat.lt_trans hDltC hCltK))
  have hDL : D ≠ L := Nat.ne_of_gt hLlt
  have hCL : C ≠ L := Nat.ne_of_gt (Nat.lt_trans hLlt hDltC)
  have hKL : K ≠ L := Nat.ne_of_gt (Nat.lt_trans (Nat.lt_trans hLlt hDltC) hCltK)
  have ltN1 : ∀ p ∈ news, p.1 < D := fun p hp => lt1 _ _ (N1 p hp).1
  have off₀ : Off3 I C D ((K, ({ cls := .type "cell", data := .cell none } : Obj)) :: news) :=
    ⟨⟨Ne.symm hIK, Ne.symm hCK, Ne.symm hDK⟩, Off3.of fun p hp => ⟨offI p hp, Nat.ne_of_lt (Nat.lt_trans (ltN1 p hp) hDltC), Nat.ne_of_lt (ltN1 p hp)⟩⟩
  have offK : ∀ p ∈ news, p.1 ≠ K := fun p hp => Nat.ne_of_lt (Nat.lt_trans (Nat.lt_trans (ltN1 p hp) hDltC) hCltK)
  have W : Walks prog w A I [I] [I] n _ _ := range_walks (prog := prog) (w := w) (A := A) (I := I) hh 0 n
  have hst4 : IsRangeIter H4 I (0 + (((0 : Nat) : Int)) * 1) ((n : Int) - ((0 : Nat) : Int)) 1 := W.frame _ _ _ hst fun b _ o e => up b o e
  have loop : ∀ s₃ : Shared, (∃ tk, s₃ = { s₁ with heap := H4, toks := tk }) →
      codeAny (model prog w) A (.compLoop (.ListComp elt [⟨.Name x px, iter, [], 0⟩] scope pos) 0 (.ref I) (.ref D) (compEnvC scope ((x, K) :: cl) C env))
        (compPost (model prog w) A E none Q (.ref D) C) s₃ := by
    rintro s₃ ⟨tk0, rfl⟩
    refine codeAny_compLoop_tests
      (fun k s' => ∃ h' tk i ys m' oK news', s' = { s₁ with heap := h', toks := tk } ∧ i ≤ n ∧ k = n + 1 - i ∧ ys.length = i ∧ IsRangeIter h' I (0 + (i : Nat) * 1) ((n : Int) - (i : Nat)) 1 ∧ Fr h₀ L h' m ∧ h'.Ns C m' ∧ News h₀ L h' ((D, lst ys) :: (K, oK) :: news') ∧
        (∃ v, oK.data = .cell v) ∧ Off3 I C D ((K, oK) :: news') ∧ (∀ p ∈ news', p.1 ≠ K) ∧ Inv i ys news') ?_ (n + 1)
      ⟨H4, tk0, 0, [], _, _, news, rfl, Nat.zero_le _, rfl, rfl, hst4, F1.keeps up, nC.at' fun o e => up4 _ _ e, ?_, ⟨none, rfl⟩, off₀, offK, hInv⟩
    · rintro k s' ⟨h', tk, i, ys, m', oK, news', rfl, hi, rfl, hyl, hst', F', hn', N', ⟨vK, hvK⟩, off', offK', hInv'⟩
      have off3 := off'.mem
      by_cases hlt : i < n
      · refine W.item i _ _ _ hlt hst' fun v h₂ tk₂ hPv hst₂ hk₂ => ?_
        obtain ⟨tv, rfl⟩ := hPv
        have N₂ : News h₀ L h₂ ((D, lst ys) :: (K, oK) :: news') := news_but N' hk₂ fun p hp => by
          rcases List.mem_cons.mp hp with rfl | hp
          · exact Ne.symm hID
          · exact (off3 p hp).1
        have F₂ : Fr h₀ L h₂ m := fr_but F' hk₂ hIL hI₀
        have hn₂ : h₂.Ns C m' := hn'.at' fun o e => hk₂ _ o (by simpa using Ne.symm hIC) e
        refine wpAny_assign_Name (wpAny_storeName_cell (by simp [compEnvC, relabel, hkind]) (hxk C K) (c := K) (v₀ := vK) (by simp [compEnvC]) ⟨oK, (N₂ (K, oK) (by simp)).1, hvK⟩ fun h₃ hc₃ hs₃ => ?_)
        refine wpAny_tests_nil ?_
        simp only [if_true]
        obtain ⟨oK3, eK3, dK3⟩ := hc₃
        have hst₃ : IsRangeIter h₃ I (0 + ((i + 1 : Nat) : Int) * 1) ((n : Int) - ((i + 1 : Nat) : Int)) 1 := W.frame _ _ _ hst₂ fun b hb o e => hs₃.extBut b o (by rw [List.mem_singleton.mp hb]; exact hIK) e
        obtain ⟨oI, heI⟩ : ∃ o, h₃.get? I = some o := ⟨_, hst₃⟩
        have hn₃ : h₃.Ns C m' := hn₂.sameBut hs₃ hCK
        obtain ⟨oC, heC, hoC⟩ := ns_obj hn₃
        have F₃ : Fr h₀ L h₃ m := F₂.change hs₃ hKL hK₀
        have N₃ : News h₀ L h₃ ((I, oI) :: (C, oC) :: (D, lst ys) :: (K, oK3) :: news') := fun p hp => by
          rcases List.mem_cons.mp hp with rfl | hp
          · exact ⟨heI, Ne.symm hIL, hI₀⟩
          rcases List.mem_cons.mp hp with rfl | hp
          · exact ⟨heC, hCL, hC₀⟩
          rcases List.mem_cons.mp hp with rfl | hp
          · have z := N₂ (D, lst ys) (.head _)
            exact ⟨hs₃.extBut _ _ hDK z.1, z.2⟩
          rcases List.mem_cons.mp hp with rfl | hp
          · exact ⟨eK3, hKL, hK₀⟩
          · have z := N₂ p (.tail _ (.tail _ hp))
            exact ⟨hs₃.extBut _ _ (offK' p hp) z.1, z.2⟩
        refine wpAny_mono (step i ys news' hlt hInv' tv I oI C oC D K oK3 h₃ _ _ (by rw [dK3]; simp) F₃ N₃ ⟨off'.1, off'.2⟩ offK') (fun y s₄ h₄ => ?_) fun _ _ e => e
        obtain ⟨h₄, tk₄, nw, rfl, F₄, N₄, off₄, ⟨nw0, rfl, hK4⟩, ⟨nw1, e1, R₄⟩⟩ := h₄
        obtain rfl : nw0 = nw1 := (List.cons.inj e1).2
        have zI := (N₄ (I, oI) (.head _)).1
        have zC := (N₄ (C, oC) (.tail _ (.head _))).1
        have zD := (N₄ (D, lst ys) (.tail _ (.tail _ (.head _)))).1
        have hst₄ : IsRangeIter h₄ I (0 + ((i + 1 : Nat) : Int) * 1) ((n : Int) - ((i + 1 : Nat) : Int)) 1 := by
          have q : h₃.get? I = some _ := hst₃
          show h₄.get? I = some _
          rw [zI, ← heI]; exact q
        refine append_at (hsz := by show ys.toArray.size ≤ sizeLine; rw [List.size_toArray, hyl]; exact Nat.le_trans hi hsz) zD fun h₅ hs₅ hD₅ => ?_
        have off4 := off₄.mem
        refine ⟨n + 1 - (i + 1), by omega, h₅, tk₄, i + 1, ys ++ [y], _, oK3, nw0, rfl, hlt, rfl, by rw [List.length_append, List.length_singleton, hyl], W.frame _ _ _ hst₄ fun b hb o e => hs₅.extBut b o (by rw [List.mem_singleton.mp hb]; exact hID) e, F₄.change hs₅ hDL hD₀,
          (hoC.ns zC).sameBut hs₅ (Ne.symm hDC), fun p hp => ?_, ⟨_, dK3⟩, off₄, hK4, R₄⟩
        rcases List.mem_cons.mp hp with rfl | hp
        · exact ⟨hD₅.trans (congrArg some (lst_snoc ys y)), hDL, hD₀⟩
        · have z := N₄ p (.tail _ (.tail _ (.tail _ hp)))
          exact ⟨hs₅.extBut _ _ (off4 p hp).2.2 z.1, z.2⟩
      · obtain rfl : i = n := Nat.le_antisymm hi (Nat.not_lt.mp hlt)
        refine W.done _ _ _ hst' fun h₂ tk₂ hk₂ => ?_
        have N₂ : News h₀ L h₂ ((D, lst ys) :: (K, oK) :: news') := news_but N' hk₂ fun p hp => by
          rcases List.mem_cons.mp hp with rfl | hp
          · exact Ne.symm hID
          · exact (off3 p hp).1
        refine ⟨m', hn'.at' fun o e => hk₂ _ o (by simpa using Ne.symm hIC) e, fun h'' hs'' => fin ys news' D h'' tk₂ hInv' ((fr_but F' hk₂ hIL hI₀).change hs'' hCL hC₀) (fun p hp => ?_) off'.2.one⟩
        rcases List.mem_cons.mp hp with rfl | hp
        · have z := N₂ (D, lst ys) (.head _)
          exact ⟨hs''.extBut _ _ hDC z.1, z.2⟩
        · have z := N₂ p (.tail _ (.tail _ hp))
          exact ⟨hs''.extBut _ _ (off3 p (.tail _ hp)).2.1 z.1, z.2⟩
    · intro p hp
      rcases List.mem_cons.mp hp with rfl | hp
      · exact ⟨up4 _ _ (up3 _ _ eD), hDL, hD₀⟩
      rcases List.mem_cons.mp hp with rfl | hp
      · exact ⟨eK, hKL, hK₀⟩
      · exact ⟨up _ _ (N1 p hp).1, (N1 p hp).2⟩
  exact codeAny_compStart_list (loop _ ⟨_, rfl⟩) (W.self 0 _ _ _ hst4 (loop _ ⟨_, rfl⟩))
end
end Mine
end
-- ZipL
section
open PySem PySem.W PySem.Calls PyProof.Rows
set_option maxRecDepth 100000
namespace Mine
abbrev IsZB (h : Heap) (z TI TO : Addr) (f0 : Value) (fb : Bool) : Prop :=
  h.get? z = some { cls := .type "zip", dict := none, data := .fields #[f0, .bool fb, .bool false, .ref TI, .ref TO], slots := #[] }
section
variable {prog : Program} {w : World} {A : Around} {E : Value → Shared → Prop} {s : Shared}
theorem wpAny_loadIfAlive {M : Model} {a : Addr} {o : Obj} {Q : Option Obj → Shared → Prop} (ho : s.heap.get? a = some o) (h : Q (some o) s) : wpAny M A (loadIfAlive a) Q E s := fun Γ p _ => by
  unfold loadIfAlive
  rw [Sem.wp_loadIfAlive, ho]
  simpa using h
theorem zip_free2 {z TI TO T : Addr} {fb : Bool} {oT : Obj} {Q : Bool → Shared → Prop} (hz : IsZB s.heap z TI TO (rawInt T) fb) (hT : s.heap.get? T = some oT)
    (hQ : ∀ h', IsZB h' z TI TO (rawInt T) true → Heap.SameBut z s.heap h' → Q false { s with heap := h' }) : wpAny (model prog w) A (Builtin.SmallTypes.ownedTupleIsFree (.ref z)) Q E s := by
  unfold Builtin.SmallTypes.ownedTupleIsFree
  refine wpAny_bind (wpAny_field hz rfl (x := rawInt T) rfl ?_)
  show wpAny _ _ (loadIfAlive ((T : Int).toNat) >>= _) _ _ _
  rw [Int.toNat_natCast]
  refine wpAny_bind (wpAny_loadIfAlive hT ?_)
  show wpAny _ _ (field (.ref z) 1 >>= _) _ _ _
  refine wpAny_bind (wpAny_field hz rfl (x := .bool fb) rfl ?_)
  cases fb with
  | true =>
    simp only [bne_self_eq_false, Bool.false_eq_true, if_false]
    refine wpAny_pure (hQ _ hz (Heap.SameBut.refl ..))
  | false =>
    rw [if_pos (by decide)]
    refine wpAny_bind (wpAny_setField_rec hz (by simp) fun h₁ hz₁ hs₁ => wpAny_pure (hQ h₁ hz₁ hs₁))
theorem zip_next_item2 {z TI TO i1 i2 l1 l2 T : Addr} {fb : Bool} {oT : Obj} {k1 k2 : Nat} {xs ys : Array Value} {x y : Value} {Q : Value → Shared → Prop} (D : ZipApart z TI TO i1 i2 l1 l2)
    (hz : IsZB s.heap z TI TO (rawInt T) fb) (hT : s.heap.get? T = some oT) (hTI : IsPair s.heap TI (.ref i1) (.ref i2))
    (h1 : s.heap.IsListIter i1 l1 k1) (h2 : s.heap.IsListIter i2 l2 k2) (hl1 : s.heap.IsList l1 xs) (hl2 : s.heap.IsList l2 ys) (hx : xs[k1]? = some x) (hy : ys[k2]? = some y)
    (hQ : ∀ h' T', IsZB h' z TI TO (rawInt T) true → h'.IsListIter i1 l1 (k1 + 1) → h'.IsListIter i2 l2 (k2 + 1) → IsPair h' T' x y → s.heap.get? T' = none →
      (∀ c o, c ≠ z → c ≠ i1 → c ≠ i2 → s.heap.get? c = some o → h'.get? c = some o) → Q (.ref T') { s with heap := h' }) :
    wpAny (model prog w) A (Builtin.«zip.__next__» ⟨[.ref z], []⟩) (fun fin s' => ∃ v, fin = .done (.ret v) ∧ Q v s') E s := by
  show wpAny _ _ (field (.ref z) 2 >>= _) _ _ _
  refine wpAny_bind (wpAny_field hz rfl (x := .bool false) rfl ?_)
  show wpAny _ _ (field (.ref z) 3 >>= _) _ _ _
  refine wpAny_bind (wpAny_field hz rfl (x := .ref TI) rfl ?_)
  refine wpAny_bind (wpAny_seqItems hTI rfl ?_)
  show wpAny _ _ (Builtin.SmallTypes.ownedTupleIsFree (.ref z) >>= _) _ _ _
  refine wpAny_bind (zip_free2 hz hT fun h₁ hz₁ hs₁ => ?_)
  simp only [Bool.false_eq_true, if_false]
  refine wpAny_bind ?_
  rw [show (#[Value.ref i1, Value.ref i2] : Array Value) = [Value.ref i1, Value.ref i2].toArray from rfl, List.forIn_toArray]
  simp only [List.forIn_cons, List.forIn_nil]
  refine wpAny_bind (wpAny_bind (wpAny_holding ?_))
  show wpAny _ _ (Builtin.SmallTypes.nextOf (.ref i1) >>= _) _ _ _
  refine wpAny_bind (wpAny_nextOf_list_item (h1.extBut hs₁.extBut D.i1z) (hl1.extBut hs₁.extBut D.l1z) hx fun h₂ h1₂ hs₂ => wpAny_pure ?_)
  refine wpAny_pure ?_
  refine wpAny_bind (wpAny_bind (wpAny_holding ?_))
  show wpAny _ _ (Builtin.SmallTypes.nextOf (.ref i2) >>= _) _ _ _
  refine wpAny_bind (wpAny_nextOf_list_item ((h2.extBut hs₁.extBut D.i2z).extBut hs₂.extBut D.i12.symm)
    ((hl2.extBut hs₁.extBut D.l2z).extBut hs₂.extBut D.l2i1) hy fun h₃ h2₃ hs₃ => wpAny_pure ?_)
  refine wpAny_pure (wpAny_pure ?_)
  show wpAny _ _ (newTuple [x, y] >>= _) _ _ _
  refine wpAny_bind (wpAny_newTuple ?_)
  refine wpAny_pure ⟨_, rfl, ?_⟩
  have hk : ∀ c o, c ≠ z → c ≠ i1 → c ≠ i2 → s.heap.get? c = some o → h₃.get? c = some o := fun c o c1 c2 c3 e => hs₃.extBut _ _ c3 (hs₂.extBut _ _ c2 (hs₁.extBut _ _ c1 e))
  have hsz : h₃.objs.size = s.heap.objs.size := by rw [hs₃.1, hs₂.1, hs₁.1]
  have up : ∀ c o, h₃.get? c = some o → (h₃.push { cls := .type "tuple", data := .seq [x, y].toArray }).get? c = some o := fun c o e => Heap.get?_push_of_some _ e
  exact hQ _ h₃.objs.size (up _ _ (hs₃.extBut _ _ D.i2z.symm (hs₂.extBut _ _ D.i1z.symm hz₁))) ((h1₂.extBut hs₃.extBut D.i12).at fun o e => up _ o e) (h2₃.at fun o e => up _ o e) (Heap.get?_push_size _ rfl) (by rw [hsz]; exact freshOf (Nat.le_refl _)) fun c o c1 c2 c3 e => up _ _ (hk c o c1 c2 c3 e)
theorem zip_next_end2 {z TI TO i1 i2 l1 l2 T : Addr} {fb : Bool} {oT : Obj} {k1 k2 : Nat} {xs ys : Array Value} {Q : Fin → Shared → Prop} (hh : A.handled = none) (D : ZipApart z TI TO i1 i2 l1 l2)
    (hz : IsZB s.heap z TI TO (rawInt T) fb) (hT : s.heap.get? T = some oT) (hTI : IsPair s.heap TI (.ref i1) (.ref i2))
    (h1 : s.heap.IsListIter i1 l1 k1) (hl1 : s.heap.IsList l1 xs) (hx : xs[k1]? = none)
    (hE : ∀ h' e, (∀ c o, c ≠ z → c ≠ i1 → s.heap.get? c = some o → h'.get? c = some o) → (∃ o, h'.get? e = some o ∧ o.cls = .type "StopIteration") → E (.ref e) { s with heap := h' }) :
    wpAny (model prog w) A (Builtin.«zip.__next__» ⟨[.ref z], []⟩) Q E s := by
  show wpAny _ _ (field (.ref z) 2 >>= _) _ _ _
  refine wpAny_bind (wpAny_field hz rfl (x := .bool false) rfl ?_)
  show wpAny _ _ (field (.ref z) 3 >>= _) _ _ _
  refine wpAny_bind (wpAny_field hz rfl (x := .ref TI) rfl ?_)
  refine wpAny_bind (wpAny_seqItems hTI rfl ?_)
  show wpAny _ _ (Builtin.SmallTypes.ownedTupleIsFree (.ref z) >>= _) _ _ _
  refine wpAny_bind (zip_free2 hz hT fun h₁ hz₁ hs₁ => ?_)
  simp only [Bool.false_eq_true, if_false]
  refine wpAny_bind ?_
  rw [show (#[Value.ref i1, Value.ref i2] : Array Value) = [Value.ref i1, Value.ref i2].toArray from rfl, List.forIn_toArray]
  simp only [List.forIn_cons, List.forIn_nil]
  refine wpAny_bind (wpAny_bind (wpAny_holding ?_))
  show wpAny _ _ (Builtin.SmallTypes.nextOf (.ref i1) >>= _) _ _ _
  refine wpAny_bind (wpAny_nextOf_list_end hh (h1.extBut hs₁.extBut D.i1z) (hl1.extBut hs₁.extBut D.l1z) hx fun h₂ e hs₂ he => ?_)
  exact hE h₂ e (fun c o c1 c2 x => hs₂ _ _ c2 (hs₁.extBut _ _ c1 x)) he
theorem pyNext_zip_item2 {z TI TO i1 i2 l1 l2 T : Addr} {fb : Bool} {oT : Obj} {k1 k2 : Nat} {xs ys : Array Value} {x y : Value} {Q : Option Value → Shared → Prop} (D : ZipApart z TI TO i1 i2 l1 l2)
    (hz : IsZB s.heap z TI TO (rawInt T) fb) (hT : s.heap.get? T = some oT) (hTI : IsPair s.heap TI (.ref i1) (.ref i2))
    (h1 : s.heap.IsListIter i1 l1 k1) (h2 : s.heap.IsListIter i2 l2 k2) (hl1 : s.heap.IsList l1 xs) (hl2 : s.heap.IsList l2 ys) (hx : xs[k1]? = some x) (hy : ys[k2]? = some y)
    (hQ : ∀ h' T', IsZB h' z TI TO (rawInt T) true → h'.IsListIter i1 l1 (k1 + 1) → h'.IsListIter i2 l2 (k2 + 1) → IsPair h' T' x y → s.heap.get? T' = none →
      (∀ c o, c ≠ z → c ≠ i1 → c ≠ i2 → s.heap.get? c = some o → h'.get? c = some o) → Q (some (.ref T')) { s with heap := h' }) :
    wpAny (model prog w) A (pyNext (.ref z)) Q E s := by
  have hTy : s.TypeIs (.ref z) "zip" := ⟨_, hz, rfl⟩
  unfold pyNext
  exact wpAny_bind (wpAny_attempt (wpAny_callSpecial?_slot (name := Str.ofString "__next__") hTy F.slot_zip_next
    (wpAny_call_entry F.slot_zip_next hTy F.entry_zip_next
      (zip_next_item2 D hz hT hTI h1 h2 hl1 hl2 hx hy fun h' T' a1 a2 a3 a4 a5 a6 => wpAny_pure (hQ h' T' a1 a2 a3 a4 a5 a6)) (F.args_zip_next_1 _))))
theorem pyNext_zip_end2 {z TI TO i1 i2 l1 l2 T : Addr} {fb : Bool} {oT : Obj} {k1 k2 : Nat} {xs ys : Array Value} {Q : Option Value → Shared → Prop} (hh : A.handled = none) (D : ZipApart z TI TO i1 i2 l1 l2)
    (hz : IsZB s.heap z TI TO (rawInt T) fb) (hT : s.heap.get? T = some oT) (hTI : IsPair s.heap TI (.ref i1) (.ref i2))
    (h1 : s.heap.IsListIter i1 l1 k1) (hl1 : s.heap.IsList l1 xs) (hx : xs[k1]? = none)
    (hQ : ∀ h', (∀ c o, c ≠ z → c ≠ i1 → s.heap.get? c = some o → h'.get? c = some o) → Q none { s with heap := h' }) : wpAny (model prog w) A (pyNext (.ref z)) Q E s := by
  have hTy : s.TypeIs (.ref z) "zip" := ⟨_, hz, rfl⟩
  unfold pyNext
  refine wpAny_bind (wpAny_attempt (wpAny_callSpecial?_slot (name := Str.ofString "__next__") hTy F.slot_zip_next
    (wpAny_call_entry F.slot_zip_next hTy F.entry_zip_next (zip_next_end2 (k2 := k2) (ys := ys) (i2 := i2) (l2 := l2) hh D hz hT hTI h1 hl1 hx fun h' e hk he => ?_) (F.args_zip_next_1 _))))
  obtain ⟨o, ho, hc⟩ := he
  refine wpAny_bind (wpAny_isInstance (T := "StopIteration") (b := true) ⟨o, ho, hc⟩ isSubtype_stop ?_)
  exact wpAny_pure (hQ _ hk)
end
end Mine
end
-- ZipM
section
open PySem PySem.W PySem.Calls PyProof.Rows
set_option maxRecDepth 100000
namespace Mine
/-- the zip at its turn i, its list so far -/
structure ZJ (s0 : Heap) (z TI TO i1 i2 l1 l2 S : Addr) (xs ys : Array Value) (i : Nat) (h : Heap) (acc : Array Value) : Prop where
  a1 : h.IsListIter i1 l1 i
  a2 : h.IsListIter i2 l2 i
  b1 : h.IsList l1 xs
  b2 : h.IsList l2 ys
  ti : IsPair h TI (.ref i1) (.ref i2)
  st : (i = 0 ∧ IsZip h z TI TO .none ∧ ∃ a b, IsPair h TO a b) ∨ (∃ (T : Addr) (o : Obj) (fb : Bool), IsZB h z TI TO (rawInt T) fb ∧ h.get? T = some o ∧ T ∉ [S, z, TO, i1, i2])
  sz : acc.size = i
  it : ∀ j, j < i → ∃ (T : Addr) (x y : Value), acc[j]? = some (.ref T) ∧ xs[j]? = some x ∧ ys[j]? = some y ∧ IsPair h T x y ∧ s0.get? T = none ∧ T ∉ [S, z, TO, i1, i2]
  kp : ∀ c o, c ∉ [S, z, TO, i1, i2] → s0.get? c = some o → h.get? c = some o
  al : ∀ c o, s0.get? c = some o → ∃ o', h.get? c = some o'
section
variable {prog : Program} {w : World} {A : Around} {E : Value → Shared → Prop} {s : Shared} {R : Result → Shared → Prop} {s0 : Heap} {z TI TO i1 i2 l1 l2 S : Addr} {xs ys : Array Value}
theorem ZJ.push {i : Nat} {h : Heap} {acc : Array Value} {c : Nat} {T : Addr} {x y : Value} (J : ZJ s0 z TI TO i1 i2 l1 l2 S xs ys i h acc) (hS : h.get? S = some { cls := .type "list", dict := none, data := .seq acc c, slots := #[] })
    (hSn : S ∉ [z, TI, TO, i1, i2, l1, l2]) {h' : Heap} (D : ZipApart z TI TO i1 i2 l1 l2) (hSl : ∃ o, s0.get? S = some o) (hzl : ∃ o, s0.get? z = some o) (hTl : ∃ o, s0.get? TO = some o) (h1l : ∃ o, s0.get? i1 = some o) (h2l : ∃ o, s0.get? i2 = some o)
    (q1 : h'.IsListIter i1 l1 (i + 1)) (q2 : h'.IsListIter i2 l2 (i + 1)) (hz : ∃ (T : Addr) (o : Obj) (fb : Bool), IsZB h' z TI TO (rawInt T) fb ∧ h'.get? T = some o ∧ T ∉ [S, z, TO, i1, i2]) (hT : IsPair h' T x y) (fT : h.get? T = none) (hx : xs[i]? = some x) (hy : ys[i]? = some y)
    (hal : ∀ c ∈ [S, z, TO, i1, i2], ∃ o, h'.get? c = some o) (hk : ∀ c o, c ≠ z → c ≠ TO → c ≠ i1 → c ≠ i2 → h.get? c = some o → h'.get? c = some o) :
    ZJ s0 z TI TO i1 i2 l1 l2 S xs ys (i + 1) (h'.update S (Obj.mapSeq (·.push (.ref T)))) (acc.push (.ref T)) := by
  simp only [List.mem_cons, List.not_mem_nil, or_false, not_or] at hSn
  obtain ⟨n1, n2, n3, n4, n5, n6, n7⟩ := hSn
  have up : ∀ c o, c ≠ S → h'.get? c = some o → (h'.update S (Obj.mapSeq (·.push (.ref T)))).get? c = some o := fun c o hc e => (Heap.get?_update_other _ _ (Ne.symm hc)).trans e
  have live : ∀ c, (∃ o, s0.get? c = some o) → T ≠ c := fun c ⟨o, e⟩ q => by
    obtain ⟨o', e'⟩ := J.al c o e
    rw [← q, fT] at e'; cases e'
  have hTn : T ∉ [S, z, TO, i1, i2] := by
    simp only [List.mem_cons, List.not_mem_nil, or_false, not_or]
    exact ⟨live S hSl, live z hzl, live TO hTl, live i1 h1l, live i2 h2l⟩
  have hk2 : ∀ c o, c ∉ [S, z, TO, i1, i2] → h.get? c = some o → (h'.update S (Obj.mapSeq (·.push (.ref T)))).get? c = some o := fun c o hc e => by
    simp only [List.mem_cons, List.not_mem_nil, or_false, not_or] at hc
    exact up c o hc.1 (hk c o hc.2.1 hc.2.2.1 hc.2.2.2.1 hc.2.2.2.2 e)
  refine ⟨q1.at fun o e => up _ o (Ne.symm n4) e, q2.at fun o e => up _ o (Ne.symm n5) e, (J.b1.at fun o e => hk _ o D.l1z D.l1TO D.l1i1 D.l1i2 e).at fun o e => up _ o (Ne.symm n6) e, (J.b2.at fun o e => hk _ o D.l2z D.l2TO D.l2i1 D.l2i2 e).at fun o e => up _ o (Ne.symm n7) e,
    up _ _ (Ne.symm n2) (hk _ _ D.TIz D.TITO D.TIi1 D.TIi2 J.ti), .inr ?_, by rw [Array.size_push, J.sz], fun j hj => ?_, fun c o hc e => hk2 c o hc (J.kp c o hc e), fun c o e => ?_⟩
  · obtain ⟨T0, o, fb, e1, e2, e3⟩ := hz
    have e4 : T0 ≠ S := fun q => e3 (q ▸ .head _)
    exact ⟨T0, o, fb, up _ _ (Ne.symm n1) e1, up _ _ e4 e2, e3⟩
  · by_cases hji : j < i
    · obtain ⟨T1, x1, y1, e1, e2, e3, e4, e5, e6⟩ := J.it j hji
      refine ⟨T1, x1, y1, ?_, e2, e3, hk2 _ _ e6 e4, e5, e6⟩
      rw [Array.getElem?_push_lt (by rw [J.sz]; exact hji)]
      rw [Array.getElem?_eq_getElem (by rw [J.sz]; exact hji)] at e1
      exact e1
    · have e : j = i := by omega
      subst e
      refine ⟨T, x, y, by rw [← J.sz]; simp, hx, hy, up _ _ (live S hSl) hT, ?_, hTn⟩
      cases q : s0.get? T with
      | none => rfl
      | some o => exact absurd rfl (live T ⟨o, q⟩)
  · obtain ⟨o', e'⟩ := J.al c o e
    by_cases hc : c ∈ [S, z, TO, i1, i2]
    · obtain ⟨o2, e2⟩ := hal c hc
      by_cases hcS : c = S
      · subst hcS
        exact ⟨_, Heap.get?_update_self _ e2 (by rw [hk _ _ n1 n3 n4 n5 hS] at e2; cases e2; rfl)⟩
      · exact ⟨_, up c o2 hcS e2⟩
    · exact ⟨_, hk2 c o' hc e'⟩
theorem zip_loop (D : ZipApart z TI TO i1 i2 l1 l2) (hh : A.handled = none) (hSn : S ∉ [z, TI, TO, i1, i2, l1, l2]) (hxy : xs.size = ys.size) (hn : xs.size ≤ sizeLine) (h0 : 0 < xs.size) (res : Value)
    (hSl : ∃ o, s0.get? S = some o) (hzl : ∃ o, s0.get? z = some o) (hTl : ∃ o, s0.get? TO = some o) (h1l : ∃ o, s0.get? i1 = some o) (h2l : ∃ o, s0.get? i2 = some o)
    (hR : ∀ h' tk acc' c', (∀ c o, c ∉ [S, z, TO, i1, i2] → s0.get? c = some o → h'.get? c = some o) → h'.get? S = some { cls := .type "list", dict := none, data := .seq acc' c', slots := #[] } → acc'.size = xs.size →
      (∀ j, j < xs.size → ∃ (T : Addr) (x y : Value), acc'[j]? = some (.ref T) ∧ xs[j]? = some x ∧ ys[j]? = some y ∧ IsPair h' T x y ∧ s0.get? T = none) → R (.ok (.ret res)) { s with heap := h', toks := tk }) :
    ∀ (k i : Nat) (h : Heap) (tk : Nat) (acc : Array Value) (c : Nat), xs.size - i = k → i ≤ xs.size → ZJ s0 z TI TO i1 i2 l1 l2 S xs ys i h acc → h.get? S = some { cls := .type "list", dict := none, data := .seq acc c, slots := #[] } →
    codeAny (model prog w) A (.builtin "list.extend.loop" ⟨[.ref S, .ref z, res], []⟩) R { s with heap := h, toks := tk } := by
  have hSn' := hSn
  simp only [List.mem_cons, List.not_mem_nil, or_false, not_or] at hSn'
  obtain ⟨n1, n2, n3, n4, n5, n6, n7⟩ := hSn'
  intro k
  induction k with
  | zero =>
    intro i h tk acc c hk hi J hS
    have hin : i = xs.size := by omega
    subst hin
    refine codeAny_builtin F.entry_extend_loop ?_
    rw [Around.under_plainId F.plain_extend_loop _]
    show wpAny _ A.in1 (pyNext (.ref z) >>= _) _ _ _
    rcases J.st with ⟨h1, _⟩ | ⟨T, o, fb, hz, hT, hTn⟩
    · omega
    · refine wpAny_bind (pyNext_zip_end2 (i2 := i2) (l2 := l2) (k2 := 0) (ys := ys) (s := { s with heap := h, toks := tk }) hh D hz hT J.ti J.a1 J.b1 (Array.getElem?_eq_none (Nat.le_refl _)) fun h' hk' => ?_)
      refine wpAny_pure (hR h' tk acc c (fun b o hb e => ?_) (hk' S _ n1 n4 hS) J.sz fun j hj => ?_)
      · have hb' := hb
        simp only [List.mem_cons, List.not_mem_nil, or_false, not_or] at hb'
        exact hk' b o hb'.2.1 hb'.2.2.2.1 (J.kp b o hb e)
      · obtain ⟨T1, x1, y1, e1, e2, e3, e4, e5, e6⟩ := J.it j hj
        simp only [List.mem_cons, List.not_mem_nil, or_false, not_or] at e6
        exact ⟨T1, x1, y1, e1, e2, e3, hk' _ _ e6.2.1 e6.2.2.2.1 e4, e5⟩
  | succ k ih =>
    intro i h tk acc c hk hi J hS
    have hlt : i < xs.size := by omega
    have hx : xs[i]? = some xs[i] := Array.getElem?_eq_getElem hlt
    have hy : ys[i]? = some (ys[i]'(hxy ▸ hlt)) := Array.getElem?_eq_getElem (hxy ▸ hlt)
    refine codeAny_builtin F.entry_extend_loop ?_
    rw [Around.under_plainId F.plain_extend_loop _]
    show wpAny _ A.in1 (pyNext (.ref z) >>= _) _ _ _
    have fin : ∀ (h' : Heap) (tk' : Nat) (T : Addr), h'.IsListIter i1 l1 (i + 1) → h'.IsListIter i2 l2 (i + 1) → (∃ (T : Addr) (o : Obj) (fb : Bool), IsZB h' z TI TO (rawInt T) fb ∧ h'.get? T = some o ∧ T ∉ [S, z, TO, i1, i2]) → IsPair h' T xs[i] (ys[i]'(hxy ▸ hlt)) → h.get? T = none →
        (∀ c ∈ [S, z, TO, i1, i2], ∃ o, h'.get? c = some o) → (∀ c o, c ≠ z → c ≠ TO → c ≠ i1 → c ≠ i2 → h.get? c = some o → h'.get? c = some o) →
        wpAny (model prog w) A.in1 (Builtin.List.listUpdate (.ref S) (·.push (.ref T)) >>= fun _ => again (.builtin "list.extend.loop" ⟨[.ref S, .ref z, res], []⟩)) (fun fin s' => match fin with | .done f => R (.ok f) s' | .again c' => c'.quiet = true ∧ codeAny (model prog w) A c' R s') (fun e s' => R (.error e) s') { s with heap := h', toks := tk' } := by
      intro h' tk' T q1 q2 hz hT fT hal hk'
      have hS' := hk' S _ n1 n3 n4 n5 hS
      show wpAny _ A.in1 (updateSeq S (·.push (.ref T)) >>= _) _ _ _
      refine wpAny_bind ?_
      refine wpAny_updateSeq hS' rfl (wpAny_pure ⟨plainId_quiet F.plain_extend_loop _, ih (i + 1) _ _ (acc.push (.ref T)) _ (by omega) hlt (J.push hS hSn D hSl hzl hTl h1l h2l q1 q2 hz hT fT hx hy hal hk') (Heap.get?_update_self _ hS' rfl)⟩)
        (by rw [J.sz]; omega) (by show (acc.push (.ref T)).size ≤ sizeLine + 1; rw [Array.size_push, J.sz]; omega)
    have live : ∀ c, (∃ o, s0.get? c = some o) → ∃ o, h.get? c = some o := fun c ⟨o, e⟩ => J.al c o e
    rcases J.st with ⟨h1, hz, a, b, hTO⟩ | ⟨T, o, fb, hz, hT, hTn⟩
    · refine wpAny_bind (wpAny_pyNext_zip_item (s := { s with heap := h, toks := tk }) D hz J.ti hTO J.a1 J.a2 J.b1 J.b2 hx hy fun h' b1 b2 b3 b4 b5 b6 hk' => ?_)
      have fT : h.get? h.objs.size = none := freshOf (Nat.le_refl _)
      have nl : ∀ c, (∃ o, s0.get? c = some o) → h.objs.size ≠ c := fun c hc q => by
        obtain ⟨o', e'⟩ := live c hc
        rw [← q, fT] at e'; cases e'
      refine fin h' tk h.objs.size b3 b4 ⟨h.objs.size, _, false, b1, b5, ?_⟩ b5 fT ?_ hk'
      · simp only [List.mem_cons, List.not_mem_nil, or_false, not_or]
        exact ⟨nl S hSl, nl z hzl, nl TO hTl, nl i1 h1l, nl i2 h2l⟩
      · simp only [List.forall_mem_cons]
        exact ⟨⟨_, hk' S _ n1 n3 n4 n5 hS⟩, ⟨_, b1⟩, ⟨_, b2⟩, let ⟨o, e, _⟩ := b3; ⟨o, e⟩, let ⟨o, e, _⟩ := b4; ⟨o, e⟩, by simp⟩
    · refine wpAny_bind (pyNext_zip_item2 (s := { s with heap := h, toks := tk }) D hz hT J.ti J.a1 J.a2 J.b1 J.b2 hx hy fun h' T' b1 b3 b4 b5 fT hk' => ?_)
      have hTn' := hTn
      simp only [List.mem_cons, List.not_mem_nil, or_false, not_or] at hTn'
      obtain ⟨oTO, eTO⟩ := live TO hTl
      refine fin h' tk T' b3 b4 ⟨T, o, true, b1, hk' _ _ hTn'.2.1 hTn'.2.2.2.1 hTn'.2.2.2.2 hT, hTn⟩ b5 fT ?_ fun c o c1 _ c3 c4 e => hk' c o c1 c3 c4 e
      simp only [List.forall_mem_cons]
      exact ⟨⟨_, hk' S _ n1 n4 n5 hS⟩, ⟨_, b1⟩, ⟨_, hk' TO _ D.TOz D.TOi1 D.TOi2 eTO⟩, let ⟨o, e, _⟩ := b3; ⟨o, e⟩, let ⟨o, e, _⟩ := b4; ⟨o, e⟩, by simp⟩
end
end Mine
end
-- ZipN
section
open PySem PySem.W PySem.Calls PyProof.Rows
set_option maxRecDepth 100000
namespace Mine
theorem zip_no_len : typeLookup (.type "zip") "__len__" = pure none := by rw [typeLookup_type, builtinLookup_eq_fast]; kernel_rfl
theorem zip_no_hint : typeLookup (.type "zip") "__length_hint__" = pure none := by rw [typeLookup_type, builtinLookup_eq_fast]; kernel_rfl
section
variable {prog : Program} {w : World} {A : Around} {E : Value → Shared → Prop} {s : Shared}
theorem zip_init {R : Result → Shared → Prop} {z TI TO i1 i2 l1 l2 S : Addr} {xs ys : Array Value} (D : ZipApart z TI TO i1 i2 l1 l2) (hh : A.handled = none) (hSn : S ∉ [z, TI, TO, i1, i2, l1, l2]) (hxy : xs.size = ys.size) (hn : xs.size ≤ sizeLine) (h0 : 0 < xs.size)
    (hz : IsZip s.heap z TI TO .none) (hTI : IsPair s.heap TI (.ref i1) (.ref i2)) (hTO : ∃ a b, IsPair s.heap TO a b) (h1 : s.heap.IsListIter i1 l1 0) (h2 : s.heap.IsListIter i2 l2 0) (hl1 : s.heap.IsList l1 xs) (hl2 : s.heap.IsList l2 ys)
    (hS : s.heap.get? S = some { cls := .type "list", data := .seq #[] })
    (hR : ∀ h' tk acc' c', (∀ c o, c ∉ [S, z, TO, i1, i2] → s.heap.get? c = some o → h'.get? c = some o) → h'.get? S = some { cls := .type "list", dict := none, data := .seq acc' c', slots := #[] } → acc'.size = xs.size →
      (∀ j, j < xs.size → ∃ (T : Addr) (x y : Value), acc'[j]? = some (.ref T) ∧ xs[j]? = some x ∧ ys[j]? = some y ∧ IsPair h' T x y ∧ s.heap.get? T = none) → R (.ok (.ret .none)) { s with heap := h', toks := tk }) :
    wpAny (model prog w) A.in1 (Builtin.«list.__init__» ⟨[.ref S, .ref z], []⟩)
      (fun fin s' => match fin with | .done f => R (.ok f) s' | .again c' => c'.quiet = true ∧ codeAny (model prog w) A c' R s') (fun e s' => R (.error e) s') s := by
  have hSn' := hSn
  simp only [List.mem_cons, List.not_mem_nil, or_false, not_or] at hSn'
  obtain ⟨n1, n2, n3, n4, n5, n6, n7⟩ := hSn'
  show wpAny _ _ (do let old ← Builtin.List.listItems (.ref S); Builtin.List.listUpdate (.ref S) (fun _ => #[]); letGo old.toList.reverse; Builtin.List.listExtendWith (.ref S) (.ref z) .none) _ _ s
  refine wpAny_bind ?_
  unfold Builtin.List.listItems
  refine wpAny_bind (wpAny_seqItems hS rfl (wpAny_pure ?_))
  show wpAny _ _ (updateSeq S (fun _ => #[]) >>= fun _ => letGo (#[] : Array Value).toList.reverse >>= fun _ => Builtin.List.listExtendWith (.ref S) (.ref z) .none) _ _ s
  refine wpAny_bind (wpAny_updateSeq hS rfl ?_)
  have hS₂ := Heap.get?_update_self (Obj.mapSeq (fun _ => (#[] : Array Value))) hS rfl
  generalize hH2 : s.heap.update S (Obj.mapSeq (fun _ => (#[] : Array Value))) = H2 at *
  have oth : ∀ b o, b ≠ S → s.heap.get? b = some o → H2.get? b = some o :=
    fun b o hb e => hH2 ▸ (Heap.get?_update_other _ _ (Ne.symm hb)).trans e
  refine wpAny_bind (wpAny_letGo ?_)
  have hz2 : IsZip H2 z TI TO .none := oth _ _ (Ne.symm n1) hz
  have hTy : (⟨H2, s.gens, s.drawn, s.toks, s.os⟩ : Shared).TypeIs (.ref z) "zip" := ⟨_, hz2, rfl⟩
  unfold Builtin.List.listExtendWith
  refine wpAny_bind (wpAny_typeOf (T := "zip") hTy ?_)
  have e1 : Builtin.List.listSameRef (.ref S) (.ref z) = false := by simp [Builtin.List.listSameRef, n1]
  have e2 : (Value.type "zip" == Value.type "list") = false := by decide
  have e3 : (Value.type "zip" == Value.type "tuple") = false := by decide
  simp only [e1, e2, e3, Bool.or_false, Bool.false_eq_true, if_false]
  refine wpAny_bind (wpAny_pyIter_zip (s := ⟨H2, s.gens, s.drawn, s.toks, s.os⟩) hz2 ?_)
  refine wpAny_bind (wpAny_holding ?_)
  unfold Builtin.List.listLengthHint
  refine wpAny_bind (wpAny_specialOf hTy zip_no_len ?_)
  show wpAny _ A.in1 (specialOf (Value.ref z) (Str.ofString "__length_hint__") >>= _) _ _ _
  refine wpAny_bind (wpAny_specialOf hTy zip_no_hint ?_)
  refine wpAny_pure ?_
  show wpAny _ A.in1 (rule "list.extend.makes-room" >>= fun _ => Builtin.List.listTouch (.ref S) >>= fun _ =>
    again (.builtin "list.extend.loop" ⟨[.ref S, .ref z, .none], []⟩)) _ _ _
  refine wpAny_bind (wpAny_rule ?_)
  refine wpAny_bind ?_
  show wpAny _ A.in1 (updateSeq S (·.push .none) >>= fun _ => updateSeq S (·.pop)) _ _ _
  refine wpAny_bind (wpAny_updateSeq (s := ⟨H2, s.gens, s.drawn, s.toks, s.os⟩) hS₂ rfl ?_)
  have hS₃ := Heap.get?_update_self (Obj.mapSeq (·.push Value.none)) hS₂ rfl
  refine wpAny_updateSeq (hz := by seq_fits) hS₃ rfl ?_
  have hS₄ := Heap.get?_update_self (Obj.mapSeq (·.pop)) hS₃ rfl
  generalize hH4 : (H2.update S (Obj.mapSeq (·.push Value.none))).update S (Obj.mapSeq (·.pop)) = H4 at *
  have oth2 : ∀ b o, b ≠ S → s.heap.get? b = some o → H4.get? b = some o :=
    fun b o hb e => hH4 ▸ (Heap.get?_update_other _ _ (Ne.symm hb)).trans ((Heap.get?_update_other _ _ (Ne.symm hb)).trans (oth b o hb e))
  refine wpAny_pure ⟨plainId_quiet F.plain_extend_loop _, ?_⟩
  refine zip_loop (s := s) (s0 := s.heap) D hh hSn hxy hn h0 .none ⟨_, hS⟩ ⟨_, hz⟩ (let ⟨_, _, e⟩ := hTO; ⟨_, e⟩) (let ⟨o, e, _⟩ := h1; ⟨o, e⟩) (let ⟨o, e, _⟩ := h2; ⟨o, e⟩) hR _ 0 H4 s.toks _ _ rfl (Nat.zero_le _) ?_ hS₄
  refine ⟨h1.at fun o e => oth2 _ o (Ne.symm n4) e, h2.at fun o e => oth2 _ o (Ne.symm n5) e, hl1.at fun o e => oth2 _ o (Ne.symm n6) e, hl2.at fun o e => oth2 _ o (Ne.symm n7) e, oth2 _ _ (Ne.symm n2) hTI, .inl ⟨rfl, oth2 _ _ (Ne.symm n1) hz, ?_⟩, rfl, fun j hj => absurd hj (Nat.not_lt_zero _), fun c o hc e => oth2 c o ?_ e, fun c o e => ?_⟩
  · obtain ⟨a, b, e⟩ := hTO
    exact ⟨a, b, oth2 _ _ (Ne.symm n3) e⟩
  · simp only [List.mem_cons, List.not_mem_nil, or_false, not_or] at hc
    exact hc.1
  · by_cases h : c = S
    · subst h; exact ⟨_, hS₄⟩
    · exact ⟨_, oth2 c o h e⟩
theorem zip_list {z TI TO i1 i2 l1 l2 : Addr} {xs ys : Array Value} {Q : Value → Shared → Prop} (D : ZipApart z TI TO i1 i2 l1 l2) (hh : A.handled = none) (hxy : xs.size = ys.size) (hn : xs.size ≤ sizeLine) (h0 : 0 < xs.size)
    (hz : IsZip s.heap z TI TO .none) (hTI : IsPair s.heap TI (.ref i1) (.ref i2)) (hTO : ∃ a b, IsPair s.heap TO a b) (h1 : s.heap.IsListIter i1 l1 0) (h2 : s.heap.IsListIter i2 l2 0) (hl1 : s.heap.IsList l1 xs) (hl2 : s.heap.IsList l2 ys)
    (hR : ∀ h' tk S acc' c', s.heap.get? S = none → (∀ c o, c ∉ [z, TO, i1, i2] → s.heap.get? c = some o → h'.get? c = some o) → h'.get? S = some (W.listOf acc' c') → acc'.size = xs.size →
      (∀ j, j < xs.size → ∃ (T : Addr) (x y : Value), acc'[j]? = some (.ref T) ∧ xs[j]? = some x ∧ ys[j]? = some y ∧ IsPair h' T x y ∧ s.heap.get? T = none) → Q (.ref S) { s with heap := h', toks := tk }) :
    wpAny (model prog w) A (call (.type "list") [.ref z]) Q E s := by
  refine callType_codes (Q₁ := fun obj s₁ => obj = .ref s.heap.objs.size ∧ s₁ = { s with heap := s.heap.push { cls := .type "list", data := .seq #[] } }) PySem.F.called_list (PySem.F.typeCall_list_1 _) PySem.F.entry_list_init
    (code_list_new _ ⟨rfl, rfl⟩) fun obj s₁ h₁ => ?_
  obtain ⟨rfl, rfl⟩ := h₁
  have hS : (s.heap.push { cls := .type "list", data := .seq #[] }).get? s.heap.objs.size = some { cls := .type "list", data := .seq #[] } := Heap.get?_push_size _ rfl
  have up : ∀ c o, s.heap.get? c = some o → (s.heap.push { cls := .type "list", data := .seq #[] }).get? c = some o := fun c o e => Heap.get?_push_of_some _ e
  have fr := freshOf (h := s.heap) (Nat.le_refl s.heap.objs.size)
  have nl : ∀ c, (∃ o, s.heap.get? c = some o) → s.heap.objs.size ≠ c := fun c ⟨o, e⟩ q => by rw [← q, fr] at e; cases e
  have hSn : s.heap.objs.size ∉ [z, TI, TO, i1, i2, l1, l2] := by
    simp only [List.mem_cons, List.not_mem_nil, or_false, not_or]
    exact ⟨nl _ ⟨_, hz⟩, nl _ ⟨_, hTI⟩, nl _ (let ⟨_, _, e⟩ := hTO; ⟨_, e⟩), nl _ (let ⟨o, e, _⟩ := h1; ⟨o, e⟩), nl _ (let ⟨o, e, _⟩ := h2; ⟨o, e⟩), nl _ (let ⟨o, e, _⟩ := hl1; ⟨o, e⟩), nl _ (let ⟨o, e, _⟩ := hl2; ⟨o, e⟩)⟩
  refine ⟨⟨_, hS, rfl⟩, PySem.F.args_list_init_2 _ _, zip_init (A := A.in1) (s := { s with heap := s.heap.push { cls := .type "list", data := .seq #[] } }) D hh hSn hxy hn h0 (up _ _ hz) (up _ _ hTI) (let ⟨a, b, e⟩ := hTO; ⟨a, b, up _ _ e⟩) (h1.at fun o e => up _ o e) (h2.at fun o e => up _ o e) (hl1.at fun o e => up _ o e) (hl2.at fun o e => up _ o e) hS fun h' tk acc' c' hk hS' hsz hit => ?_⟩
  refine ⟨rfl, hR h' tk _ acc' c' fr (fun c o hc e => hk c o ?_ (up _ _ e)) hS' hsz fun j hj => ?_⟩
  · simp only [List.mem_cons, List.not_mem_nil, or_false, not_or] at hc ⊢
    exact ⟨Ne.symm (nl c ⟨o, e⟩), hc⟩
  · obtain ⟨T, x, y, e1, e2, e3, e4, e5⟩ := hit j hj
    exact ⟨T, x, y, e1, e2, e3, e4, kpFresh (Kp.of up) e5⟩
/-- list(zip(a, c)) of two lists of four, on the ledger -/
theorem zip_listN {b s0 : Heap} {L : Addr} {m : Str → Option Value} {news : List (Addr × Obj)} {z TI TO i1 i2 l1 l2 : Addr} {x0 x1 x2 x3 y0 y1 y2 y3 : Value} {Q : Value → Shared → Prop} (F0 : Fr b L s0 m) (N0 : News b L s0 news) (F : Fr b L s.heap m) (N : News b L s.heap news) (D : ZipApart z TI TO i1 i2 l1 l2) (hh : A.handled = none)
    (hz : IsZip s.heap z TI TO .none) (hTI : IsPair s.heap TI (.ref i1) (.ref i2)) (hTO : ∃ a b, IsPair s.heap TO a b) (h1 : s.heap.IsListIter i1 l1 0) (h2 : s.heap.IsListIter i2 l2 0) (hl1 : s.heap.IsList l1 #[x0, x1, x2, x3]) (hl2 : s.heap.IsList l2 #[y0, y1, y2, y3])
    (fz : s0.objs.size ≤ z) (fTO : s0.objs.size ≤ TO) (f1 : s0.objs.size ≤ i1) (f2 : s0.objs.size ≤ i2)
    (ret : ∀ h' tk S T0 T1 T2 T3 c', (∀ a ∈ [S, T0, T1, T2, T3], s0.get? a = none) → (∀ c o, s0.get? c = some o → s.heap.get? c = some o → h'.get? c = some o) → Fr b L h' m → News b L h' ((S, W.listOf #[.ref T0, .ref T1, .ref T2, .ref T3] c') :: (T0, tupOf #[x0, y0]) :: (T1, tupOf #[x1, y1]) :: (T2, tupOf #[x2, y2]) :: (T3, tupOf #[x3, y3]) :: news) → Q (.ref S) { s with heap := h', toks := tk })
    (hks : ∀ c o, s0.get? c = some o → s.heap.get? c = some o) :
    wpAny (model prog w) A (call (.type "list") [.ref z]) Q E s := by
  refine zip_list (xs := #[x0, x1, x2, x3]) (ys := #[y0, y1, y2, y3]) D hh rfl (by simp [sizeLine_eq]) (by simp) hz hTI hTO h1 h2 hl1 hl2 fun h' tk S acc c' fS hk hS hsz hit => ?_
  have nz : ∀ c o, s0.get? c = some o → c ∉ [z, TO, i1, i2] := fun c o e => by
    have hc := Heap.lt_size e
    simp only [List.mem_cons, List.not_mem_nil, or_false, not_or]
    exact ⟨Nat.ne_of_lt (Nat.lt_of_lt_of_le hc fz), Nat.ne_of_lt (Nat.lt_of_lt_of_le hc fTO), Nat.ne_of_lt (Nat.lt_of_lt_of_le hc f1), Nat.ne_of_lt (Nat.lt_of_lt_of_le hc f2)⟩
  have hkk : ∀ c o, s0.get? c = some o → s.heap.get? c = some o → h'.get? c = some o := fun c o e e' => hk c o (nz c o e) e'
  obtain ⟨oL, _, _, eL, _⟩ := F0.ns
  have F' : Fr b L h' m := ⟨F.ns.at' fun o e => hk L o (nz L _ eL) e, fun c o e => hkk c o (F0.keep c o e) (F.keep c o e), F.above⟩
  have N' : News b L h' news := fun p hp => ⟨hkk _ _ (N0 p hp).1 (N p hp).1, (N p hp).2⟩
  obtain ⟨T0, x0', y0', a0, b0, c0, d0, e0⟩ := hit 0 (by simp)
  obtain ⟨T1, x1', y1', a1, b1, c1, d1, e1⟩ := hit 1 (by simp)
  obtain ⟨T2, x2', y2', a2, b2, c2, d2, e2⟩ := hit 2 (by simp)
  obtain ⟨T3, x3', y3', a3, b3, c3, d3, e3⟩ := hit 3 (by simp)
  have q0 : x0 = x0' ∧ y0 = y0' := ⟨by simpa using b0, by simpa using c0⟩
  have q1 : x1 = x1' ∧ y1 = y1' := ⟨by simpa using b1, by simpa using c1⟩
  have q2 : x2 = x2' ∧ y2 = y2' := ⟨by simpa using b2, by simpa using c2⟩
  have q3 : x3 = x3' ∧ y3 = y3' := ⟨by simpa using b3, by simpa using c3⟩
  obtain ⟨rfl, rfl⟩ := q0
  obtain ⟨rfl, rfl⟩ := q1
  obtain ⟨rfl, rfl⟩ := q2
  obtain ⟨rfl, rfl⟩ := q3
  have hacc : acc = #[.ref T0, .ref T1, .ref T2, .ref T3] := by
    apply Array.ext_getElem?
    intro j
    match j with
    | 0 => exact a0
    | 1 => exact a1
    | 2 => exact a2
    | 3 => exact a3
    | j + 4 => rw [Array.getElem?_eq_none (by rw [hsz]; simp), Array.getElem?_eq_none (by simp)]
  subst hacc
  have f0 : ∀ a, s.heap.get? a = none → s0.get? a = none := fun a ha => by
    cases q : s0.get? a with
    | none => rfl
    | some o => rw [hks a o q] at ha; cases ha
  refine ret h' tk S T0 T1 T2 T3 c' ?_ hkk F' (newsAdd F fS hS (newsAdd F e0 d0 (newsAdd F e1 d1 (newsAdd F e2 d2 (newsAdd F e3 d3 N')))))
  simp only [List.forall_mem_cons]
  exact ⟨f0 _ fS, f0 _ e0, f0 _ e1, f0 _ e2, f0 _ e3, by simp⟩
end
end Mine
end
section
open PySem PySem.W PySem.Calls PyProof.Rows Mine
local macro_rules | `(tactic| walk_at "my map") => `(tactic| (repeat (first | exact List.forall_mem_nil _ | refine List.forall_mem_cons.mpr ⟨rfl, ?_⟩)))
local macro_rules | `(tactic| walk_at "my sub2") => `(tactic| ((repeat (refine List.forall_mem_cons.mpr ⟨by k_mem, ?_⟩)); (intro q hq); repeat (first | exact hq | refine List.Mem.tail _ ?_)))
local macro_rules | `(tactic| walk_at "my lt") => `(tactic| with_reducible first | assumption | exact cj1 (by assumption) | exact cj2 (by assumption) | exact cj3 (by assumption) | exact cj4 (by assumption) | exact cj5 (by assumption) | exact cj6 (by assumption) | exact cj7 (by assumption) | exact cj8 (by assumption) | exact cj9 (by assumption) | exact ck2 (by assumption) | exact ck3 (by assumption) | exact ck4 (by assumption) | exact ck5 (by assumption) | exact ck6 (by assumption) | exact ck7 (by assumption) | exact ck8 (by assumption) | exact ck9 (by assumption) | exact ck10 (by assumption))
local macro_rules | `(tactic| k_ne) => `(tactic| (refine neN ?_; (try dsimp only); first | with_reducible assumption | exact Ne.symm (by with_reducible assumption) | exact Nat.ne_of_lt (by walk_at "my lt") | exact Nat.ne_of_gt (by walk_at "my lt") | ((repeat (rename @Ne Nat _ _ => zz; clear zz)); omega)))
local macro_rules | `(tactic| walk_at "my apart") => `(tactic| (simp only [List.forall_mem_cons]; (repeat' apply And.intro) <;> (first | exact List.forall_mem_nil _ | with_reducible assumption | k_ne)))
local macro_rules | `(tactic| k_all) => `(tactic| assumption)
local macro_rules | `(tactic| walk_at "eval ListComp") => `(tactic| (first
  | ((with_reducible show wpAny _ _ (eval (PySem.Expr.ListComp _ [⟨_, _, [_], _⟩] _ _) _) _ _ _); k_dflt (refine LCt.ListComp_T (F₀ := by k_asm) (by with_unfolding_all rfl) (by decide) (by rfl) (by decide) (by rfl) ?_))
  | ((with_reducible show wpAny _ _ (eval (PySem.Expr.ListComp _ [⟨_, _, [], _⟩] _ _) _) _ _ _); k_dflt (refine LCg.ListComp_U (F₀ := by k_asm) (by with_unfolding_all rfl) (by decide) (by rfl) (by decide) (by rfl) ?_))))
local macro_rules
  | `(tactic| walk_at "call ref") => `(tactic| refine hold ?_)
  | `(tactic| walk_at "pyIter ref") => `(tactic| refine hold ?_)
  | `(tactic| walk_at "CompSrc") => `(tactic| refine hold ?_)
  | `(tactic| walk_at "CompSrcT") => `(tactic| refine hold ?_)
  | `(tactic| walk_at "CompEnd") => `(tactic| refine hold ?_)
-- Sg1
section
open PySem PySem.W PySem.Calls PyProof.Rows
set_option maxRecDepth 100000
namespace Mine
section
local macro_rules | `(tactic| walk_at "exec For Name Name cons nil") => `(tactic| (k_dflt (refine For_invVF (by k_asm) (by rfl) (by rfl) ?_)))
set_option maxHeartbeats 3000000 in
theorem due_spec {w : World} {mean mg mb} {g : Heap} (G : Gd w mean mg mb g) {s : Shared} {dp un fr gd} {L' : Addr} {m : Str → Option Value} (hdp : dp + 50 < 1000) (hu : un + 500 < 9900)
    {rl : Addr} {rows : List Rw} {er : Nat} (hrg : g.get? rl = some (W.listOf (rows.map fun r => Value.ref r.a).toArray er)) (hrt0 : ∀ r ∈ rows, g.get? r.a = some (tupOf #[.int r.at_ r.t1, .int r.sz r.t2, .ref r.f])) (hlen : rows.length ≤ 20)
    {qs1 : List Qd} (hsub1 : qs1.Sublist (rowsQ rows)) {la1 : Option Int} (hok1 : ∀ p ∈ qs1, la1 ≠ some p.num) {gv : Value} (hgv : OptIs gv la1) {now dl : Int} {tn td : Tok}
    (hm : ∀ p ∈ [(Str.ofString "rows", Value.ref rl), (Str.ofString "delay", .int dl td), (Str.ofString "greatest", gv), (Str.ofString "now", .int now tn)], m p.1 = some p.2)
    {DL OL2 : Addr} {oO1 oD1 : Obj} {ys : List Value} {e : Nat} {rest : List (Addr × Obj)} (dO1 : oO1.data = Data.cell (some (.ref OL2))) (dD1 : oD1.data = Data.cell (some (.ref DL))) (hys : IntsAre ys (qs1.map (·.num)))
    (F : Fr g L' s.heap m) (N : News g L' s.heap ((DL, W.listOf #[] 0) :: (OL2, W.listOf ys.toArray e) :: (L' + 1, oO1) :: (L' + 1 + 1 + 1, oD1) :: rest))
    (n1 : @Ne Nat OL2 DL) (n2 : @Ne Nat (L' + 1) DL) (n3 : @Ne Nat (L' + 1 + 1 + 1) DL) (nr : ∀ q ∈ rest, q.1 ≠ DL) :
    wpAny (model Challenge.rw_sa0568_01.row.prog w) ((Ar dp un fr gd).deeper (runEnv L')) (exec (turnStmt 5) (runEnv L'))
      (fun f s' => f = .next ∧ Box (∀ CC : Prop, (∀ h' tk' m' its n, (s' = { s with heap := h', toks := tk' }) → (Fr g L' h' m') → (News g L' h' ((DL, W.listOf its n) :: (OL2, W.listOf ys.toArray e) :: (L' + 1, oO1) :: (L' + 1 + 1 + 1, oD1) :: rest)) → (IntsAre its.toList (lostQ dl qs1 la1 now)) → (∀ y, y ≠ Str.ofString "number" → m' y = m y) → CC) → CC)) (fun _ _ => False) s := by
  have KX := G.K
  have TX := G.T
  revert KX; k_fill; intro KX
  refine gen ?_
  intro QQ retG
  have hk : turnStmt 5 = turnStmt 5 := rfl
  conv at hk => rhs; whnf
  rw [hk]; clear hk
  have he : runEnv L' = runEnv L' := rfl
  conv at he => rhs; unfold runEnv
  have hs : fdScope runFd = fdScope runFd := rfl
  conv at hs => rhs; whnf
  rw [hs] at he
  rw [he]; clear he hs
  obtain ⟨u, hmu⟩ := map_list _ hm
  subst hmu
  (try dsimp only); (try k_fold)
  k_dflt (refine For_invVF F (by rfl) (by rfl) ?_)
  k_steps
  unfold Hold
  have hL2 : @Ne Nat OL2 L' := (N (OL2, _) (by k_mem)).2.1
  refine loopList rfl (N (OL2, _) (by k_mem)).1 F N (Ne.symm hL2)
    (fun i m' news => ∀ CC : Prop, (∀ its n, (∀ y, y ≠ Str.ofString "number" → m' y = (([(Str.ofString "rows", Value.ref rl), (Str.ofString "delay", .int dl td), (Str.ofString "greatest", gv), (Str.ofString "now", .int now tn)].lookup y).or (u y))) → (IntsAre its.toList (((qs1.take i).filter (qLost la1 now dl)).map (·.num))) → (news = (DL, W.listOf its n) :: (OL2, W.listOf ys.toArray e) :: (L' + 1, oO1) :: (L' + 1 + 1 + 1, oD1) :: rest) → CC) → CC)
    (fun CC kk => kk #[] 0 (fun y _ => rfl) .nil rfl) (by intro i m' nw q; refine q _ ?_; intro _ _ _ _ e; subst e; exact .inr (by k_mem)) ?turn ?done
  case turn =>
    intro i v m₁ news₁ I2 oI2 hh2 tk3 hv HG1 off2 F3 N3
    refine gen ?_
    intro QG finG
    refine HG1 _ ?_
    intro its ne hm1 hits eq101
    subst eq101
    obtain ⟨hlt', t9, rfl⟩ := ints_at hys (show ys[i]? = some v by simpa using hv)
    have hml : ∀ p ∈ [(Str.ofString "rows", Value.ref rl), (Str.ofString "delay", .int dl td), (Str.ofString "greatest", gv), (Str.ofString "now", .int now tn)], m₁ p.1 = some p.2 := by
      simp only [List.forall_mem_cons]
      exact ⟨(hm1 _ (by decide)).trans rfl, (hm1 _ (by decide)).trans rfl, (hm1 _ (by decide)).trans rfl, (hm1 _ (by decide)).trans rfl, by simp⟩
    obtain ⟨u3, hmu⟩ := map_list _ hml
    subst hmu
    clear F N hml
    have hiq : i < qs1.length := by simpa using hlt'
    have og1 : @Ne Nat I2 DL := Ne.symm (off2 (DL, W.listOf its ne) (.head _))
    have hst2 := take_filter_succ (qLost la1 now dl) qs1 i hiq
    simp only [List.getElem_map] at F3 ⊢
    obtain ⟨j, hj, hpj1, hpj2, _, _⟩ := rowsQ_mem (hsub1.subset (List.getElem_mem hiq))
    have hsz : its.size ≤ sizeLine := by
      have h1 := hits.length
      have h2 := hsub1.length_le
      rw [rowsQ_length] at h2
      have h3 := List.length_filter_le (qLost la1 now dl) (qs1.take i)
      simp only [List.length_map, List.length_take, Array.length_toList] at h1 h3
      simp only [sizeLine_eq]; omega
    have off3 : ∀ q ∈ (DL, W.listOf (its.push (.int (qs1[i]).num t9)) (ne + 1)) :: (OL2, W.listOf ys.toArray e) :: (L' + 1, oO1) :: (L' + 1 + 1 + 1, oD1) :: rest, q.1 ≠ I2 := by
      simp only [List.forall_mem_cons] at off2 ⊢; exact off2
    have hne1 := hok1 qs1[i] (List.getElem_mem hiq)
    have hrt := hrt0 rows[j] (List.getElem_mem hj)
    generalize hpi2 : qs1[i] = pk at *
    have hend : ∀ y, y ≠ Str.ofString "number" → (fun y => if y = Str.ofString "number" then some (Value.int pk.num t9) else (([(Str.ofString "rows", Value.ref rl), (Str.ofString "delay", .int dl td), (Str.ofString "greatest", gv), (Str.ofString "now", .int now tn)].lookup y).or (u3 y))) y = (([(Str.ofString "rows", Value.ref rl), (Str.ofString "delay", .int dl td), (Str.ofString "greatest", gv), (Str.ofString "now", .int now tn)].lookup y).or (u y)) := fun y hy => by
      dsimp only; rw [if_neg hy]; exact hm1 y hy
    cases la1 with
    | none =>
      have e : gv = .none := hgv
      subst e
      (try dsimp only); (try k_fold)
      k_steps
      refine finG _ _ ?_
      (try dsimp only)
      refine MyEnd.intro F3 N3 _ (fun p hp => hp) off2 (fun CC kk => kk its ne hend ?_ rfl)
      rw [hst2, if_neg (by simp [qLost]), List.append_nil]; exact hits
    | some G1 =>
      obtain ⟨tg, e⟩ := hgv
      subst e
      have hneG : G1 ≠ pk.num := fun e => hne1 (by rw [e])
      (try dsimp only); (try k_fold)
      k_steps
      · rename Fr _ _ _ _ => F5
        rename News _ _ _ _ => N5
        refine finG _ _ ?_
        (try dsimp only)
        refine MyEnd.intro F5 N5 _ (fun p hp => hp) off3 (fun CC kk => kk (its.push (.int pk.num t9)) (ne + 1) hend ?_ rfl)
        rw [hst2, if_pos (by simp only [qLost, Bool.and_eq_true, decide_eq_true_eq]; omega), List.map_append, Array.toList_push]
        exact hits.append (.cons _ _ .nil)
      · refine itemRef ⟨_, F3.keep _ _ hrg, rfl, _, rfl⟩ (by omega) (by omega) (x := .ref (rows[j]).a) (by simp [hpj1, List.getElem?_eq_getElem hj]) ?_
        k_steps
        refine item_tupleT ⟨_, F3.keep _ _ hrt, rfl, _, rfl⟩ (by decide) (by decide) rfl rfl ?_
        k_steps
        · rename Fr _ _ _ _ => F5
          rename News _ _ _ _ => N5
          refine finG _ _ ?_
          (try dsimp only)
          refine MyEnd.intro F5 N5 _ (fun p hp => hp) off3 (fun CC kk => kk (its.push (.int pk.num t9)) (ne + 1) hend ?_ rfl)
          rw [hst2, if_pos (by simp only [qLost, Bool.and_eq_true, decide_eq_true_eq]; omega), List.map_append, Array.toList_push]
          exact hits.append (.cons _ _ .nil)
        · refine finG _ _ ?_
          (try dsimp only)
          refine MyEnd.intro F3 N3 _ (fun p hp => hp) off2 (fun CC kk => kk its ne hend ?_ rfl)
          rw [hst2, if_neg (by simp only [qLost, Bool.and_eq_true, decide_eq_true_eq]; omega), List.append_nil]; exact hits
      · refine finG _ _ ?_
        (try dsimp only)
        refine MyEnd.intro F3 N3 _ (fun p hp => hp) off2 (fun CC kk => kk its ne hend ?_ rfl)
        rw [hst2, if_neg (by simp only [qLost, Bool.and_eq_true, decide_eq_true_eq]; omega), List.append_nil]; exact hits
  case done =>
    intro m₁ news₁ hh2 tk3 hh102 F3 N3
    refine hh102 _ ?_
    intro its ne hm1 hits eq103
    subst eq103
    rw [List.take_of_length_le (by simp [hys.length])] at hits
    refine retG _ _ ⟨rfl, .mk fun CC kk => kk _ _ m₁ its ne rfl F3 N3 hits hm1⟩
end
end Mine
end
-- Sg2
section
open PySem PySem.W PySem.Calls PyProof.Rows
set_option maxRecDepth 100000
namespace Mine
theorem RowsIn.kp {w : World} {h h' : Heap} {D : Addr} {ps : List Pk} (R : RowsIn w h D ps) (k : Kp [] h h') : RowsIn w h' D ps :=
  let ⟨rs, e, hm, hr⟩ := R.ex
  ⟨⟨rs, dictKp e fun o q => k.all _ _ q, hm, fun i hi => let ⟨a, t, e1, e2⟩ := hr i hi; ⟨a, t, e1, k.all _ _ e2⟩⟩, R.sys⟩
theorem find_nums {ps : List Pk} : ∀ {l : List Int}, (∀ k ∈ l, k ∈ ps.map (·.num)) → ((l.filterMap fun k => ps.find? fun p => decide (p.num = k)).map (·.num)) = l
  | [], _ => rfl
  | k :: r, h => by
    obtain ⟨p, hp, hk⟩ := List.mem_map.mp (h k (.head _))
    have hs : (ps.find? fun p => decide (p.num = k)).isSome := List.find?_isSome.mpr ⟨p, hp, by simpa using hk⟩
    obtain ⟨q, hq⟩ := Option.isSome_iff_exists.mp hs
    have hqn : q.num = k := by simpa using List.find?_some hq
    rw [List.filterMap_cons, hq]
    simp only [List.map_cons, hqn]
    rw [find_nums fun k' hk' => h k' (.tail _ hk')]
/-- an address that is none of the frame's cells -/
structure OffC (L a : Addr) : Prop where
  c1 : @Ne Nat (L + 1) a
  c2 : @Ne Nat (L + 1 + 1) a
  c3 : @Ne Nat (L + 1 + 1 + 1) a
theorem OptIs.handed {v : Value} {a : Option Int} (h : OptIs v a) : handedIn v = true := by
  cases a with
  | none => have e : v = .none := h; subst e; rfl
  | some i => obtain ⟨t, e⟩ := h; subst e; rfl
section
local macro_rules
  | `(tactic| walk_at "my sub") => `(tactic| (intro q hq; repeat (first | exact hq | refine List.Mem.tail _ ?_)))
local macro_rules
  | `(tactic| walk_at "compareOp NotEq ref ref") => `(tactic| (refine hold ?_))
  | `(tactic| walk_at "binaryOp Add ref ref") => `(tactic| (refine hold ?_))
  | `(tactic| walk_at "compareOp NotIn int ref") => `(tactic| (refine hold ?_))
set_option maxHeartbeats 3000000 in
theorem tail_spec {w : World} {mean mg mb} {b g : Heap} (G0 : Gd w mean mg mb b) (kbg : Kp [] b g) (G : Gd w mean mg mb g) {s : Shared} {dp un fr gd} {L' : Addr} {m : Str → Option Value} (hdp : dp + 50 < 1000) (hu : un + 500 < 9900)
    {x dx sd : Addr} {la1 : Option Int} {lav : Value} {od : Obj} {ps1 : List Pk} {TP : List (Addr × Obj)} {t : Nat → Nat} {nn : Int} {i0 : Tok} {le : Value} {r : Nat → Value} (P : Pl w x dx sd la1 lav od ps1 TP)
    {qs1 : List Qd} (hq : ps1.map Pk.q = qs1) (hasc : (qs1.map (·.num)).Pairwise (· < ·)) (hlen : qs1.length ≤ 20) {now dl : Int} {tn td : Tok} {rl pl : Addr} {gv : Value} {goneN : List Int} (hgl : goneN.length < 10000)
    {DL OL2 GL I : Addr} {oO1 oD1 oN1 oI : Obj} {ys vsG : List Value} {its : Array Value} {n e eG : Nat} {vN : Option Value} (dO1 : oO1.data = Data.cell (some (.ref OL2))) (dD1 : oD1.data = Data.cell (some (.ref DL))) (dN1 : oN1.data = Data.cell vN)
    (hys : IntsAre ys (qs1.map (·.num))) (hits : IntsAre its.toList (lostQ dl qs1 la1 now)) (hG : IntsAre vsG goneN)
    (hm : ∀ p ∈ [(Str.ofString "rows", Value.ref rl), (Str.ofString "parts", Value.ref pl), (Str.ofString "delay", .int dl td), (Str.ofString "place", .ref x), (Str.ofString "gone", .ref GL), (Str.ofString "greatest", gv), (Str.ofString "now", .int now tn)], m p.1 = some p.2)
    (F : Fr g L' s.heap m) (N : News g L' s.heap ((DL, W.listOf its n) :: (I, oI) :: (L' + 1, oO1) :: (L' + 1 + 1, oN1) :: (L' + 1 + 1 + 1, oD1) :: (OL2, W.listOf ys.toArray e) :: (GL, W.listOf vsG.toArray eG) :: (x, instObj 235 dx) :: (dx, spD w t (.int nn i0) (.ref sd) lav le r) :: (sd, od) :: TP))
    (hT1 : ∀ q ∈ TP, q.1 ≠ L' + 1) (hT2 : ∀ q ∈ TP, q.1 ≠ L' + 1 + 1) (hT3 : ∀ q ∈ TP, q.1 ≠ L' + 1 + 1 + 1) (hTI : ∀ q ∈ TP, q.1 ≠ I)
    (oX : ∀ q ∈ [(DL, W.listOf its n), (I, oI), (L' + 1, oO1), (L' + 1 + 1, oN1), (L' + 1 + 1 + 1, oD1), (OL2, W.listOf ys.toArray e), (GL, W.listOf vsG.toArray eG)], q.1 ∉ [x, dx, sd])
    (iX : ∀ q ∈ [(DL, W.listOf its n), (L' + 1, oO1), (L' + 1 + 1, oN1), (L' + 1 + 1 + 1, oD1), (OL2, W.listOf ys.toArray e), (GL, W.listOf vsG.toArray eG), (x, instObj 235 dx), (dx, spD w t (.int nn i0) (.ref sd) lav le r), (sd, od)], q.1 ≠ I)
    (neO : @Ne Nat (L' + 1) OL2) (neG : @Ne Nat (L' + 1) GL) (neD : @Ne Nat (L' + 1) DL) :
    wpAny (model Challenge.rw_sa0568_01.row.prog w) ((Ar dp un fr gd).deeper (runEnv L')) (execs [turnStmt 6, turnStmt 7, turnStmt 8] (runEnv L'))
      (fun f s' => f = .next ∧ Box (∀ CC : Prop, (∀ h' tk' m' t' i0' lav' le' r' od' TP' oO2 OL3 vs3 e3 GL3 vsG3 eG3 lv, (s' = { s with heap := h', toks := tk' }) → (Fr g L' h' m') → (News g L' h' ((I, oI) :: (L' + 1, oO2) :: (L' + 1 + 1, oN1) :: (L' + 1 + 1 + 1, oD1) :: (OL3, W.listOf vs3.toArray e3) :: (GL3, W.listOf vsG3.toArray eG3) :: (x, instObj 235 dx) :: (dx, spD w t' (.int nn i0') (.ref sd) lav' le' r') :: (sd, od') :: TP')) → (Pl w x dx sd la1 lav' od' (ps1.filter fun p => decide (p.num ∉ lostQ dl qs1 la1 now)) TP') → (oO2.data = Data.cell (some (.ref OL3))) → (IntsAre vs3 ((afterQ qs1 (lostQ dl qs1 la1 now)).map (·.num))) → (IntsAre vsG3 (goneN ++ lostQ dl qs1 la1 now)) → (OptIs lv (qs1.foldl (qLater la1 now dl) none)) → (∀ q ∈ TP', q.1 ≠ L' + 1) → (∀ q ∈ TP', q.1 ≠ L' + 1 + 1) → (∀ q ∈ TP', q.1 ≠ L' + 1 + 1 + 1) → (∀ q ∈ TP', q.1 ≠ I) → (OffC L' OL3) → (OffC L' GL3) → (OL3 ≠ I) → (GL3 ≠ I) → (∀ p ∈ [(Str.ofString "rows", Value.ref rl), (Str.ofString "parts", Value.ref pl), (Str.ofString "delay", .int dl td), (Str.ofString "place", .ref x), (Str.ofString "gone", .ref GL3), (Str.ofString "greatest", gv), (Str.ofString "later", lv)], m' p.1 = some p.2) → CC) → CC)) (fun _ _ => False) s := by
  have KX := G.K
  have TX := G.T
  revert KX; k_fill; intro KX
  refine gen ?_
  intro QQ retG
  have hk : turnStmt 6 = turnStmt 6 := rfl
  conv at hk => rhs; whnf
  rw [hk]; clear hk
  have hk : turnStmt 7 = turnStmt 7 := rfl
  conv at hk => rhs; whnf
  rw [hk]; clear hk
  have hk : turnStmt 8 = turnStmt 8 := rfl
  conv at hk => rhs; whnf
  rw [hk]; clear hk
  have he : runEnv L' = runEnv L' := rfl
  conv at he => rhs; unfold runEnv
  have hs : fdScope runFd = fdScope runFd := rfl
  conv at hs => rhs; whnf
  rw [hs] at he
  rw [he]; clear he hs
  obtain ⟨u, hmu⟩ := map_list _ hm
  subst hmu
  clear hm
  have hnum := map_num hq
  (try dsimp only); (try k_fold)
  k_steps
  unfold Hold
  rename Fr _ _ _ _ => F1
  rename News _ _ _ _ => N1
  have hps1 : ps1.length ≤ 20 := by have := congrArg List.length hq; simp only [List.length_map] at this; omega
  have hasc1 : (ps1.map (·.num)).Pairwise (· < ·) := hnum ▸ hasc
  have S1 := P.sp kbg N1 (by walk_at "my sub")
  refine sent_rows_spec G0 (kbg.trans (frKp F1)) (room (d := dp) (n := 1000) (a := 21) (by assumption) (by decide)) S1 (by omega) (hasc1.imp fun h => Int.ne_of_lt h) ?_
  intro h2 tk2 D rs k2 fD sysD hrm hrd hrow
  try dsimp only at k2 fD hrow
  have R2 : RowsIn w h2 D ps1 := ⟨⟨rs, hrd, hrm, fun i hi => let ⟨a, t, e1, e2, _⟩ := hrow i hi; ⟨a, t, e1, e2⟩⟩, sysD⟩
  have F2 := F1.keeps k2.all
  have N2 := N1.grown k2.all
  clear F1 N1 S1 hrow hrd hrm
  (try dsimp only)
  k_steps
  rename Fr _ _ _ _ => F3
  rename News _ _ _ _ => N3
  k_dflt (refine' get_own F3 KX ⟨(N3 (x, instObj 235 dx) (by k_mem)).1, rfl, rfl, (N3 (dx, _) (by k_mem)).1⟩ ?k4 ?k5 ?k6 ?k7 ?k8 ?k9 ?_; (case k4 => k_is); (case k5 => k_is); (case k6 => k_is); (case k7 => k_is); (case k8 => k_get); (case k9 => exact P.ol.handed))
  k_steps
  unfold Hold
  rename Fr _ _ _ _ => F4
  rename News _ _ _ _ => N4
  refine detect_spec G0 (kbg.trans (frKp F4)) (room (d := dp) (n := 1000) (a := 21) (by assumption) (by decide)) (R2.kp (Kp.refl _ _)) P.ol (by omega) hasc1 ?_
  intro h5 tk5 T lo vs5 e5 lv k5 fT flo ltT eT elo hL5 hlv
  rw [lostPs hq] at hL5
  rw [laterPs hq] at hlv
  (try dsimp only at k5 fT flo)
  have F5 := F4.keeps k5.all
  have N5 := newsAdd F4 flo elo (N4.grown k5.all)
  have N6 := newsAdd F4 fT eT N5
  clear F4 N4 N5
  (try dsimp only)
  k_steps
  unfold Hold
  rename Fr _ _ _ _ => F7
  rename News _ _ _ _ => N7
  have hun : (Ar dp un fr gd).units + 3 + 64 < cLine := by show un + 3 + 64 < cLine; simp only [cLine]; omega
  refine ke_ne_ints ⟨_, (N7 (lo, _) (by k_mem)).1, rfl, _, rfl⟩ ⟨_, (N7 (DL, _) (by k_mem)).1, rfl, _, rfl⟩ hL5 (by simpa using hits) hun ?_
  rw [decide_eq_true rfl]
  (try dsimp only)
  k_steps
  unfold Hold
  have S7 := P.sp kbg N7 (by walk_at "my sub")
  have hlost : (lostQ dl qs1 la1 now).Pairwise (· < ·) := hasc.sublist (List.filter_sublist.map _)
  have hlostn : (lostQ dl qs1 la1 now).length ≤ 20 := by unfold lostQ; rw [List.length_map]; exact Nat.le_trans (List.length_filter_le _ _) hlen
  refine take_spec2 G0 (kbg.trans (frKp F7)) (room (d := dp) (n := 1000) (a := 21) (by assumption) (by decide)) S7 (N7 (lo, _) (by k_mem)).1 hL5 hlost (by omega) (by omega) ?_
  intro h8 tk8 D8 e8 k8 f8 g8 S8
  (try dsimp only at k8 f8)
  have oX2 : ∀ q ∈ [(lo, W.listOf vs5.toArray e5), (DL, W.listOf its n), (I, oI), (L' + 1, oO1), (L' + 1 + 1, oN1), (L' + 1 + 1 + 1, oD1), (OL2, W.listOf ys.toArray e), (GL, W.listOf vsG.toArray eG)], q.1 ∉ [x, dx, sd] :=
    List.forall_mem_cons.mpr ⟨S7.off (N7 (lo, _) (by k_mem)).1 (by simp) (by simp), oX⟩
  refine P.next F7 N7 (by walk_at "my sub") (X := [(lo, W.listOf vs5.toArray e5), (DL, W.listOf its n), (I, oI), (L' + 1, oO1), (L' + 1 + 1, oN1), (L' + 1 + 1 + 1, oD1), (OL2, W.listOf ys.toArray e), (GL, W.listOf vsG.toArray eG)]) (by lcg_sub) oX2 k8 S8 (fun p hp => .inl (List.mem_filter.mp hp).1) ?_
  intro t9 i9 lav9 le9 r9 od9x TP9 P9 F9 N9 old9 sub9
  simp only [List.cons_append, List.nil_append] at N9
  have hT1' := P.old old9 hT1 (N7 (L' + 1, oO1) (by k_mem)).1
  have hT2' := P.old old9 hT2 (N7 (L' + 1 + 1, oN1) (by k_mem)).1
  have hT3' := P.old old9 hT3 (N7 (L' + 1 + 1 + 1, oD1) (by k_mem)).1
  have hTI' := P.old old9 hTI (N7 (I, oI) (by k_mem)).1
  have N10 := newsAdd F7 f8 g8 N9
  have ne8 : @Ne Nat D8 lo ∧ @Ne Nat D8 DL ∧ @Ne Nat D8 I ∧ @Ne Nat D8 (L' + 1) ∧ @Ne Nat D8 (L' + 1 + 1) ∧ @Ne Nat D8 (L' + 1 + 1 + 1) := ⟨Ne.symm (neOf (N7 (lo, _) (by k_mem)).1 f8), Ne.symm (neOf (N7 (DL, _) (by k_mem)).1 f8), Ne.symm (neOf (N7 (I, _) (by k_mem)).1 f8), Ne.symm (neOf (N7 (L' + 1, _) (by k_mem)).1 f8), Ne.symm (neOf (N7 (L' + 1 + 1, _) (by k_mem)).1 f8), Ne.symm (neOf (N7 (L' + 1 + 1 + 1, _) (by k_mem)).1 f8)⟩
  clear F7 N7 S7 N9 S8
  (try dsimp only)
  k_steps
  unfold Hold
  rename Fr _ _ _ _ => F11
  rename News _ _ _ _ => N11
  obtain ⟨told, htold⟩ : ∃ told, told = (lostQ dl qs1 la1 now).filterMap fun k => ps1.find? fun p => decide (p.num = k) := ⟨_, rfl⟩
  rw [← htold] at N11
  have htp : ∀ p ∈ told, p ∈ ps1 := fun p hp => by
    rw [htold] at hp
    obtain ⟨k, _, hk⟩ := List.mem_filterMap.mp hp
    exact List.mem_of_find?_eq_some hk
  have htn : told.map (·.num) = lostQ dl qs1 la1 now := by
    rw [htold]
    refine find_nums fun k hk => ?_
    rw [hnum]
    exact (List.filter_sublist.map _).subset hk
  have htl : told.length ≤ 20 := by have := congrArg List.length htn; simp only [List.length_map] at this; omega
  refine LCg.CompSrc.ledger rfl F11 N11 (by k_mem) (by simp only [List.size_toArray, List.length_map, sizeLine_eq]; omega) ?_
  intro g3
  refine compU_ind (fun i ys' news => IntsAre ys' ((told.take i).map (·.num)) ∧ news = (D8, W.listOf (told.map fun p => Value.ref p.a).toArray e8) :: (lo, W.listOf vs5.toArray e5) :: (DL, W.listOf its n) :: (I, oI) :: (L' + 1, oO1) :: (L' + 1 + 1, oN1) :: (L' + 1 + 1 + 1, oD1) :: (OL2, W.listOf ys.toArray e) :: (GL, W.listOf vsG.toArray eG) :: (x, instObj 235 dx) :: (dx, spD w t9 (.int nn i9) (.ref sd) lav9 le9 r9) :: (sd, od9x) :: TP9) _ ?step ?fin _ 0 [] _ (Nat.zero_add _) ⟨.nil, rfl⟩
  case step =>
    intro j ys' news hj HG1 v I2 oI2 C oC D2 m₂ hh tk2 E' hv hC hx F2 N2 off2 ne
    refine gen ?_
    intro QG finG
    obtain ⟨hys', rfl⟩ := HG1
    have hjt : j < told.length := by simpa using hj
    have ev : v = .ref (told[j]).a := by simpa [List.getElem?_eq_getElem hjt] using hv.symm
    subst ev
    obtain ⟨y1, tt, tt1, tt2, tt3, y2⟩ := P.tp told[j] (htp _ (List.getElem_mem hjt))
    replace y1 := sub9 _ y1
    replace y2 := sub9 _ y2
    generalize hpj : told[j] = pj at *
    clear F11 N11
    (try dsimp only)
    k_steps
    have z1 := (N2 (pj.a, instObj 92 pj.d) (by repeat (first | exact y1 | refine List.Mem.tail _ ?_))).1
    have z2 := (N2 (pj.d, pkD w tt (.int pj.num tt1) (.int pj.at_ tt2) (.int pj.sz tt3) (.ref pj.f) (.bool pj.ping) (.bool pj.ping)) (by repeat (first | exact y2 | refine List.Mem.tail _ ?_))).1
    k_dflt (refine' get_own F2 KX ⟨z1, rfl, rfl, z2⟩ ?k4 ?k5 ?k6 ?k7 ?k8 ?k9 ?_; (case k4 => k_is); (case k5 => k_is); (case k6 => k_is); (case k7 => k_is); (case k8 => k_get); (case k9 => k_handed))
    k_steps
    refine finG _ _ ?_
    (try dsimp only); (try simp only [Bool.false_eq_true, ↓reduceIte])
    (try k_steps)
    (try unfold Hold)
    refine LCg.CompEnd.intro F2 N2 _ (fun p hp => hp) off2 (.inr ⟨_, .head _, rfl, _, rfl⟩) ⟨?_, rfl⟩
    rw [← take_map_succ _ told j hjt, hpj]
    exact hys'.append (.cons _ _ .nil)
  case fin =>
    rintro ys' news ⟨hys', rfl⟩ D2 hh tk2 F2 N2 off2
    rw [List.take_of_length_le (by simp), htn] at hys'
    clear F11 N11
    simp only [LCg.Off1] at off2
    (try dsimp only)
    k_steps
    unfold Hold
    refine ke_ne_ints ⟨_, (N2 (D2, _) (by k_mem)).1, rfl, _, rfl⟩ ⟨_, (N2 (DL, _) (by k_mem)).1, rfl, _, rfl⟩ hys' (by simpa using hits) hun ?_
    rw [decide_eq_true rfl]
    have N12 := newsSub (tl' := (DL, W.listOf its n) :: (I, oI) :: (L' + 1, oO1) :: (L' + 1 + 1, oN1) :: (L' + 1 + 1 + 1, oD1) :: (OL2, W.listOf ys.toArray e) :: (GL, W.listOf vsG.toArray eG) :: (x, instObj 235 dx) :: (dx, spD w t9 (.int nn i9) (.ref sd) lav9 le9 r9) :: (sd, od9x) :: TP9) N2 (fun q hq => .tail _ (.tail _ (.tail _ hq)))
    clear N2 hys' off2
    (try dsimp only)
    k_steps
    unfold Hold
    rename Fr _ _ _ _ => F13
    rename News _ _ _ _ => N13
    refine LCt.CompSrcT.ledger rfl F13 N13 (ax := OL2) (by k_mem) (by simp only [List.size_toArray, hys.length, List.length_map, sizeLine_eq]; omega) ?_
    intro g5
    refine compT_ind (fun i ys2 news => IntsAre ys2 (((qs1.map (·.num)).take i).filter fun k => !((lostQ dl qs1 la1 now).any (· == k))) ∧ news = (DL, W.listOf its n) :: (I, oI) :: (L' + 1, oO1) :: (L' + 1 + 1, oN1) :: (L' + 1 + 1 + 1, oD1) :: (OL2, W.listOf ys.toArray e) :: (GL, W.listOf vsG.toArray eG) :: (x, instObj 235 dx) :: (dx, spD w t9 (.int nn i9) (.ref sd) lav9 le9 r9) :: (sd, od9x) :: TP9) _ ?step ?fin _ 0 [] _ (Nat.zero_add _) ⟨.nil, rfl⟩
    case step =>
      intro j ys2 news hj HG1 v I2 oI2 C oC D3 m₂ hh tk2 E' hv hC hx F2 N2 off2 ne
      refine gen ?_
      intro QG finG
      obtain ⟨hys2, rfl⟩ := HG1
      obtain ⟨hlt', t9', rfl⟩ := ints_at hys (show ys[j]? = some v by simpa using hv)
      have hstep := take_filter_succ (fun k => !((lostQ dl qs1 la1 now).any (· == k))) (qs1.map (·.num)) j hlt'
      clear F13 N13
      (try dsimp only)
      k_steps
      unfold Hold
      refine notin_list_ints ⟨_, (N2 (DL, _) (by k_mem)).1, rfl, _, rfl⟩ (by simpa using hits) ?_
      generalize hbb : (!((lostQ dl qs1 la1 now).any (· == (qs1.map (·.num))[j]))) = bb at hstep ⊢
      cases bb
      · (try dsimp only)
        k_steps
        refine finG _ _ ?_
        (try dsimp only); (try simp only [Bool.false_eq_true, ↓reduceIte])
        (try k_steps)
        (try unfold Hold)
        refine LCg.CompEnd.intro F2 N2 _ (fun p hp => hp) off2 (.inr ⟨_, (by k_mem : (OL2, W.listOf ys.toArray e) ∈ _), rfl, _, rfl⟩) ⟨?_, rfl⟩
        rw [hstep]; simpa using hys2
      · (try dsimp only)
        k_steps
        refine finG _ _ ?_
        (try dsimp only); (try simp only [Bool.false_eq_true, ↓reduceIte])
        (try k_steps)
        (try unfold Hold)
        refine LCg.CompEnd.intro F2 N2 _ (fun p hp => hp) off2 (.inr ⟨_, (by k_mem : (OL2, W.listOf ys.toArray e) ∈ _), rfl, _, rfl⟩) ⟨?_, rfl⟩
        rw [hstep]; exact hys2.append (.cons _ _ .nil)
    case fin =>
      rintro ys2 news ⟨hys2, rfl⟩ OL3 hh tk2 F2 N2 off2
      rw [List.take_of_length_le (by simp [hys.length]), afterQ_num] at hys2
      clear F13 N13
      (try dsimp only)
      k_steps
      unfold Hold
      rename Fr _ _ _ _ => F14
      rename News _ _ _ _ => N14
      refine add_lists_ints (vs := vsG) (ws := its.toList) (ns := goneN) (ms := lostQ dl qs1 la1 now) F14 N14 ⟨_, (N14 (GL, _) (by k_mem)).1, rfl, _, rfl⟩ ⟨_, (N14 (DL, _) (by k_mem)).1, rfl, _, rfl⟩ hG hits ?_ (by have := hits.length; have := hG.length; simp only [sizeLine_eq]; omega)
      intro h15 F15 N15 hI15
      have hlt15 := fun p hp => ltN (Heap.lt_size (N14 p hp).1)
      have g1 := hlt15 (I, oI) (by k_mem)
      have g2 := hlt15 (L' + 1, oO1) (by k_mem)
      have g3 := hlt15 (L' + 1 + 1, oN1) (by k_mem)
      have g4 := hlt15 (L' + 1 + 1 + 1, oD1) (by k_mem)
      have g6 := fun q hq => hlt15 q (.tail _ (.tail _ (.tail _ (.tail _ (.tail _ (.tail _ (.tail _ (.tail _ (.tail _ (.tail _ (.tail _ hq)))))))))))
      clear hlt15 F14 N14
      replace N15 : News g L' h15 ((hh.objs.size, W.listOf (vsG ++ its.toList).toArray 0) :: _) := N15
      (try dsimp only at g1 g2 g3 g4 g6)
      (try dsimp only)
      generalize hh.objs.size = GL3 at N15 g1 g2 g3 g4 g6 ⊢
      simp only [LCg.Off1] at off2
      obtain ⟨od1, od2, od3, od4, od5, od6, od7', od8, od9, od10, od11⟩ := off2
      replace od2 : @Ne Nat I OL3 := od2
      replace od3 : @Ne Nat (L' + 1) OL3 := od3
      replace od4 : @Ne Nat (L' + 1 + 1) OL3 := od4
      replace od5 : @Ne Nat (L' + 1 + 1 + 1) OL3 := od5
      have cG : OffC L' GL3 := ⟨Nat.ne_of_lt g2, Nat.ne_of_lt g3, Nat.ne_of_lt g4⟩
      have cO : OffC L' OL3 := ⟨od3, od4, od5⟩
      have nx := oX (L' + 1, oO1) (by k_mem)
      simp only [List.mem_cons, List.not_mem_nil, or_false, not_or] at nx
      have nx1 : @Ne Nat (L' + 1) x := nx.1
      have nx2 : @Ne Nat (L' + 1) dx := nx.2.1
      have nx3 : @Ne Nat (L' + 1) sd := nx.2.2
      have nI1 : @Ne Nat (L' + 1) I := iX (L' + 1, oO1) (by k_mem)
      have nG1 : @Ne Nat (L' + 1) GL3 := cG.c1
      clear od1 od6 od7' od8 od9 od10 od11 nx
      k_steps
      rename Fr _ _ _ _ => F17
      rename News _ _ _ _ => N17
      rename Obj.data _ = Data.cell (some (Value.ref OL3)) => dO3
      rename Obj => oO3
      refine retG _ _ ⟨rfl, .mk fun CC kk => kk _ _ _ t9 i9 lav9 le9 r9 od9x TP9 oO3 OL3 ys2 ys2.length GL3 (vsG ++ its.toList) 0 lv rfl F17 (newsSub N17 ?_) P9 dO3 hys2 hI15 hlv hT1' hT2' hT3' hTI' cO cG (Ne.symm od2) (Ne.symm (Nat.ne_of_lt g1)) (by walk_at "my map")⟩
      iterate 9 (refine List.forall_mem_cons.mpr ⟨by k_mem, ?_⟩)
      intro q hq
      repeat (first | exact hq | refine List.Mem.tail _ ?_)
end
end Mine
end
-- Sg3
section
open PySem PySem.W PySem.Calls PyProof.Rows
set_option maxRecDepth 100000
namespace Mine
section
local macro_rules
  | `(tactic| walk_at "my sub") => `(tactic| (intro q hq; repeat (first | exact hq | refine List.Mem.tail _ ?_)))
  | `(tactic| walk_at "compareOp NotEq ref ref") => `(tactic| (refine hold ?_))
  | `(tactic| walk_at "call builtin:sorted") => `(tactic| (refine hold ?_))
set_option maxHeartbeats 3000000 in
theorem end_spec {w : World} {mean mg mb} {b g : Heap} (G0 : Gd w mean mg mb b) (kbg : Kp [] b g) (G : Gd w mean mg mb g) {s : Shared} {dp un fr gd} {L' : Addr} {m : Str → Option Value} (hdp : dp + 50 < 1000) (hu : un + 500 < 9900)
    {x dx sd : Addr} {la1 : Option Int} {lav : Value} {od : Obj} {ps1 : List Pk} {TP : List (Addr × Obj)} {t : Nat → Nat} {nn : Int} {i0 : Tok} {le : Value} {r : Nat → Value} (P : Pl w x dx sd la1 lav od ps1 TP)
    (hasc : (ps1.map (·.num)).Pairwise (· < ·)) (hlen : ps1.length ≤ 20)
    {OL GL : Addr} {oO oD oN : Obj} {vsO vsG : List Value} {eO eG : Nat} {lv : Value} (dO : oO.data = Data.cell (some (.ref OL))) (hIO : IntsAre vsO (ps1.map (·.num))) (hlv : handedIn lv = true)
    (hm : ∀ p ∈ [(Str.ofString "place", Value.ref x), (Str.ofString "gone", .ref GL), (Str.ofString "later", lv)], m p.1 = some p.2)
    (F : Fr g L' s.heap m) (N : News g L' s.heap ((L' + 1, oO) :: (L' + 1 + 1, oN) :: (L' + 1 + 1 + 1, oD) :: (OL, W.listOf vsO.toArray eO) :: (GL, W.listOf vsG.toArray eG) :: (x, instObj 235 dx) :: (dx, spD w t (.int nn i0) (.ref sd) lav le r) :: (sd, od) :: TP)) :
    wpAny (model Challenge.rw_sa0568_01.row.prog w) ((Ar dp un fr gd).deeper (runEnv L')) (execs [runStmt 3, runStmt 4] (runEnv L'))
      (fun f s' => Box (∀ CC : Prop, (∀ T h' tk' m', (f = .ret (.ref T)) → (s' = { s with heap := h', toks := tk' }) → (Fr g L' h' m') → (News g L' h' ((T, tupOf #[.ref x, .ref GL, lv]) :: (OL, W.listOf vsO.toArray eO) :: (GL, W.listOf vsG.toArray eG) :: (x, instObj 235 dx) :: (dx, spD w t (.int nn i0) (.ref sd) lav le r) :: (sd, od) :: TP)) → CC) → CC)) (fun _ _ => False) s := by
  have KX := G.K
  have TX := G.T
  revert KX; k_fill; intro KX
  refine gen ?_
  intro QQ retG
  have hk : runStmt 3 = runStmt 3 := rfl
  conv at hk => rhs; whnf
  rw [hk]; clear hk
  have hk : runStmt 4 = runStmt 4 := rfl
  conv at hk => rhs; whnf
  rw [hk]; clear hk
  have he : runEnv L' = runEnv L' := rfl
  conv at he => rhs; unfold runEnv
  have hs : fdScope runFd = fdScope runFd := rfl
  conv at hs => rhs; whnf
  rw [hs] at he
  rw [he]; clear he hs
  obtain ⟨u, hmu⟩ := map_list _ hm
  subst hmu
  clear hm
  have hun : (Ar dp un fr gd).units + 3 + 64 < cLine := by show un + 3 + 64 < cLine; simp only [cLine]; omega
  (try dsimp only); (try k_fold)
  k_steps
  unfold Hold
  rename Fr _ _ _ _ => F1
  rename News _ _ _ _ => N1
  have S1 := P.sp kbg N1 (by walk_at "my sub")
  refine sortedDict rfl F1 N1 S1.esd S1.sys (by simp only [kvsOf, List.length_map]; omega) (by rw [kvs_num]; exact hasc.imp fun h => Int.le_of_lt h) ?_
  intro SL h2 vs2 e2 tk2 F2 N2 l2 hI2
  rw [kvs_num] at hI2
  clear F1 N1 S1
  k_lt l2
  (try dsimp only)
  k_steps
  unfold Hold
  rename Fr _ _ _ _ => F3
  rename News _ _ _ _ => N3
  refine ke_ne_ints ⟨_, (N3 (SL, _) (by k_mem)).1, rfl, _, rfl⟩ ⟨_, (N3 (OL, _) (by k_mem)).1, rfl, _, rfl⟩ hI2 hIO hun ?_
  rw [decide_eq_true rfl]
  (try dsimp only)
  k_steps
  unfold Hold
  rename Fr _ _ _ _ => F4
  rename News _ _ _ _ => N4
  have S4 := P.sp kbg N4 (by walk_at "my sub")
  refine octets_spec G0 (kbg.trans (frKp F4)) (room (d := dp) (n := 1000) (a := 21) (by assumption) (by decide)) S4 (by omega) ?_
  intro h5 tk5 t5 k5
  try dsimp only at k5
  have F5 := F4.keeps k5.all
  have N5 := N4.grown k5.all
  clear F4 N4 S4
  (try dsimp only)
  k_steps
  unfold Hold
  rename Fr _ _ _ _ => F6
  rename News _ _ _ _ => N6
  have S6 := P.sp kbg N6 (by walk_at "my sub")
  refine sent_rows_spec G0 (kbg.trans (frKp F6)) (room (d := dp) (n := 1000) (a := 21) (by assumption) (by decide)) S6 (by omega) (hasc.imp fun h => Int.ne_of_lt h) ?_
  intro h7 tk7 D rs k7 fD sysD hrm hrd hrow
  try dsimp only at k7 fD hrow
  have R7 : RowsIn w h7 D ps1 := ⟨⟨rs, hrd, hrm, fun i hi => let ⟨a, t, e1, e2, _⟩ := hrow i hi; ⟨a, t, e1, e2⟩⟩, sysD⟩
  have F7 := F6.keeps k7.all
  have N7 := N6.grown k7.all
  clear F6 N6 S6 hrow hrd hrm
  (try dsimp only)
  k_steps
  unfold Hold
  rename Fr _ _ _ _ => F8
  rename News _ _ _ _ => N8
  refine flight_spec G0 (kbg.trans (frKp F8)) (room (d := dp) (n := 1000) (a := 21) (by assumption) (by decide)) (R7.kp (Kp.refl _ _)) ⟨_, (N8 (OL, _) (by k_mem)).1, rfl, _, rfl⟩ hIO (by omega) hasc ?_
  intro h9 tk9 t9 k9
  try dsimp only at k9
  have F9 := F8.keeps k9.all
  have N9 := N8.grown k9.all
  clear F8 N8
  (try dsimp only)
  k_steps
  · exfalso
    first | omega | (rename ¬ _ = _ => hne; exact hne rfl) | (rename _ ≠ _ => hne; exact hne rfl)
  · rename Fr _ _ _ _ => F10
    rename News _ _ _ _ => N10
    refine retG _ _ (.mk fun CC kk => kk _ _ _ _ rfl rfl F10 (newsSub N10 ?_))
    iterate 6 (refine List.forall_mem_cons.mpr ⟨by k_mem, ?_⟩)
    intro q hq
    repeat (first | exact hq | refine List.Mem.tail _ ?_)
end
end Mine
end
-- Run2
section
open PySem PySem.W PySem.Calls PyProof.Rows
set_option maxRecDepth 100000
namespace Mine
local macro_rules
  | `(tactic| walk_at "my sub") => `(tactic| (intro q hq; repeat (first | exact hq | refine List.Mem.tail _ ?_)))
local macro_rules
  | `(tactic| walk_at "exec For Name Name cons nil") => `(tactic| (refine hold ?_))
  | `(tactic| walk_at "exec For Tuple Name") => `(tactic| (k_dflt (refine For_invTF (by k_asm) ?_ (by intro _; rfl))))
  | `(tactic| walk_at "subscriptTail Name Slice ref ref") => `(tactic| (refine hold ?_))
  | `(tactic| walk_at "compareOp NotEq ref ref") => `(tactic| (refine hold ?_))
  | `(tactic| walk_at "exec If") => `(tactic| ((with_reducible show wpAny _ _ (exec (PySem.Stmt.If (PySem.Expr.Compare _ _ [PySem.Expr.List _ _] _) _ _ _) _) _ _ _); refine hold ?_))
  | `(tactic| walk_at "binaryOp Add ref ref") => `(tactic| (refine hold ?_))
  | `(tactic| walk_at "call builtin:max") => `(tactic| (refine hold ?_))
  | `(tactic| walk_at "compareOp NotIn int ref") => `(tactic| (refine hold ?_))
theorem runQ_gone (dl : Int) (rows : List Qd) (parts : List (Int × List Int)) : (runQ dl rows parts).gone.length ≤ parts.length * rows.length := by
  have : ∀ (l : List (Int × List Int)) (st : St), st.qs.length ≤ rows.length → (l.foldl (fun st p => stepQ dl st p.1 p.2) st).gone.length ≤ st.gone.length + l.length * rows.length := by
    intro l
    induction l with
    | nil => intro st _; simp
    | cons p r ih =>
      intro st h
      have h1 : (afterQ st.qs p.2).length ≤ st.qs.length := List.length_filter_le _ _
      have h2 : (afterQ (afterQ st.qs p.2) (lostQ dl (afterQ st.qs p.2) (big st.la p.2) p.1)).length ≤ (afterQ st.qs p.2).length := List.length_filter_le _ _
      have h3 : (lostQ dl (afterQ st.qs p.2) (big st.la p.2) p.1).length ≤ (afterQ st.qs p.2).length := by unfold lostQ; rw [List.length_map]; exact List.length_filter_le _ _
      refine Nat.le_trans (ih _ ?_) ?_
      · show (afterQ (afterQ st.qs p.2) _).length ≤ _; omega
      · show (st.gone ++ lostQ dl (afterQ st.qs p.2) (big st.la p.2) p.1).length + _ ≤ _
        rw [List.length_append, List.length_cons, Nat.add_mul]; omega
  have h := this parts ⟨rows, none, [], none⟩ (Nat.le_refl _)
  simp only [List.length_nil, Nat.zero_add] at h
  exact h
theorem genT {α β : Type} {M : Model} {A A' : Around} {t : Sem α} {u : Sem β} {Q : β → Shared → Prop} {E E' : Value → Shared → Prop} {s : Shared} (h : ∀ Q' : β → Shared → Prop, (∀ a s', Q a s' → Q' a s') → wpAny M A t (fun _ s' => wpAny M A' u Q' E' s') E s) : wpAny M A t (fun _ s' => wpAny M A' u Q E' s') E s := h Q (fun _ _ q => q)
theorem genC {α : Type} {M : Model} {A A' : Around} {t : Sem Bool} {u : Sem α} {Q1 : α → Shared → Prop} {Q2 : Shared → Prop} {E E' : Value → Shared → Prop} {s : Shared}
    (h : ∀ (Q1' : α → Shared → Prop) (Q2' : Shared → Prop), (∀ a s', Q1 a s' → Q1' a s') → (∀ s', Q2 s' → Q2' s') → wpAny M A t (fun ok s' => if ok = true then wpAny M A' u Q1' E' s' else Q2' s') E s) : wpAny M A t (fun ok s' => if ok = true then wpAny M A' u Q1 E' s' else Q2 s') E s := h Q1 Q2 (fun _ _ q => q) (fun _ q => q)
/-- _law_run's first loop at its turn i -/
inductive JA (w : World) (L' x dx sd rl pl : Addr) (dl : Int) (td : Tok) (rows : List Rw) (oO oN oD : Obj) (OL GL : Addr) (vsO : List Value) (eO : Nat) (i : Nat) (m : Str → Option Value) (news : List (Addr × Obj)) : Prop
  | mk (t : Nat → Nat) (i0 : Tok) (lav le : Value) (r : Nat → Value) (od : Obj) (ps : List Pk) (TP : List (Addr × Obj))
      (hm : ∀ p ∈ [(Str.ofString "rows", Value.ref rl), (Str.ofString "parts", Value.ref pl), (Str.ofString "delay", .int dl td), (Str.ofString "place", .ref x), (Str.ofString "gone", .ref GL), (Str.ofString "greatest", .none), (Str.ofString "later", .none)], m p.1 = some p.2)
      (P : Pl w x dx sd none lav od ps TP) (hq : ps.map Pk.q = (rowsQ rows).take i) (h1 : ∀ q ∈ TP, q.1 ≠ L' + 1) (h2 : ∀ q ∈ TP, q.1 ≠ L' + 1 + 1) (h3 : ∀ q ∈ TP, q.1 ≠ L' + 1 + 1 + 1)
      (hn : news = (L' + 1, oO) :: (L' + 1 + 1, oN) :: (L' + 1 + 1 + 1, oD) :: (OL, W.listOf vsO.toArray eO) :: (GL, W.listOf #[] 0) :: (x, instObj 235 dx) :: (dx, spD w t (.int (i : Int) i0) (.ref sd) lav le r) :: (sd, od) :: TP) : JA w L' x dx sd rl pl dl td rows oO oN oD OL GL vsO eO i m news
/-- the second loop at a turn, the run so far st -/
inductive JB (w : World) (L' x dx sd rl pl : Addr) (dl : Int) (td : Tok) (nn : Int) (st : St) (m : Str → Option Value) (news : List (Addr × Obj)) : Prop
  | mk (t : Nat → Nat) (i0 : Tok) (lav le : Value) (r : Nat → Value) (od : Obj) (ps : List Pk) (TP : List (Addr × Obj)) (oO oN oD : Obj) (vN vD : Option Value) (OL : Addr) (vsO : List Value) (eO : Nat) (GL : Addr) (vsG : List Value) (eG : Nat) (gv lv : Value)
      (hm : ∀ p ∈ [(Str.ofString "rows", Value.ref rl), (Str.ofString "parts", Value.ref pl), (Str.ofString "delay", .int dl td), (Str.ofString "place", .ref x), (Str.ofString "gone", .ref GL), (Str.ofString "greatest", gv), (Str.ofString "later", lv)], m p.1 = some p.2)
      (hgv : OptIs gv st.la) (hlv : OptIs lv st.later) (hIO : IntsAre vsO (st.qs.map (·.num))) (hIG : IntsAre vsG st.gone) (dO : oO.data = Data.cell (some (.ref OL))) (dN : oN.data = Data.cell vN) (dD : oD.data = Data.cell vD)
      (P : Pl w x dx sd st.la lav od ps TP) (hq : ps.map Pk.q = st.qs) (h1 : ∀ q ∈ TP, q.1 ≠ L' + 1) (h2 : ∀ q ∈ TP, q.1 ≠ L' + 1 + 1) (h3 : ∀ q ∈ TP, q.1 ≠ L' + 1 + 1 + 1) (cO : OffC L' OL) (cG : OffC L' GL)
      (hn : news = (L' + 1, oO) :: (L' + 1 + 1, oN) :: (L' + 1 + 1 + 1, oD) :: (OL, W.listOf vsO.toArray eO) :: (GL, W.listOf vsG.toArray eG) :: (x, instObj 235 dx) :: (dx, spD w t (.int nn i0) (.ref sd) lav le r) :: (sd, od) :: TP) : JB w L' x dx sd rl pl dl td nn st m news
/-- behind the if of a turn -/
inductive MidIf (w : World) (g : Heap) (L' x dx sd rl pl : Addr) (dl : Int) (td : Tok) (nn : Int) (I : Addr) (oI oO oN oD : Obj) (OL GL : Addr) (vsO vsG : List Value) (eO eG : Nat) (la : Option Int) (ps : List Pk) (lv : Value) (now : Int) (tn : Tok) (s s' : Shared) : Prop
  | mk (h' : Heap) (tk' : Nat) (m' : Str → Option Value) (t' : Nat → Nat) (i' : Tok) (lav' le' : Value) (r' : Nat → Value) (od' : Obj) (TP' : List (Addr × Obj)) (gv' : Value) (hs : s' = { s with heap := h', toks := tk' }) (F : Fr g L' h' m')
      (N : News g L' h' ((I, oI) :: (L' + 1, oO) :: (L' + 1 + 1, oN) :: (L' + 1 + 1 + 1, oD) :: (OL, W.listOf vsO.toArray eO) :: (GL, W.listOf vsG.toArray eG) :: (x, instObj 235 dx) :: (dx, spD w t' (.int nn i') (.ref sd) lav' le' r') :: (sd, od') :: TP'))
      (P : Pl w x dx sd la lav' od' ps TP') (hg : OptIs gv' la) (h1 : ∀ q ∈ TP', q.1 ≠ L' + 1) (h2 : ∀ q ∈ TP', q.1 ≠ L' + 1 + 1) (h3 : ∀ q ∈ TP', q.1 ≠ L' + 1 + 1 + 1) (h4 : ∀ q ∈ TP', q.1 ≠ I)
      (hm : ∀ p ∈ [(Str.ofString "rows", Value.ref rl), (Str.ofString "parts", Value.ref pl), (Str.ofString "delay", .int dl td), (Str.ofString "place", .ref x), (Str.ofString "gone", .ref GL), (Str.ofString "greatest", gv'), (Str.ofString "later", lv), (Str.ofString "now", .int now tn)], m' p.1 = some p.2) : MidIf w g L' x dx sd rl pl dl td nn I oI oO oN oD OL GL vsO vsG eO eG la ps lv now tn s s'
theorem ex1 {h : Heap} {a : Addr} {o : Obj} (e : h.get? a = some o) : ∃ o, h.get? a = some o := ⟨o, e⟩
set_option maxHeartbeats 3000000 in
theorem run_spec {w : World} {mean mg mb} {b : Heap} (G : Gd w mean mg mb b) {s : Shared} (kb : Kp [] b s.heap) {dp un fr gd} (hd : dp + 50 < 1000) (hu : un + 500 < 9900) {rl pl : Addr} {rows : List Rw} {parts : List Pt} {dl : Int} {td : Tok} {Q E}
  (R : RowsOk b s.heap rl rows) (P : PartsOk s.heap pl parts) (hlen : rows.length ≤ 20) (hplen : parts.length ≤ 20) (hns : ∀ p ∈ parts, p.ns.Pairwise (· < ·) ∧ p.ns.length < 64)
  (ret : ∀ h' tk' T x dx sd GL vsG eG lv nn ps, Kp [] s.heap h' → (∀ a ∈ [T, GL, x, dx, sd], s.heap.get? a = none) → (∀ p ∈ ps, s.heap.get? p.a = none ∧ s.heap.get? p.d = none) → h'.get? T = some (tupOf #[.ref x, .ref GL, lv]) → h'.get? GL = some (W.listOf vsG.toArray eG) →
    IntsAre vsG (runQ dl (rowsQ rows) (parts.map fun p => (p.now, p.ns))).gone → OptIs lv (runQ dl (rowsQ rows) (parts.map fun p => (p.now, p.ns))).later → Sp w b h' x dx sd nn (runQ dl (rowsQ rows) (parts.map fun p => (p.now, p.ns))).la ps →
    ps.map Pk.q = (runQ dl (rowsQ rows) (parts.map fun p => (p.now, p.ns))).qs → Q (.ref T) {s with heap := h', toks := tk'}) :
  wpAny (model Challenge.rw_sa0568_01.row.prog w) (Ar dp un fr gd) (call (.ref 251) [.ref rl, .ref pl, .int dl td]) Q E s := by
  have KX := G.K
  revert KX; k_fill; intro KX
  refine wpAny_call ?_
  k_dflt (refine' enterC (b := b) (tl := []) G kb ?kN ?k6 ?kb ?ks ?k7 ?k8 ?k9 ?kB ?kD ?_ ?c2 ?c3 ?c4; (case k6 => k_is); (case kb => (conv => lhs; whnf)); (case ks => (conv => lhs; whnf)); (case k7 => k_is); (case k8 => (first | exact room (a := 0) (by assumption) (by decide) | (simp only [recursionLimit]; omega))); (case k9 => exact BindsTo.of_eq rfl); (case kB => exact rfl); (case kD => decide +kernel); (case c2 => exact rfl); (case c3 => exact rfl); (case c4 => exact rfl))
  case kN => exact fa0
  intro g L' h₁ tk cells F N Y G' kg hL kbg
  have KX' := G'.K
  have T' := G'.T
  clear KX
  have kg0 : Kp [] s.heap g := kg
  obtain ⟨oD, oN, oO0, hE', dD', dN', dO'⟩ := CellsAre.three Y
  subst hE'
  clear Y
  obtain ⟨vD, dD⟩ : ∃ v, oD.data = Data.cell v := ⟨_, dD'⟩
  obtain ⟨vN, dN⟩ : ∃ v, oN.data = Data.cell v := ⟨_, dN'⟩
  obtain ⟨vO, dO⟩ : ∃ v, oO0.data = Data.cell v := ⟨_, dO'⟩
  clear dD' dN' dO'
  obtain ⟨er, hrl⟩ := R.l
  have hrg := kg0.all _ _ hrl
  obtain ⟨ep, hpl⟩ := P.l
  have hpg := kg0.all _ _ hpl
  try simp only [List.cons_append, List.nil_append] at N
  (try dsimp only); (try k_fold)
  k_steps
  unfold Hold
  refine space_spec G (kbg.trans (frKp F)) (room (d := dp) (n := 1000) (a := 21) (by assumption) (by decide)) ?_
  intro h2 tk2 x dx sd t i0 r k2 fx fdx fsd hlt n1 n2 ex edx esd hsys
  obtain ⟨od, eod, hod⟩ := Heap.dictOf_iff.mp esd
  have apart : ∀ p ∈ [(L' + 1 + 1 + 1, _), (L' + 1 + 1, _), (L' + 1, _)], p.1 ≠ x ∧ p.1 ≠ dx ∧ p.1 ≠ sd := fun p hp => ⟨neOf (N p hp).1 fx, neOf (N p hp).1 fdx, neOf (N p hp).1 fsd⟩
  simp only [List.mem_cons, List.not_mem_nil, or_false, forall_eq_or_imp, forall_eq] at apart
  obtain ⟨⟨ap1, ap2, ap3⟩, ⟨ap4, ap5, ap6⟩, ap7, ap8, ap9⟩ := apart
  replace ap1 := neN ap1; replace ap2 := neN ap2; replace ap3 := neN ap3; replace ap4 := neN ap4; replace ap5 := neN ap5; replace ap6 := neN ap6; replace ap7 := neN ap7; replace ap8 := neN ap8; replace ap9 := neN ap9
  have F2 := F.keeps k2.all
  have N2 := newsAdd F fx ex (newsAdd F fdx edx (newsAdd F fsd eod (N.grown k2.all)))
  clear F N
  have hlt' := ltN hlt
  have hn1 := neN n1
  have hn2 := neN n2
  (try dsimp only)
  k_steps
  rename Fr _ _ _ _ => F3
  rename News _ _ _ _ => N3
  refine kun_lenL (k := (rows.length : Int)) ⟨_, F3.keep _ _ hrg, rfl, _, rfl⟩ (by simp) (by omega) ?_
  k_steps
  unfold Hold
  rename Fr _ _ _ _ => F5
  rename News _ _ _ _ => N5
  rename IntsAre _ _ => hI5
  rename List Value => vsO
  rename Obj.data _ = Data.cell (some _) => dout
  rename Obj => oO
  obtain ⟨GL, e⟩ : ∃ z, z = adr1 N5 := ⟨_, rfl⟩
  dsimp only [adr1] at e
  subst e
  obtain ⟨OL, e⟩ : ∃ z, z = adr2 N5 := ⟨_, rfl⟩
  dsimp only [adr2] at e
  subst e
  obtain ⟨eO, NO⟩ : ∃ e, News g L' _ (_ :: _ :: (OL, W.listOf vsO.toArray e) :: _) := ⟨_, N5⟩
  clear N5
  have N5 := NO; clear NO
  try clear F3 N3
  have hOX : ∀ a ∈ [L' + 1, L' + 1 + 1, L' + 1 + 1 + 1, OL, GL], a ∉ [x, dx, sd] := by
    simp only [List.mem_cons, List.not_mem_nil, or_false, forall_eq_or_imp, forall_eq, not_or]
    (repeat' apply And.intro) <;> (refine neN ?_; omega)
  have ltOL : @LT.lt Nat _ (L' + 1 + 1 + 1) OL := by omega
  have ltGL : @LT.lt Nat _ (L' + 1 + 1 + 1) GL := by omega
  have hP5 : Pl w x dx sd none .none od [] [] := ⟨hsys, hlt, n1, n2, rfl, hod, by simp, by simp⟩
  refine loopListT rfl (F5.keep _ _ hrg) F5 (newsSub (tl' := (L' + 1, oO) :: (L' + 1 + 1, oN) :: (L' + 1 + 1 + 1, oD) :: (OL, W.listOf vsO.toArray eO) :: (GL, W.listOf #[] 0) :: (x, instObj 235 dx) :: (dx, spD w t (.int ((0 : Nat) : Int) i0) (.ref sd) .none .none r) :: (sd, od) :: []) N5 (by lcg_sub)) (fun (q : L' = rl) => Nat.lt_irrefl _ (Nat.lt_of_lt_of_le (Heap.lt_size hrg) (q ▸ F5.above)))
    (fun i m news => JA w L' x dx sd rl pl dl td rows oO oN oD OL GL vsO eO i m news)
    ⟨t, i0, .none, .none, r, od, [], [], by walk_at "my map", hP5, by simp, by simp, by simp, by simp, rfl⟩ (fun _ _ _ _ => .inl hrg) ?turn ?done
  case turn =>
    intro i v m₁ news₁ I oI s₁ hv HH off F6 N6
    refine genT ?_
    intro QQ fin0
    obtain ⟨t, i0, lav, le, r, od, ps, TP, hm, P6, hq, hT1, hT2, hT3, rfl⟩ := HH
    obtain ⟨u, rfl⟩ := map_list _ hm
    clear F5 N5
    have hip : i < rows.length := by
      rcases Nat.lt_or_ge i rows.length with q | q
      · exact q
      · rw [Array.getElem?_eq_none (by simpa using q)] at hv; cases hv
    have ev : v = .ref (rows[i]).a := by simpa [List.getElem?_eq_getElem hip] using hv.symm
    subst ev
    have hrt := kg0.all _ _ (R.t rows[i] (List.getElem_mem hip))
    have hrf := (R.f rows[i] (List.getElem_mem hip)).all kg0
    refine unpackN_ F6 N6 ⟨_, F6.keep _ _ hrt, rfl, _, rfl⟩ rfl rfl rfl ?_
    intro h7 F7 N7
    clear F6 N6
    (try dsimp only)
    k_steps
    unfold Hold
    rename Fr _ _ _ _ => F8
    rename News _ _ _ _ => N8
    have hL : ps.length = i := by have := congrArg List.length hq; simpa [rowsQ_length, Nat.min_eq_left (Nat.le_of_lt hip)] using this
    have eI8 := ex1 (N8 (I, oI) (by k_mem)).1
    have eC1 := ex1 (N8 (L' + 1, oO) (by k_mem)).1
    have eC2 := ex1 (N8 (L' + 1 + 1, oN) (by k_mem)).1
    have eC3 := ex1 (N8 (L' + 1 + 1 + 1, oD) (by k_mem)).1
    have S8 := P6.sp (kbg) N8 (by walk_at "my sub")
    have oX : ∀ q ∈ (I, oI) :: (L' + 1, oO) :: (L' + 1 + 1, oN) :: (L' + 1 + 1 + 1, oD) :: (OL, W.listOf vsO.toArray eO) :: (GL, W.listOf #[] 0) :: [], q.1 ∉ [x, dx, sd] := by
      have hI' : I ∉ [x, dx, sd] := by
        simp only [List.mem_cons, List.not_mem_nil, or_false, not_or]
        exact ⟨Ne.symm (off (x, _) (by k_mem)), Ne.symm (off (dx, _) (by k_mem)), Ne.symm (off (sd, _) (by k_mem))⟩
      simp only [List.mem_cons, List.not_mem_nil, or_false, forall_eq_or_imp, forall_eq] at hOX hI' ⊢
      exact ⟨hI', hOX⟩
    refine take_number_spec G (kbg.trans (frKp F8)) (room (d := dp) (n := 1000) (a := 6) (by assumption) (by decide)) S8.ex (N8 (dx, _) (by k_mem)).1 S8.bx S8.bdx hlt (by omega) (by omega) ?_
    intro h9 tk9 t1 t2 k9 e9
    dsimp only at k9 e9
    have S9 := S8.upd k9 ⟨_, _, _, _, _, e9, P6.ol⟩
    refine P6.next F8 N8 (by walk_at "my sub") (X := (I, oI) :: (L' + 1, oO) :: (L' + 1 + 1, oN) :: (L' + 1 + 1 + 1, oD) :: (OL, W.listOf vsO.toArray eO) :: (GL, W.listOf #[] 0) :: []) (by lcg_sub) oX (k9.mono (by simp)) S9 (fun p hp => .inl hp) ?_
    intro t10 i10 lav10 le10 r10 od10 TP10 P10 F10 N10 old10 _
    simp only [List.cons_append, List.nil_append] at N10
    clear F8 N8
    (try dsimp only)
    k_steps
    unfold Hold
    rename Fr _ _ _ _ => F11
    rename News _ _ _ _ => N11
    have S11 := P10.sp kbg N11 (by walk_at "my sub")
    have hnum := map_num hq
    rw [List.map_take, rowsQ_num] at hnum
    refine on_sent_spec G (kbg.trans (frKp F11)) (room (d := dp) (n := 1000) (a := 31) (by assumption) (by decide)) (room (d := un) (n := 9900) (a := 303) (by assumption) (by decide)) S11 (hrf.all (frKp F11)) ?_ (by omega) ?_
    · intro q hq1 e
      have h1 : q.num ∈ (rangeKs 0 rows.length).take i := hnum ▸ List.mem_map_of_mem hq1
      obtain ⟨j, hj, ej⟩ := List.getElem_of_mem h1
      rw [List.getElem_take] at ej
      simp only [rangeKs, List.getElem_map, List.getElem_range] at ej
      simp only [List.length_take] at hj
      omega
    intro h12 tk12 pk e1 e2 e3 e4 e5 k12 fa fd S12
    dsimp only at k12 fa fd
    refine P10.next F11 N11 (by walk_at "my sub") (X := (I, oI) :: (L' + 1, oO) :: (L' + 1 + 1, oN) :: (L' + 1 + 1 + 1, oD) :: (OL, W.listOf vsO.toArray eO) :: (GL, W.listOf #[] 0) :: []) (by lcg_sub) oX k12 S12 (fun p hp => by
      rcases List.mem_append.mp hp with q | q
      · exact .inl q
      · rw [List.mem_singleton.mp q]; exact .inr ⟨fa, fd⟩) ?_
    intro t13 i13 lav13 le13 r13 od13 TP13 P13 F13 N13 old13 _
    simp only [List.cons_append, List.nil_append] at N13
    have eI11 := ex1 (N11 (I, oI) (by k_mem)).1
    have eC1 := And.intro eC1 (ex1 (N11 (L' + 1, oO) (by k_mem)).1)
    have eC2 := And.intro eC2 (ex1 (N11 (L' + 1 + 1, oN) (by k_mem)).1)
    have eC3 := And.intro eC3 (ex1 (N11 (L' + 1 + 1 + 1, oD) (by k_mem)).1)
    clear F11 N11
    (try dsimp only)
    k_steps
    have hTo : ∀ c, (∀ q ∈ TP, q.1 ≠ c) → (∃ o, Heap.get? _ c = some o) → (∃ o, Heap.get? _ c = some o) → ∀ q ∈ TP13, q.1 ≠ c := fun c hc ⟨_, e8⟩ ⟨_, e11⟩ => P10.old old13 (P6.old old10 hc e8) e11
    refine fin0 _ _ ⟨rfl, ?_⟩
    (try dsimp only)
    refine MyEnd.intro F13 N13 _ (fun p hp => hp) ?_ ⟨t13, i13, lav13, le13, r13, od13, ps ++ [pk], TP13, by walk_at "my map", P13, ?_, hTo _ hT1 eC1.1 eC1.2, hTo _ hT2 eC2.1 eC2.2, hTo _ hT3 eC3.1 eC3.2, rfl⟩
    · intro p hp
      have hT : ∀ q ∈ TP13, q.1 ≠ I := hTo I (fun q hq => off q (.tail _ (.tail _ (.tail _ (.tail _ (.tail _ (.tail _ (.tail _ (.tail _ hq))))))))) eI8 eI11
      simp only [List.mem_cons] at hp
      rcases hp with h | h | h | h | h | h | h | h | h
      · rw [h]; exact off (L' + 1, oO) (by k_mem)
      · rw [h]; exact off (L' + 1 + 1, oN) (by k_mem)
      · rw [h]; exact off (L' + 1 + 1 + 1, oD) (by k_mem)
      · rw [h]; exact off (OL, W.listOf vsO.toArray eO) (by k_mem)
      · rw [h]; exact off (GL, W.listOf #[] 0) (by k_mem)
      · rw [h]; exact off (x, instObj 235 dx) (by k_mem)
      · rw [h]; exact off (dx, spD w t (.int (i : Int) i0) (.ref sd) lav le r) (by k_mem)
      · rw [h]; exact off (sd, od) (by k_mem)
      · exact hT p h
    · rw [List.map_append, hq, List.take_succ_eq_append_getElem (by rw [rowsQ_length]; exact hip)]
      congr 1
      simp only [List.map_cons, List.map_nil, rowsQ, List.getElem_mapIdx, Pk.q, Rw.q, e1, e2, e3, e4]
  case done =>
    rintro m₁ news₁ h14 tk14 ⟨t, i0, lav, le, r, od, ps, TP, hm, P6, hq, hT1, hT2, hT3, rfl⟩ F6 N6
    obtain ⟨u, rfl⟩ := map_list _ hm
    clear F5 N5
    (try dsimp only)
    k_steps
    unfold Hold
    rw [List.take_of_length_le (by rw [rowsQ_length]; simp)] at hq
    have hLa1 : L' + 1 ∉ [x, dx, sd] := hOX _ (by simp)
    have hLa2 : L' + 1 + 1 ∉ [x, dx, sd] := hOX _ (by simp)
    have hLa3 : L' + 1 + 1 + 1 ∉ [x, dx, sd] := hOX _ (by simp)
    have hIO : IntsAre vsO ((rowsQ rows).map (·.num)) := by
      rw [rowsQ_num]
      simpa using hI5
    clear hI5
    refine loopListT rfl (F6.keep _ _ hpg) F6 N6 (fun (q : L' = pl) => Nat.lt_irrefl _ (Nat.lt_of_lt_of_le (Heap.lt_size hpg) (q ▸ F6.above)))
      (fun i m news => JB w L' x dx sd rl pl dl td (rows.length : Int) (runQ dl (rowsQ rows) ((parts.map fun p => (p.now, p.ns)).take i)) m news)
      ⟨t, i0, lav, le, r, od, ps, TP, oO, oN, oD, vN, vD, OL, vsO, eO, GL, [], 0, .none, .none, by walk_at "my map", rfl, rfl, hIO, .nil, dout, dN, dD, P6, hq, hT1, hT2, hT3, ⟨Nat.ne_of_lt (by omega), Nat.ne_of_lt (by omega), Nat.ne_of_lt ltOL⟩, ⟨Nat.ne_of_lt (by omega), Nat.ne_of_lt (by omega), Nat.ne_of_lt ltGL⟩, by simp⟩ (fun _ _ _ _ => .inl hpg) ?turn ?done
    case turn =>
      repeat (rename (@LT.lt Nat _ _ _ ∧ _) => zz; clear zz)
      clear P6 F6 N6 hq hIO dout dN dD hT1 hT2 hT3 ltOL ltGL hP5 hOX hod eod edx esd ex
      intro i v m₁ news₁ I oI s₁ hv HH off F6 N6
      refine genT ?_
      intro QQ fin0
      have hip : i < parts.length := by
        rcases Nat.lt_or_ge i parts.length with q | q
        · exact q
        · rw [Array.getElem?_eq_none (by simpa using q)] at hv; cases hv
      have ev : v = .ref (parts[i]).a := by simpa [List.getElem?_eq_getElem hip] using hv.symm
      subst ev
      have hpt := kg0.all _ _ (P.t parts[i] (List.getElem_mem hip))
      obtain ⟨hpn1, hpI⟩ := P.n parts[i] (List.getElem_mem hip)
      have hpn := kg0.all _ _ hpn1
      obtain ⟨hasc, hshort⟩ := hns parts[i] (List.getElem_mem hip)
      have hok := runQ_ok dl (rowsQ rows) ((parts.map fun p => (p.now, p.ns)).take i)
      have hgl : (runQ dl (rowsQ rows) ((parts.map fun p => (p.now, p.ns)).take i)).gone.length ≤ 20 * 20 := by
        have h1 : ((parts.map fun p => (p.now, p.ns)).take i).length ≤ 20 := by rw [List.length_take, List.length_map]; omega
        have h2 := runQ_gone dl (rowsQ rows) ((parts.map fun p => (p.now, p.ns)).take i)
        rw [rowsQ_length] at h2
        exact Nat.le_trans h2 (Nat.mul_le_mul h1 hlen)
      have hst := runQ_succ dl (rowsQ rows) (parts.map fun p => (p.now, p.ns)) i (by simpa using hip)
      simp only [List.getElem_map] at hst
      generalize runQ dl (rowsQ rows) ((parts.map fun p => (p.now, p.ns)).take i) = st at *
      generalize runQ dl (rowsQ rows) ((parts.map fun p => (p.now, p.ns)).take (i + 1)) = st' at *
      subst hst
      generalize hpi : parts[i] = pt at *
      obtain ⟨t, i0, lav, le, r, od, ps, TP, oO, oN, oD, vN, vD, OL, vsO, eO, GL, vsG, eG, gv, lv, hm, hgv, hlv, hIO, hIG, dO, dN, dD, P6, hq, hT1, hT2, hT3, cO, cG, rfl⟩ := HH
      have cO1 := cO.c1; have cO2 := cO.c2; have cO3 := cO.c3; have cG1 := cG.c1; have cG2 := cG.c2; have cG3 := cG.c3
      obtain ⟨u, rfl⟩ := map_list _ hm
      have hnum := map_num hq
      have hsubl := hok.1.map (·.num)
      rw [rowsQ_num] at hsubl
      have hasc0 : (ps.map (·.num)).Pairwise (· < ·) := hnum ▸ (rangeKs_lt rows.length 0).sublist hsubl
      have hlen0 : ps.length ≤ 20 := by
        have h1 := congrArg List.length hnum
        have h2 := hsubl.length_le
        simp only [List.length_map] at h1 h2
        rw [rangeKs_length] at h2
        omega
      have off' := off
      simp only [List.forall_mem_cons] at off'
      obtain ⟨of1, of2, of3, of4, of5, of6, of7, of8, of9⟩ := off'
      replace of1 := neN of1; replace of2 := neN of2; replace of3 := neN of3; replace of4 := neN of4; replace of5 := neN of5; replace of6 := neN of6; replace of7 := neN of7; replace of8 := neN of8
      refine unpackN_ F6 N6 ⟨_, F6.keep _ _ hpt, rfl, _, rfl⟩ rfl rfl rfl ?_
      intro h7 F7 N7
      clear F6 N6
      (try dsimp only)
      k_steps
      unfold Hold
      rename Fr _ _ _ _ => F8
      rename News _ _ _ _ => N8
      rename Obj.data _ = Data.cell (some _) => dN1
      rename Obj => oN1
      try clear dN
      k_dflt (refine krv_ints F8 N8 ⟨_, F8.keep _ _ hpn, rfl, _, rfl⟩ (IsPart.int _ _) hpI ?_ (by with_unfolding_all rfl) (by kmk_pure) (by simp only [List.size_toArray, hpI.length, sizeLine_eq]; omega))
      intro RL wsR h9 F9 N9 l9 hIR _
      clear F8 N8
      k_lt l9
      k_steps
      unfold Hold
      refine LCg.CompSrc.ledger rfl F9 N9 (by k_mem) (by simp only [List.size_toArray, hIR.length, List.length_reverse, sizeLine_eq]; omega) ?_
      intro g2
      obtain ⟨NL, hNL⟩ : ∃ NL, NL = (RL, W.listOf wsR.toArray 0) :: (I, oI) :: (L' + 1, oO) :: (L' + 1 + 1, oN1) :: (L' + 1 + 1 + 1, oD) :: (OL, W.listOf vsO.toArray eO) :: (GL, W.listOf vsG.toArray eG) :: (x, instObj 235 dx) :: (dx, spD w t (.int (rows.length : Int) i0) (.ref sd) lav le r) :: (sd, od) :: TP := ⟨_, rfl⟩
      have hRL : (RL, W.listOf wsR.toArray 0) ∈ NL := hNL ▸ .head _
      refine compU_ind (fun i ys news => ∃ ts : List Rg, ys = ts.map (fun t => Value.ref t.a) ∧ ts.map (·.n) = pt.ns.reverse.take i ∧ (∀ q ∈ NL, q ∈ news) ∧ (∀ t ∈ ts, t.obj ∈ news)) _ ?step ?fin _ 0 [] _ (Nat.zero_add _) ⟨[], rfl, by simp, by rw [hNL]; exact fun q hq => hq, by simp⟩
      case step =>
        intro j ys news hj HH v I2 oI2 C oC D m₂ hh tk2 E' hv hC hx F2 N2 off2 ne
        refine gen ?_
        intro QQ3 fin3
        obtain ⟨ts, rfl, hts, hn1, hn2⟩ := HH
        obtain ⟨hlt', t9, rfl⟩ := ints_at hIR (show wsR[j]? = some v by simpa using hv)
        clear F9 N9
        (try dsimp only)
        k_steps
        rename Fr _ _ _ _ => F3
        rename News _ _ _ _ => N3
        rename _ ∧ _ => l3
        obtain ⟨T, e⟩ : ∃ z, z = adr0 N3 := ⟨_, rfl⟩
        dsimp only [adr0] at e
        subst e
        have off3 : LCg.Off3 I2 C D ((T, tupOf #[.int pt.ns.reverse[j] t9, .int pt.ns.reverse[j] t9]) :: news) := ⟨⟨Nat.ne_of_gt l3.1, Nat.ne_of_gt l3.2.1, Nat.ne_of_gt l3.2.2.1⟩, off2⟩
        refine fin3 _ _ ?_
        (try dsimp only); (try simp only [Bool.false_eq_true, ↓reduceIte])
        (try k_steps)
        (try unfold Hold)
        refine LCg.CompEnd.intro F3 N3 ((T, tupOf #[.int pt.ns.reverse[j] t9, .int pt.ns.reverse[j] t9]) :: news) ?_ off3 (.inr ⟨_, .tail _ (hn1 _ hRL), rfl, _, rfl⟩) ⟨ts ++ [⟨T, pt.ns.reverse[j], t9, t9⟩], by simp, ?_, fun q hq => .tail _ (hn1 q hq), ?_⟩
        · intro p hp
          simp only [List.mem_cons] at hp ⊢
          rcases hp with h | h | h | h | h <;> simp [h]
        · rw [List.map_append, hts, List.take_succ_eq_append_getElem hlt']; rfl
        · intro q hq
          rcases List.mem_append.mp hq with q1 | q1
          · exact .tail _ (hn2 q q1)
          · rw [List.mem_singleton.mp q1]; exact .head _
      case fin =>
        rintro ys news ⟨ts, rfl, hts, hn1, hn2⟩ D hh tk2 F2 N2 off2
        rw [List.take_of_length_le (by simp [hIR.length])] at hts
        clear F9 N9
        (try dsimp only)
        k_steps
        unfold Hold
        have N3 : News g L' hh NL := newsSub N2 fun q hq => .tail _ (hn1 q hq)
        subst hNL
        have S3 := P6.sp kbg N3 (by walk_at "my sub")
        have hR3 : RgIs b hh D ts := ⟨⟨_, (N2 _ (.head _)).1, rfl, _, rfl⟩, fun q hq => (N2 q.obj (.tail _ (hn2 q hq))).1, fun q hq => kpFresh kbg (N2 q.obj (.tail _ (hn2 q hq))).2.2, fun q hq => off1mem off2 _ (hn2 q hq)⟩
        have hts1 : ts.length = pt.ns.length := by have := congrArg List.length hts; simpa using this
        have hc : (fun k => ts.any fun q => decide (q.n = k)) = fun k => decide (k ∈ pt.ns) := by
          funext k
          rw [Bool.eq_iff_iff]
          simp only [List.any_eq_true, decide_eq_true_eq]
          rw [← List.mem_reverse, ← hts, List.mem_map]
        refine acked_by_spec G (kbg.trans (frKp F2)) (room (d := dp) (n := 1000) (a := 21) (by assumption) (by decide)) S3 hR3 (by omega) (hasc0.imp fun h => Int.le_of_lt h) (by omega) ?_
        intro h4 tk4 D4 vs4 e4 k4 f4 g4 hI4
        dsimp only at k4 f4 g4
        rw [hc] at hI4
        have F4 := F2.keeps k4.all
        have N4 := newsAdd F2 f4 g4 (N3.grown k4.all)
        clear F2 N2 N3 S3 hR3
        (try dsimp only)
        k_steps
        unfold Hold
        rename Fr _ _ _ _ => F5
        rename News _ _ _ _ => N5
        have S5 := P6.sp kbg N5 (by walk_at "my sub")
        refine take_spec2 G (kbg.trans (frKp F5)) (room (d := dp) (n := 1000) (a := 21) (by assumption) (by decide)) S5 (N5 (D4, _) (by k_mem)).1 hI4 (hasc0.filter _) (Nat.lt_of_le_of_lt (List.length_filter_le _ _) (by simp; omega)) (by omega) ?_
        intro h6 tk6 D6 e6 k6 f6 g6 S6
        dsimp only at k6 f6 g6
        rw [find_all _ (hasc0.imp fun h => Int.ne_of_lt h)] at g6
        have hps' : (ps.filter fun p => decide (p.num ∉ (ps.map (·.num)).filter fun k => decide (k ∈ pt.ns))) = ps.filter fun p => decide (p.num ∉ pt.ns) := by
          refine List.filter_congr fun p hp => ?_
          rw [decide_eq_decide, List.mem_filter]
          simp only [decide_eq_true_eq, not_and]
          exact ⟨fun h => h (List.mem_map_of_mem hp), fun h _ => h⟩
        rw [hps'] at S6
        have oX : ∀ q ∈ (I, oI) :: (L' + 1, oO) :: (L' + 1 + 1, oN1) :: (L' + 1 + 1 + 1, oD) :: (OL, W.listOf vsO.toArray eO) :: (GL, W.listOf vsG.toArray eG) :: [], q.1 ∉ [x, dx, sd] := by
          have hI' : I ∉ [x, dx, sd] := by
            simp only [List.mem_cons, List.not_mem_nil, or_false, not_or]
            exact ⟨Ne.symm of6, Ne.symm of7, Ne.symm of8⟩
          have hOL' := S5.off (N5 (OL, W.listOf vsO.toArray eO) (by k_mem)).1 (by simp) (by simp)
          have hGL' := S5.off (N5 (GL, W.listOf vsG.toArray eG) (by k_mem)).1 (by simp) (by simp)
          simp only [List.forall_mem_cons]
          exact ⟨hI', hLa1, hLa2, hLa3, hOL', hGL', by simp⟩
        refine P6.next F5 N5 (by walk_at "my sub") (X := (I, oI) :: (L' + 1, oO) :: (L' + 1 + 1, oN1) :: (L' + 1 + 1 + 1, oD) :: (OL, W.listOf vsO.toArray eO) :: (GL, W.listOf vsG.toArray eG) :: []) (by lcg_sub) oX k6 S6 (fun p hp => .inl (List.mem_filter.mp hp).1) ?_
        intro t7 i7 lav7 le7 r7 od7 TP7 P7 F7 N7 old7 sub7
        simp only [List.cons_append, List.nil_append] at N7
        have hT1' := P6.old old7 hT1 (N5 (L' + 1, oO) (by k_mem)).1
        have hT2' := P6.old old7 hT2 (N5 (L' + 1 + 1, oN1) (by k_mem)).1
        have hT3' := P6.old old7 hT3 (N5 (L' + 1 + 1 + 1, oD) (by k_mem)).1
        have hTI' := P6.old old7 of9 (N5 (I, oI) (by k_mem)).1
        have N8 := newsAdd F5 f6 g6 N7
        clear F5 N5 S5 N7 S6
        (try dsimp only)
        k_steps
        unfold Hold
        rename Fr _ _ _ _ => F9
        rename News _ _ _ _ => N9
        obtain ⟨told, htold⟩ : ∃ told, told = ps.filter fun p => decide (p.num ∈ pt.ns) := ⟨_, rfl⟩
        rw [← htold] at N9
        have htl : told.length ≤ 20 := by rw [htold]; exact Nat.le_trans (List.length_filter_le _ _) hlen0
        have htp : ∀ p ∈ told, p ∈ ps := fun p hp => (List.mem_filter.mp (htold ▸ hp)).1
        refine LCg.CompSrc.ledger rfl F9 N9 (by k_mem) (by simp only [List.size_toArray, List.length_map, sizeLine_eq]; omega) ?_
        intro g3
        refine compU_ind (fun i ys news => IntsAre ys ((told.take i).map (·.num)) ∧ news = (D6, W.listOf (told.map fun p => Value.ref p.a).toArray e6) :: (I, oI) :: (L' + 1, oO) :: (L' + 1 + 1, oN1) :: (L' + 1 + 1 + 1, oD) :: (OL, W.listOf vsO.toArray eO) :: (GL, W.listOf vsG.toArray eG) :: (x, instObj 235 dx) :: (dx, spD w t7 (.int (rows.length : Int) i7) (.ref sd) lav7 le7 r7) :: (sd, od7) :: TP7) _ ?step ?fin _ 0 [] _ (Nat.zero_add _) ⟨.nil, rfl⟩
        case step =>
          intro j ys news hj HH v I2 oI2 C oC D m₂ hh tk2 E' hv hC hx F2 N2 off2 ne
          refine gen ?_
          intro QQ3 fin3
          obtain ⟨hys, rfl⟩ := HH
          have hjt : j < told.length := by simpa using hj
          have ev : v = .ref (told[j]).a := by simpa [List.getElem?_eq_getElem hjt] using hv.symm
          subst ev
          obtain ⟨y1, tt, tt1, tt2, tt3, y2⟩ := P6.tp told[j] (htp _ (List.getElem_mem hjt))
          replace y1 := sub7 _ y1
          replace y2 := sub7 _ y2
          generalize hpj : told[j] = pj at *
          clear F9 N9
          (try dsimp only)
          k_steps
          have z1 := (N2 (pj.a, instObj 92 pj.d) (by repeat (first | exact y1 | refine List.Mem.tail _ ?_))).1
          have z2 := (N2 (pj.d, pkD w tt (.int pj.num tt1) (.int pj.at_ tt2) (.int pj.sz tt3) (.ref pj.f) (.bool pj.ping) (.bool pj.ping)) (by repeat (first | exact y2 | refine List.Mem.tail _ ?_))).1
          k_dflt (refine' get_own F2 KX' ⟨z1, rfl, rfl, z2⟩ ?k4 ?k5 ?k6 ?k7 ?k8 ?k9 ?_; (case k4 => k_is); (case k5 => k_is); (case k6 => k_is); (case k7 => k_is); (case k8 => k_get); (case k9 => k_handed))
          k_steps
          refine fin3 _ _ ?_
          (try dsimp only); (try simp only [Bool.false_eq_true, ↓reduceIte])
          (try k_steps)
          (try unfold Hold)
          refine LCg.CompEnd.intro F2 N2 _ (fun p hp => hp) off2 (.inr ⟨_, .head _, rfl, _, rfl⟩) ⟨?_, rfl⟩
          rw [← take_map_succ _ told j hjt, hpj]
          exact hys.append (.cons _ _ .nil)
        case fin =>
          rintro ys news ⟨hys, rfl⟩ D hh tk2 F2 N2 off2
          rw [List.take_of_length_le (by simp)] at hys
          clear F9 N9
          simp only [LCg.Off1] at off2
          obtain ⟨od1, od2, od3, od4, od5, od6, od7', od8, od9, od10, od11⟩ := off2
          have offD := off1mem od11
          (try dsimp only)
          k_steps
          unfold Hold
          refine LCt.CompSrcT.base rfl F2 N2 ⟨_, hpn, rfl, _, rfl⟩ (by simp only [List.size_toArray, hpI.length, sizeLine_eq]; omega) ?_
          intro g4
          refine compT_ind (fun i ys' news => IntsAre ys' ((pt.ns.take i).filter fun k => (st.qs.map (·.num)).any (· == k)) ∧ news = (D, LCg.lst ys) :: (D6, W.listOf (told.map fun p => Value.ref p.a).toArray e6) :: (I, oI) :: (L' + 1, oO) :: (L' + 1 + 1, oN1) :: (L' + 1 + 1 + 1, oD) :: (OL, W.listOf vsO.toArray eO) :: (GL, W.listOf vsG.toArray eG) :: (x, instObj 235 dx) :: (dx, spD w t7 (.int (rows.length : Int) i7) (.ref sd) lav7 le7 r7) :: (sd, od7) :: TP7) _ ?step ?fin _ 0 [] _ (Nat.zero_add _) ⟨.nil, rfl⟩
          case step =>
            intro j ys' news hj HH v I2 oI2 C oC D2 m₂ hh2 tk3 E' hv hC hx F3 N3 off3 ne
            refine genC ?_
            intro QQ3 QQ4 fin3 fin4
            obtain ⟨hys', rfl⟩ := HH
            obtain ⟨hlt', t9, rfl⟩ := ints_at hpI (show pt.vs[j]? = some v by simpa using hv)
            have hstep := take_filter_succ (fun k => (st.qs.map (·.num)).any (· == k)) pt.ns j hlt'
            clear F2 N2
            (try dsimp only)
            k_steps
            · rename _ = true => hin
              rename Fr _ _ _ _ => F4
              rename News _ _ _ _ => N4
              refine fin3 _ _ ?_
              (try dsimp only)
              refine LCg.CompEnd.intro F4 N4 _ (fun p hp => hp) off3 (.inl ⟨_, hpn, rfl, _, rfl⟩) ⟨?_, rfl⟩
              rw [hstep, if_pos hin]
              exact hys'.append (.cons _ _ .nil)
            · rename _ = false => hin
              rename Fr _ _ _ _ => F4
              rename News _ _ _ _ => N4
              refine fin4 _ ?_
              (try dsimp only)
              refine LCg.CompEnd.intro F4 N4 _ (fun p hp => hp) off3 (.inl ⟨_, hpn, rfl, _, rfl⟩) ⟨?_, rfl⟩
              rw [hstep, if_neg (by rw [hin]; exact Bool.false_ne_true), List.append_nil]
              exact hys'
          case fin =>
            rintro ys' news ⟨hys', rfl⟩ D2 hh2 tk3 F3 N3 off3
            rw [List.take_of_length_le (by simp [hpI.length])] at hys'
            clear F2 N2
            have hEq : told.map (·.num) = pt.ns.filter fun k => (st.qs.map (·.num)).any (· == k) := by
              refine asc_eq ?_ (hasc.filter _) fun z => ?_
              · rw [htold]; exact hasc0.sublist (List.filter_sublist.map _)
              · rw [htold, ← hnum]
                simp only [List.mem_map, List.mem_filter, decide_eq_true_eq, List.any_eq_true, beq_iff_eq]
                constructor
                · rintro ⟨p, ⟨h1, h2⟩, rfl⟩; exact ⟨h2, p.num, ⟨p, h1, rfl⟩, rfl⟩
                · rintro ⟨h1, _, ⟨p, h2, rfl⟩, rfl⟩; exact ⟨p, ⟨h2, h1⟩, rfl⟩
            have hun : (Ar dp un fr gd).units + 3 + 64 < cLine := by show un + 3 + 64 < cLine; simp only [cLine]; omega
            simp only [LCg.Off1] at off3
            (try dsimp only)
            k_steps
            unfold Hold
            refine ke_ne_ints ⟨_, (N3 (D, _) (by k_mem)).1, rfl, _, rfl⟩ ⟨_, (N3 (D2, _) (by k_mem)).1, rfl, _, rfl⟩ hys hys' hun ?_
            rw [decide_eq_true hEq]
            have N5 : News g L' hh2 ((I, oI) :: (L' + 1, oO) :: (L' + 1 + 1, oN1) :: (L' + 1 + 1 + 1, oD) :: (OL, W.listOf vsO.toArray eO) :: (GL, W.listOf vsG.toArray eG) :: (x, instObj 235 dx) :: (dx, spD w t7 (.int (rows.length : Int) i7) (.ref sd) lav7 le7 r7) :: (sd, od7) :: TP7) := newsSub N3 (by intro q hq; exact .tail _ (.tail _ (.tail _ hq)))
            clear N3
            clear hys hys' off3 od1 od2 od3 od4 od5 od6 od7' od8 od9 od10 od11 offD
            (try dsimp only)
            k_steps
            unfold Hold
            have hps1 := afterPs hq pt.ns
            have hnum1 : (ps.filter fun p => decide (p.num ∉ pt.ns)).map (·.num) = (afterQ st.qs pt.ns).map (·.num) := map_num hps1
            refine wpAny_mono (Q := fun f s' => f = .next ∧ MidIf w g L' x dx sd rl pl dl td (rows.length : Int) I oI oO oN1 oD OL GL vsO vsG eO eG (big st.la pt.ns) (ps.filter fun p => decide (p.num ∉ pt.ns)) lv pt.now pt.tn s₁ s') ?If ?rest (fun _ _ q => q)
            case If =>
              refine gen ?_
              intro QI finI
              refine wpAny_If ?_
              k_steps
              unfold Hold
              rename Fr _ _ _ _ => F6
              rename News _ _ _ _ => N6
              obtain ⟨EL, e⟩ : ∃ z, z = adr0 N6 := ⟨_, rfl⟩
              dsimp only [adr0] at e
              subst e
              refine ke_ne_ints ⟨_, F6.keep _ _ hpn, rfl, _, rfl⟩ ⟨_, (N6 (EL, W.listOf #[] 0) (by k_mem)).1, rfl, _, rfl⟩ hpI .nil hun ?_
              have N7 := newsSub N6 (fun q hq => .tail _ hq)
              clear N6
              by_cases hnil : pt.ns = []
              · rw [decide_eq_true hnil]
                have hbig : big st.la pt.ns = st.la := by rw [hnil]; rfl
                (try dsimp only)
                k_steps
                refine finI _ _ ⟨rfl, ⟨_, _, _, t7, i7, lav7, le7, r7, od7, TP7, gv, rfl, F6, N7, by rw [hbig]; exact P7, by rw [hbig]; exact hgv, hT1', hT2', hT3', hTI', by walk_at "my map"⟩⟩
              · rw [decide_eq_false hnil]
                (try dsimp only)
                k_steps
                refine kun_lenL (k := (pt.ns.length : Int)) ⟨_, F6.keep _ _ hpn, rfl, _, rfl⟩ (by simp [hpI.length]) (by omega) ?_
                k_steps
                have hpos := List.length_pos_iff.mpr hnil
                refine item_anyK (ns := pt.ns) ⟨_, F6.keep _ _ hpn, rfl, _, rfl⟩ hpI (by omega) (by omega) (by omega) (fun tn => ?_)
                rw [show ((pt.ns.length : Int) - 1).toNat = pt.ns.length - 1 by omega]
                k_steps
                unfold Hold
                have S7 := P7.sp kbg N7 (by walk_at "my sub")
                refine note_largest_spec G (kbg.trans (frKp F6)) (room (d := dp) (n := 1000) (a := 6) (by assumption) (by decide)) S7.ex (N7 (dx, _) (by k_mem)).1 S7.bx S7.bdx hlt P7.ol ?_
                intro h8 tk8 la8 hla8 k8 e8
                replace hla8 : OptIs la8 (big st.la pt.ns) := by
                  rw [big_last hnil]
                  revert hla8
                  generalize st.la = a9
                  intro hla8
                  cases a9 <;> exact hla8
                dsimp only at k8 e8
                have S8 := S7.upd k8 ⟨_, _, _, _, _, e8, hla8⟩
                have eC1 := (N7 (L' + 1, oO) (by k_mem)).1
                have eC2 := (N7 (L' + 1 + 1, oN1) (by k_mem)).1
                have eC3 := (N7 (L' + 1 + 1 + 1, oD) (by k_mem)).1
                have eCI := (N7 (I, oI) (by k_mem)).1
                refine P7.next F6 N7 (by walk_at "my sub") (X := (I, oI) :: (L' + 1, oO) :: (L' + 1 + 1, oN1) :: (L' + 1 + 1 + 1, oD) :: (OL, W.listOf vsO.toArray eO) :: (GL, W.listOf vsG.toArray eG) :: []) (by lcg_sub) oX (k8.mono (by simp)) S8 (fun p hp => .inl hp) ?_
                intro t9 i9 lav9 le9 r9 od9 TP9 P9 F9 N9 old9 sub9
                simp only [List.cons_append, List.nil_append] at N9
                have hT1'' := P7.old old9 hT1' eC1
                have hT2'' := P7.old old9 hT2' eC2
                have hT3'' := P7.old old9 hT3' eC3
                have hTI'' := P7.old old9 hTI' eCI
                clear F6 N7 S7 S8
                (try dsimp only)
                cases hla : st.la with
                | none =>
                  have e : gv = .none := by rw [hla] at hgv; exact hgv
                  subst e
                  k_steps
                  unfold Hold
                  rename Fr _ _ _ _ => F10
                  rename News _ _ _ _ => N10
                  obtain ⟨EL2, e⟩ : ∃ z, z = adr0 N10 := ⟨_, rfl⟩
                  dsimp only [adr0] at e
                  subst e
                  refine add_lists_ints (vs := pt.vs) (ws := []) (ns := pt.ns) (ms := []) F10 N10 ⟨_, F10.keep _ _ hpn, rfl, _, rfl⟩ ⟨_, (N10 (EL2, _) (by k_mem)).1, rfl, _, rfl⟩ hpI (.nil) ?_ (by simp only [List.length_cons, List.length_nil, sizeLine_eq]; omega)
                  intro h11 F11 N11 hI11
                  clear F10 N10
                  (try dsimp only)
                  k_steps
                  unfold Hold
                  rename Fr _ _ _ _ => F12
                  rename News _ _ _ _ => N12
                  refine kso_max F12 N12 ⟨_, (N12 _ (.head _)).1, rfl, _, rfl⟩ hI11 (by simp only [List.length_append]; omega) rfl ?_
                  intro h13 M tM tk13 F13 N13 hM hall
                  have hbm : big st.la pt.ns = some M := big_max hnil hasc (by rw [hla]; exact hM) (by rw [hla]; exact hall)
                  clear F12 N12
                  (try dsimp only)
                  k_steps
                  rename Fr _ _ _ _ => F14
                  rename News _ _ _ _ => N14
                  exact finI _ _ ⟨rfl, ⟨_, _, _, t9, i9, lav9, le9, r9, od9, TP9, .int M tM, rfl, F14, newsSub N14 (fun q hq => .tail _ (.tail _ hq)), P9, by rw [hbm]; exact ⟨_, rfl⟩, hT1'', hT2'', hT3'', hTI'', by walk_at "my map"⟩⟩
                | some g0 =>
                  have e : OptIs gv (some g0) := hla ▸ hgv
                  obtain ⟨tg, e⟩ := e
                  subst e
                  k_steps
                  unfold Hold
                  rename Fr _ _ _ _ => F10
                  rename News _ _ _ _ => N10
                  obtain ⟨EL2, e⟩ : ∃ z, z = adr0 N10 := ⟨_, rfl⟩
                  dsimp only [adr0] at e
                  subst e
                  refine add_lists_ints (vs := pt.vs) (ws := [.int g0 tg]) (ns := pt.ns) (ms := [g0]) F10 N10 ⟨_, F10.keep _ _ hpn, rfl, _, rfl⟩ ⟨_, (N10 (EL2, _) (by k_mem)).1, rfl, _, rfl⟩ hpI (.cons _ _ .nil) ?_ (by simp only [List.length_cons, List.length_nil, sizeLine_eq]; omega)
                  intro h11 F11 N11 hI11
                  clear F10 N10
                  (try dsimp only)
                  k_steps
                  unfold Hold
                  rename Fr _ _ _ _ => F12
                  rename News _ _ _ _ => N12
                  refine kso_max F12 N12 ⟨_, (N12 _ (.head _)).1, rfl, _, rfl⟩ hI11 (by simp only [List.length_append]; omega) rfl ?_
                  intro h13 M tM tk13 F13 N13 hM hall
                  have hbm : big st.la pt.ns = some M := big_max hnil hasc (by rw [hla]; exact hM) (by rw [hla]; exact hall)
                  clear F12 N12
                  (try dsimp only)
                  k_steps
                  rename Fr _ _ _ _ => F14
                  rename News _ _ _ _ => N14
                  exact finI _ _ ⟨rfl, ⟨_, _, _, t9, i9, lav9, le9, r9, od9, TP9, .int M tM, rfl, F14, newsSub N14 (fun q hq => .tail _ (.tail _ hq)), P9, by rw [hbm]; exact ⟨_, rfl⟩, hT1'', hT2'', hT3'', hTI'', by walk_at "my map"⟩⟩
            case rest =>
              rintro f s' ⟨rfl, hmid⟩
              obtain ⟨h', tk', m', t', i', lav', le', r', od', TP', gv', rfl, F6, N6, P8, hgv', hT1', hT2', hT3', hTI', hm'⟩ := hmid
              obtain ⟨u2, rfl⟩ := map_list _ hm'
              clear hm' P7 hT1 hT2 hT3 of9 old7 sub7
              (try dsimp only)
              k_steps
              unfold Hold
              have hsl : (st.qs.map (·.num)).length ≤ 20 := by rw [← hnum, List.length_map]; exact hlen0
              refine LCt.CompSrcT.ledger rfl F6 N6 (ax := OL) (by k_mem) (by simp only [List.size_toArray, hIO.length, sizeLine_eq]; omega) ?_
              intro g5
              refine compT_ind (fun i ys news => IntsAre ys (((st.qs.map (·.num)).take i).filter fun k => !(pt.ns.any (· == k))) ∧ news = (I, oI) :: (L' + 1, oO) :: (L' + 1 + 1, oN1) :: (L' + 1 + 1 + 1, oD) :: (OL, W.listOf vsO.toArray eO) :: (GL, W.listOf vsG.toArray eG) :: (x, instObj 235 dx) :: (dx, spD w t' (.int (rows.length : Int) i') (.ref sd) lav' le' r') :: (sd, od') :: TP') _ ?step ?fin _ 0 [] _ (Nat.zero_add _) ⟨.nil, rfl⟩
              case step =>
                intro j ys news hj HH v I2 oI2 C oC D m₂ hh tk2 E' hv hC hx F2 N2 off2 ne
                refine gen ?_
                intro QQ3 fin3
                obtain ⟨hys, rfl⟩ := HH
                obtain ⟨hlt', t9, rfl⟩ := ints_at hIO (show vsO[j]? = some v by simpa using hv)
                have hstep := take_filter_succ (fun k => !(pt.ns.any (· == k))) (st.qs.map (·.num)) j hlt'
                clear F6 N6
                (try dsimp only)
                k_steps
                unfold Hold
                refine notin_list_ints ⟨_, F2.keep _ _ hpn, rfl, _, rfl⟩ hpI ?_
                generalize hbb : (!(pt.ns.any (· == (st.qs.map (·.num))[j]))) = bb at hstep ⊢
                cases bb
                · (try dsimp only)
                  k_steps
                  refine fin3 _ _ ?_
                  (try dsimp only); (try simp only [Bool.false_eq_true, ↓reduceIte])
                  (try k_steps)
                  (try unfold Hold)
                  refine LCg.CompEnd.intro F2 N2 _ (fun p hp => hp) off2 (.inr ⟨_, (by k_mem : (OL, W.listOf vsO.toArray eO) ∈ _), rfl, _, rfl⟩) ⟨?_, rfl⟩
                  rw [hstep]; simpa using hys
                · (try dsimp only)
                  k_steps
                  refine fin3 _ _ ?_
                  (try dsimp only); (try simp only [Bool.false_eq_true, ↓reduceIte])
                  (try k_steps)
                  (try unfold Hold)
                  refine LCg.CompEnd.intro F2 N2 _ (fun p hp => hp) off2 (.inr ⟨_, (by k_mem : (OL, W.listOf vsO.toArray eO) ∈ _), rfl, _, rfl⟩) ⟨?_, rfl⟩
                  rw [hstep]; exact hys.append (.cons _ _ .nil)
              case fin =>
                rintro ys news ⟨hys, rfl⟩ OL2 hh tk2 F2 N2 off2
                rw [List.take_of_length_le (by simp [hIO.length]), afterQ_num] at hys
                clear F6 N6
                simp only [LCg.Off1] at off2
                obtain ⟨od1, od2, od3, od4, od5, od6, od7', od8, od9, od11⟩ := off2
                have offD := off1mem od11
                clear od11
                (try dsimp only)
                k_steps
                --DEV
                unfold Hold
                rename Fr _ _ _ _ => F20
                rename News _ _ _ _ => N20
                obtain ⟨DL, e⟩ : ∃ z, z = adr0 N20 := ⟨_, rfl⟩
                dsimp only [adr0] at e
                subst e
                obtain ⟨oO1, oD1, dO1, dD1, N21⟩ : ∃ oO1 oD1 : Obj, oO1.data = Data.cell (some (.ref OL2)) ∧ oD1.data = Data.cell (some (.ref DL)) ∧ News g L' _ ((DL, W.listOf #[] 0) :: (OL2, W.listOf ys.toArray ys.length) :: (I, oI) :: (L' + 1, oO1) :: (L' + 1 + 1, oN1) :: (L' + 1 + 1 + 1, oD1) :: _) := ⟨_, _, by assumption, by assumption, N20⟩
                clear N20
                rename @LT.lt Nat _ OL2 DL ∧ _ => lDL
                obtain ⟨d1, d2, d3, d4, d5, d6, d7, d8, d9, d10, d11⟩ := lDL
                have d12 := allLt_ne d11
                have hsub1 : (afterQ st.qs pt.ns).Sublist (rowsQ rows) := List.filter_sublist.trans hok.1
                have hasc1 : ((afterQ st.qs pt.ns).map (·.num)).Pairwise (· < ·) := hnum ▸ hasc0 |>.sublist (List.filter_sublist.map _)
                have hlen1 : (afterQ st.qs pt.ns).length ≤ 20 := by have := hsub1.length_le; rw [rowsQ_length] at this; omega
                refine wpAny_mono (due_spec (e := ys.length) (rest := (I, oI) :: (L' + 1 + 1, oN1) :: (GL, W.listOf vsG.toArray eG) :: (x, instObj 235 dx) :: (dx, spD w t' (.int (rows.length : Int) i') (.ref sd) lav' le' r') :: (sd, od') :: TP') (tn := pt.tn) (td := td) (now := pt.now) (dl := dl) G' hd hu hrg (fun r hr => kg0.all _ _ (R.t r hr)) hlen hsub1 (hok.after pt.ns) hgv' (by walk_at "my map") dO1 dD1 hys F20 (newsSub N21 ?hN) (Nat.ne_of_lt d1) (Nat.ne_of_lt d3) (Nat.ne_of_lt d5) ?hr) ?rest2 (fun _ _ q => q)
                case hN =>
                  iterate 10 (refine List.forall_mem_cons.mpr ⟨by k_mem, ?_⟩)
                  intro q hq
                  repeat (first | exact hq | refine List.Mem.tail _ ?_)
                case hr =>
                  simp only [List.forall_mem_cons]
                  exact ⟨Nat.ne_of_lt d2, Nat.ne_of_lt d4, Nat.ne_of_lt d7, Nat.ne_of_lt d8, Nat.ne_of_lt d9, Nat.ne_of_lt d10, d12⟩
                case rest2 =>
                  rintro f s5 ⟨rfl, hb⟩
                  refine hb.out _ ?_
                  intro h22 tk22 m22 its n22 eq17 F22 N22 hits hm22
                  subst eq17
                  clear F20 N21 hb
                  (try dsimp only)
                  have N23 : News g L' h22 ((DL, W.listOf its n22) :: (I, oI) :: (L' + 1, oO1) :: (L' + 1 + 1, oN1) :: (L' + 1 + 1 + 1, oD1) :: (OL2, W.listOf ys.toArray ys.length) :: (GL, W.listOf vsG.toArray eG) :: (x, instObj 235 dx) :: (dx, spD w t' (.int (rows.length : Int) i') (.ref sd) lav' le' r') :: (sd, od') :: TP') := newsSub N22 (by
                    iterate 10 (refine List.forall_mem_cons.mpr ⟨by k_mem, ?_⟩)
                    intro q hq
                    repeat (first | exact hq | refine List.Mem.tail _ ?_))
                  clear N22
                  have S23 := P8.sp kbg N23 (by walk_at "my sub")
                  refine wpAny_mono (tail_spec (e := ys.length) (qs1 := afterQ st.qs pt.ns) (tn := pt.tn) (td := td) (now := pt.now) (dl := dl) (rl := rl) (pl := pl) (gv := gv') (goneN := st.gone) G kbg G' hd hu P8 hps1 hasc1 hlen1 (by omega) dO1 dD1 dN1 hys hits hIG ?hm F22 N23 hT1' hT2' hT3' hTI' ?oX ?iX od2 cG1 (Nat.ne_of_lt d3)) ?rest3 (fun _ _ q => q)
                  case hm =>
                    simp only [List.forall_mem_cons]
                    exact ⟨(hm22 _ (by decide)).trans rfl, (hm22 _ (by decide)).trans rfl, (hm22 _ (by decide)).trans rfl, (hm22 _ (by decide)).trans rfl, (hm22 _ (by decide)).trans rfl, (hm22 _ (by decide)).trans rfl, (hm22 _ (by decide)).trans rfl, by simp⟩
                  case oX =>
                    have hI' : I ∉ [x, dx, sd] := by
                      simp only [List.mem_cons, List.not_mem_nil, or_false, not_or]
                      exact ⟨Ne.symm of6, Ne.symm of7, Ne.symm of8⟩
                    simp only [List.forall_mem_cons]
                    exact ⟨S23.off (N23 (DL, _) (by k_mem)).1 (by simp) (by simp), hI', hLa1, hLa2, hLa3, S23.off (N23 (OL2, _) (by k_mem)).1 (by simp) (by simp), S23.off (N23 (GL, _) (by k_mem)).1 (by simp) (by simp), by simp⟩
                  case iX =>
                    simp only [List.forall_mem_cons]
                    exact ⟨Ne.symm (Nat.ne_of_lt d2), of1, of2, of3, Ne.symm od1, of5, of6, of7, of8, by simp⟩
                  case rest3 =>
                    rintro f s6 ⟨rfl, hb⟩
                    refine hb.out _ ?_
                    intro h24 tk24 m24 t24 i24 lav24 le24 r24 od24 TP24 oO24 OL24 vs24 e24 GL24 vsG24 eG24 lv24 eq18 F24 N24 P24 dO24 hI24 hG24 hlv24 hT124 hT224 hT324 hTI24 cO24 cG24 nO24 nG24 hm24
                    subst eq18
                    refine fin0 _ _ ?_
                    (try dsimp only)
                    refine ⟨rfl, MyEnd.intro F24 N24 _ (fun p hp => hp) ?_ ⟨t24, i24, lav24, le24, r24, od24, _, TP24, oO24, oN1, oD1, _, _, OL24, vs24, e24, GL24, vsG24, eG24, gv', lv24, hm24, hgv', hlv24, hI24, hG24, dO24, dN1, dD1, P24, afterPs hps1 _, hT124, hT224, hT324, cO24, cG24, rfl⟩⟩
                    simp only [List.forall_mem_cons]
                    exact ⟨of1, of2, of3, nO24, nG24, of6, of7, of8, hTI24⟩
    case done =>
      clear P6 F6 N6 hq hIO dout dN dD hT1 hT2 hT3 ltOL ltGL hP5 hOX hod eod edx esd ex
      rintro m₁ news₁ h15 tk15 ⟨t, i0, lav, le, r, od, ps, TP, oO, oN, oD, vN, vD, OL, vsO, eO, GL, vsG, eG, gv, lv, hm, hgv, hlv, hIO, hIG, dO, dN, dD, P6, hq, hT1, hT2, hT3, cO, cG, rfl⟩ F6 N6
      rw [List.take_of_length_le (by simp)] at hgv hlv hIO hIG P6 hq
      have hok := runQ_ok dl (rowsQ rows) (parts.map fun p => (p.now, p.ns))
      have hnum := map_num hq
      have hsubl := hok.1.map (·.num)
      rw [rowsQ_num] at hsubl
      have hasc0 : (ps.map (·.num)).Pairwise (· < ·) := hnum ▸ (rangeKs_lt rows.length 0).sublist hsubl
      have hlen0 : ps.length ≤ 20 := by
        have h1 := congrArg List.length hnum
        have h2 := hsubl.length_le
        simp only [List.length_map] at h1 h2
        rw [rangeKs_length] at h2
        omega
      (try dsimp only)
      refine wpAny_mono (end_spec (vsG := vsG) (eG := eG) (GL := GL) G kbg G' hd hu P6 hasc0 hlen0 dO (by rw [hnum]; exact hIO) hlv.handed ?hm F6 N6) ?rest (fun _ _ q => q)
      case hm =>
        simp only [List.forall_mem_cons] at hm ⊢
        exact ⟨hm.2.2.2.1, hm.2.2.2.2.1, hm.2.2.2.2.2.2.1, by simp⟩
      case rest =>
        rintro f s6 hb
        refine hb.out _ ?_
        intro T h16 tk16 m16 eq19 eq20 F16 N16
        subst eq19
        subst eq20
        have S16 := P6.sp kbg N16 (by walk_at "my sub")
        have fr : ∀ q ∈ (T, tupOf #[.ref x, .ref GL, lv]) :: (OL, W.listOf vsO.toArray eO) :: (GL, W.listOf vsG.toArray eG) :: (x, instObj 235 dx) :: (dx, spD w t (.int (rows.length : Int) i0) (.ref sd) lav le r) :: (sd, od) :: TP, s.heap.get? q.1 = none := fun q hq => backNone kg0 (N16 q hq).2.2 (by simp)
        refine ret h16 tk16 T x dx sd GL vsG eG lv _ ps (kg0.fr F16) ?_ (fun p hp => ?_) (N16 (T, _) (by k_mem)).1 (N16 (GL, _) (by k_mem)).1 hIG hlv S16 hq
        · simp only [List.forall_mem_cons]
          exact ⟨fr (T, _) (by k_mem), fr (GL, _) (by k_mem), fr (x, _) (by k_mem), fr (dx, _) (by k_mem), fr (sd, _) (by k_mem), by simp⟩
        · obtain ⟨y1, _, _, _, _, y2⟩ := P6.tp p hp
          exact ⟨fr _ (.tail _ (.tail _ (.tail _ (.tail _ (.tail _ (.tail _ y1)))))), fr _ (.tail _ (.tail _ (.tail _ (.tail _ (.tail _ (.tail _ y2))))))⟩
end Mine
end
-- Lg1
section
open PySem PySem.W PySem.Calls PyProof.Rows
set_option maxRecDepth 100000
namespace Mine
section
set_option maxHeartbeats 3000000 in
theorem law1_spec {w : World} {mean mg mb} {b : Heap} (G : Gd w mean mg mb b) {s : Shared} {dp un fr gd} {L fa : Addr} {cd : Value} {m : Str → Option Value} (hdp : dp + 60 < 1000) (hu : un + 600 < 9900)
    {sc : Addr} {vs : List Value} {ns : List Int} (hl : b.IsList sc vs.toArray) (hI : IntsAre vs ns) (hlen : ns.length ≤ 63) (hm : ∀ p ∈ [(Str.ofString "script", Value.ref sc)], m p.1 = some p.2)
    {o1 o2 o3 o4 o5 o6 : Obj} {v1 v2 v3 v4 v5 v6 : Option Value} (d1 : o1.data = Data.cell v1) (d2 : o2.data = Data.cell v2) (d3 : o3.data = Data.cell v3) (d4 : o4.data = Data.cell v4) (d5 : o5.data = Data.cell v5) (d6 : o6.data = Data.cell v6)
    (F : Fr b L s.heap m) (N : News b L s.heap [(L + 1, o1), (L + 1 + 1, o2), (L + 1 + 1 + 1, o3), (L + 1 + 1 + 1 + 1, o4), (L + 1 + 1 + 1 + 1 + 1, o5), (L + 1 + 1 + 1 + 1 + 1 + 1, o6)]) :
    wpAny (model Challenge.rw_sa0568_01.row.prog w) ((Ar dp un fr gd).deeper (lawEnv L fa cd)) (execs [lawStmt 0, lawStmt 1, lawStmt 2] (lawEnv L fa cd))
      (fun f s' => f = .next ∧ Box (∀ CC : Prop, (∀ h' tk' m' BL LS RL nB oB oM k t vs4 e4 ns4 dl td M tM tA, (s' = { s with heap := h', toks := tk' }) → (Fr b L h' m') → (News b L h' ((BL, W.listOf #[.ref LS, .int k t] nB) :: (RL, W.listOf #[] 0) :: (L + 1, oB) :: (L + 1 + 1, oM) :: (L + 1 + 1 + 1, o3) :: (L + 1 + 1 + 1 + 1, o4) :: (L + 1 + 1 + 1 + 1 + 1, o5) :: (L + 1 + 1 + 1 + 1 + 1 + 1, o6) :: [(LS, W.listOf vs4.toArray e4)])) → (Apart L BL RL [(LS, W.listOf vs4.toArray e4)]) → (oB.data = Data.cell (some (.ref BL))) → (oM.data = Data.cell (some (.int M tM))) → (3 ≤ M) → (M ≤ 8) → (0 ≤ k) → (k ≤ 10) → (IntsAre vs4 ns4) → (ns4.length ≤ 63) → (∀ p ∈ [(Str.ofString "delay", Value.int dl td), (Str.ofString "rows", .ref RL), (Str.ofString "at", .int 0 tA)], m' p.1 = some p.2) → CC) → CC)) (fun _ _ => False) s := by
  have KX := G.K
  have TX := G.T
  revert KX; k_fill; intro KX
  refine gen ?_
  intro QQ ret
  have hk : lawStmt 0 = lawStmt 0 := rfl
  conv at hk => rhs; whnf
  rw [hk]; clear hk
  have hk : lawStmt 1 = lawStmt 1 := rfl
  conv at hk => rhs; whnf
  rw [hk]; clear hk
  have hk : lawStmt 2 = lawStmt 2 := rfl
  conv at hk => rhs; whnf
  rw [hk]; clear hk
  have he : lawEnv L fa cd = lawEnv L fa cd := rfl
  conv at he => rhs; unfold lawEnv
  have hs : fdScope lawFd = fdScope lawFd := rfl
  conv at hs => rhs; whnf
  rw [hs] at he
  rw [he]; clear he hs
  obtain ⟨u, hmu⟩ := map_list _ hm
  subst hmu
  clear hm
  (try dsimp only); (try k_fold)
  k_steps
  unfold Hold
  rename Fr _ _ _ _ => F1
  rename News _ _ _ _ => N1
  obtain ⟨BL, e⟩ : ∃ z, z = adr1 N1 := ⟨_, rfl⟩
  dsimp only [adr1] at e
  subst e
  obtain ⟨LS, e⟩ : ∃ z, z = adr2 N1 := ⟨_, rfl⟩
  dsimp only [adr2] at e
  subst e
  obtain ⟨ML, e⟩ : ∃ z, z = adr0 N1 := ⟨_, rfl⟩
  dsimp only [adr0] at e
  subst e
  rename IntsAre _ _ => hI4
  rename List Value => vs4
  have N2 := newsSub (tl' := (BL, _) :: (ML, _) :: (LS, _) :: (L + 1, _) :: (L + 1 + 1, o2) :: (L + 1 + 1 + 1, o3) :: (L + 1 + 1 + 1 + 1, o4) :: (L + 1 + 1 + 1 + 1 + 1, o5) :: [(L + 1 + 1 + 1 + 1 + 1 + 1, o6)]) N1 (by lcg_sub)
  clear N1
  rename @LT.lt Nat _ BL ML ∧ _ => lM
  rename @LT.lt Nat _ LS BL ∧ _ => lB
  have hlen4 : (ns.take 40).length ≤ 63 := by rw [List.length_take]; omega
  refine take_spec G (frKp F1) (room (d := dp) (n := 1000) (a := 6) (by assumption) (by decide)) (room (d := un) (n := 9900) (a := 103) (by assumption) (by decide)) (N2 (BL, _) (by k_mem)).1 (N2 (BL, _) (by k_mem)).2.2 ⟨_, (N2 (LS, _) (by k_mem)).1, rfl, _, rfl⟩ hI4 (Nat.ne_of_lt lB.1) (by omega) (by omega) (by omega) (by omega) (by omega) ?_
  intro h3 tk3 r1 t1 t2 n1 hr0 hr1 k3 e3
  obtain ⟨F3, N3⟩ := takeUp F1 N2 k3 e3 (by walk_at "my apart")
  clear F1 N2
  (try dsimp only)
  k_steps
  unfold Hold
  rename Fr _ _ _ _ => F4
  rename News _ _ _ _ => N4
  obtain ⟨RL, e⟩ : ∃ z, z = adr1 N4 := ⟨_, rfl⟩
  dsimp only [adr1] at e
  subst e
  rename @LT.lt Nat _ BL RL ∧ _ => lR
  generalize ([1000, 2500] : List Int).getD r1.toNat 0 = dl at F4 N4 ⊢
  have N5 := newsSub (tl' := (BL, _) :: (RL, _) :: (LS, _) :: (L + 1, _) :: (L + 1 + 1, o2) :: (L + 1 + 1 + 1, o3) :: (L + 1 + 1 + 1 + 1, o4) :: (L + 1 + 1 + 1 + 1 + 1, o5) :: [(L + 1 + 1 + 1 + 1 + 1 + 1, o6)]) N4 (by lcg_sub)
  clear N4
  (try dsimp only at N5)
  refine take_spec G (frKp F4) (room (d := dp) (n := 1000) (a := 6) (by assumption) (by decide)) (room (d := un) (n := 9900) (a := 103) (by assumption) (by decide)) (N5 (BL, _) (by k_mem)).1 (N5 (BL, _) (by k_mem)).2.2 ⟨_, (N5 (LS, _) (by k_mem)).1, rfl, _, rfl⟩ hI4 (Nat.ne_of_lt lB.1) (by omega) (by omega) (by omega) (by omega) (by omega) ?_
  intro h6 tk6 r2 t3 t4 n2 hr2 hr3 k6 e6
  obtain ⟨F6, N6⟩ := takeUp F4 N5 k6 e6 (by walk_at "my apart")
  clear F4 N5
  (try dsimp only)
  k_steps
  rename Fr _ _ _ _ => F8
  rename News _ _ _ _ => N8
  rename Obj.data _ = Data.cell (some (Value.int _ _)) => dM
  rename Obj.data _ = Data.cell (some (Value.ref BL)) => dB
  refine ret _ _ ⟨rfl, .mk fun CC kk => kk _ _ _ BL LS RL _ _ _ _ _ vs4 _ _ dl _ _ _ _ rfl F8 (newsSub N8 (by lcg_sub)) ⟨Nat.ne_of_lt lR.1, OffL.of (by omega), OffL.of (by omega), fa1 (Nat.ne_of_lt lB.1), fa1 (Nat.ne_of_lt (by omega)), fa1 (OffL.of (by omega))⟩ dB dM (by omega) (by omega) (by omega) (by omega) hI4 hlen4 (by walk_at "my map")⟩
end
end Mine
end
-- Lg2
section
open PySem PySem.W PySem.Calls PyProof.Rows
set_option maxRecDepth 100000
namespace Mine
section
variable {prog : Program} {w : World} {A : Around} {E : Value → Shared → Prop} {s : Shared} {env : Env} {g : Heap} {x : Str} {target : Expr} {body : List Stmt} {Q : Flow → Shared → Prop}
/-- a for over a range from nought -/
theorem loopRange {r l : Addr} {o : Obj} {n : Nat} {t u v : Tok} {m₀ : Str → Option Value} {news₀ : List (Addr × Obj)} (hh : A.handled = none) (hr : IsRange s.heap r 0 (n : Int) 1 t u v) (hsm : Builtin.Range.small 0 (n : Int) 1 = true) (hn : Builtin.Range.rangeSize 0 (n : Int) 1 = (n : Int))
    (hl : g.get? l = some o) (F : Fr g env.locals s.heap m₀) (N : News g env.locals s.heap news₀) (hlL : env.locals ≠ l)
    (J : Nat → (Str → Option Value) → List (Addr × Obj) → Prop) (hJ : J 0 m₀ news₀)
    (turn : ∀ i v m₁ news₁ I oI h tk, i < n → (∃ t, v = Value.int (i : Int) t) → J i m₁ news₁ → (∀ p ∈ news₁, p.1 ≠ I) → Fr g env.locals h (fun y => if y = x then some v else m₁ y) → News g env.locals h ((I, oI) :: news₁) →
      wpAny (model prog w) A (execs body env) (MyPost g env.locals I oI (J (i + 1)) { s with heap := h, toks := tk } Q) E { s with heap := h, toks := tk })
    (done : ∀ m₁ news₁ h tk, J n m₁ news₁ → Fr g env.locals h m₁ → News g env.locals h news₁ → Q .next { s with heap := h, toks := tk }) :
    wpAny (model prog w) A (pyIter (.ref r)) (fun it s₂ => LoopAtV prog w A g env x body Q E it s₂) E s := by
  refine wpAny_pyIter_range hr hsm ?_
  rw [hn]
  have W := (Walks.range (prog := prog) (w := w) (A := A) hh s.heap.objs.size 0 1 n).mono_fp (fp' := [s.heap.objs.size, l]) (by simp)
  refine loopGen (s := { s with heap := s.heap.push _ }) W (next_is_new F) (Nat.ne_of_lt F.ns.lt) hlL ?_ (fun i h st => ⟨_, st⟩) (F.push _) (N.grown fun _ _ e => Heap.get?_push_of_some _ e) (fun p hp => Nat.ne_of_lt (Heap.lt_size (N p hp).1)) J hJ (fun _ _ _ _ => .inl hl)
    (fun i v m₁ news₁ oI h tk hi hP hJ₁ off F₁ N₁ => turn i v m₁ news₁ _ oI h tk hi (by obtain ⟨t, e⟩ := hP; exact ⟨t, by simpa using e⟩) hJ₁ off F₁ N₁) done
  show IsRangeIter _ _ _ _ _
  refine Heap.get?_push_size _ ?_
  simp [rawInt]; rfl
end
theorem isl {g h : Heap} {L LS : Addr} {its : Array Value} {e : Nat} {tl : List (Addr × Obj)} (N : News g L h tl) (hm : (LS, W.listOf its e) ∈ tl) : h.IsList LS its := ⟨_, (N _ hm).1, rfl, _, rfl⟩
def TuZ (Z : List (Addr × Obj)) (tu : Addr) (p : Bool) (t1 : Tok) : Prop :=
  if p then (tu, tupOf #[.str (Str.ofString "ping") t1]) ∈ Z else ∃ t2 l, (tu, tupOf #[.str (Str.ofString "ack") t1, .int 0 t2, .ref l, .none]) ∈ Z
def RowZ (Z : List (Addr × Obj)) (r : Rw) : Prop :=
  (r.a, tupOf #[.int r.at_ r.t1, .int r.sz r.t2, .ref r.f]) ∈ Z ∧ ∃ n tu t1, (r.f, W.listOf #[.ref tu] n) ∈ Z ∧ tu ≠ r.f ∧ TuZ Z tu r.ping t1
theorem TuZ.mono {Z Z' : List (Addr × Obj)} {tu : Addr} {p : Bool} {t1 : Tok} (x : TuZ Z tu p t1) (h : ∀ q ∈ Z, q ∈ Z') : TuZ Z' tu p t1 := by
  unfold TuZ at *
  cases p with
  | true => simp only [if_true] at *; exact h _ x
  | false => simp only [Bool.false_eq_true, if_false] at *; obtain ⟨a, l, e⟩ := x; exact ⟨a, l, h _ e⟩
theorem RowZ.mono {Z Z' : List (Addr × Obj)} {r : Rw} (x : RowZ Z r) (h : ∀ q ∈ Z, q ∈ Z') : RowZ Z' r :=
  let ⟨a, n, tu, t1, b, c, d⟩ := x; ⟨h _ a, n, tu, t1, h _ b, c, d.mono h⟩
section
set_option maxHeartbeats 3000000 in
theorem law2_spec {w : World} {mean mg mb} {b : Heap} (G : Gd w mean mg mb b) {s : Shared} {dp un fr gd} {L fa : Addr} {cd : Value} {m : Str → Option Value} (hdp : dp + 60 < 1000) (hu : un + 600 < 9900)
    {BL RL LS : Addr} {nB : Nat} {k : Int} {t : Tok} {vs4 : List Value} {ns4 : List Int} {e4 : Nat} {Z : List (Addr × Obj)} (hLS : (LS, W.listOf vs4.toArray e4) ∈ Z) (hI4 : IntsAre vs4 ns4) (hlen4 : ns4.length ≤ 63) (hk0 : 0 ≤ k) (hk1 : k ≤ 10)
    {M dl : Int} {tM td tA : Tok} (hM3 : 3 ≤ M) (hM8 : M ≤ 8)
    (hm : ∀ p ∈ [(Str.ofString "delay", Value.int dl td), (Str.ofString "rows", .ref RL), (Str.ofString "at", .int 0 tA)], m p.1 = some p.2)
    {oB oM o3 o4 o5 o6 : Obj} (dB : oB.data = Data.cell (some (.ref BL))) (dM : oM.data = Data.cell (some (.int M tM))) (AP : Apart L BL RL Z)
    (F : Fr b L s.heap m) (N : News b L s.heap ((BL, W.listOf #[.ref LS, .int k t] nB) :: (RL, W.listOf #[] 0) :: (L + 1, oB) :: (L + 1 + 1, oM) :: (L + 1 + 1 + 1, o3) :: (L + 1 + 1 + 1 + 1, o4) :: (L + 1 + 1 + 1 + 1 + 1, o5) :: (L + 1 + 1 + 1 + 1 + 1 + 1, o6) :: Z)) :
    wpAny (model Challenge.rw_sa0568_01.row.prog w) ((Ar dp un fr gd).deeper (lawEnv L fa cd)) (exec (lawStmt 3) (lawEnv L fa cd))
      (fun f s' => f = .next ∧ Box (∀ CC : Prop, (∀ h' tk' m' nB k t eR Z' T tT, ∀ rows : List Rw, (s' = { s with heap := h', toks := tk' }) → (Fr b L h' m') → (News b L h' ((BL, W.listOf #[.ref LS, .int k t] nB) :: (RL, W.listOf (rows.map fun r : Rw => Value.ref r.a).toArray eR) :: (L + 1, oB) :: (L + 1 + 1, oM) :: (L + 1 + 1 + 1, o3) :: (L + 1 + 1 + 1 + 1, o4) :: (L + 1 + 1 + 1 + 1 + 1, o5) :: (L + 1 + 1 + 1 + 1 + 1 + 1, o6) :: Z')) → (Apart L BL RL Z') → (∀ q ∈ Z, q ∈ Z') → ((rows.length : Int) = M) → (∀ r ∈ rows, RowZ Z' r) → (0 ≤ k) → (k ≤ 100) → (∀ p ∈ [(Str.ofString "delay", Value.int dl td), (Str.ofString "rows", .ref RL), (Str.ofString "at", .int T tT)], m' p.1 = some p.2) → CC) → CC)) (fun _ _ => False) s := by
  have KX := G.K
  have TX := G.T
  revert KX; k_fill; intro KX
  refine gen ?_
  intro QQ retG
  have hk : lawStmt 3 = lawStmt 3 := rfl
  conv at hk => rhs; whnf
  rw [hk]; clear hk
  have he : lawEnv L fa cd = lawEnv L fa cd := rfl
  conv at he => rhs; unfold lawEnv
  have hs : fdScope lawFd = fdScope lawFd := rfl
  conv at hs => rhs; whnf
  rw [hs] at he
  rw [he]; clear he hs
  obtain ⟨n, rfl⟩ : ∃ n : Nat, M = (n : Int) := ⟨M.toNat, by omega⟩
  obtain ⟨u, hmu⟩ := map_list _ hm
  subst hmu
  clear hm
  have hMb : Box ((n : Int) ≤ 8) := ⟨hM8⟩
  have hM9 : (n : Int) ≤ 1000 := by omega
  clear hM3 hM8
  (try dsimp only); (try k_fold)
  k_dflt (refine For_invVF F (by rfl) (by rfl) ?_)
  k_steps
  unfold Hold
  rename Fr _ _ _ _ => F1
  rename News _ _ _ _ => N1
  rename IsRange _ _ _ _ _ _ _ _ => hR1
  obtain ⟨o28, ho28⟩ : ∃ o, b.get? 246 = some o := ⟨_, KX 246 _ (by k_dflt k_is)⟩
  refine loopRange (n := n) (l := 246) rfl hR1 (small_one (by omega) (by omega) (by omega) (by omega)) (rangeSize_nat _ _) ho28 F1 N1 (fun (q : L = 246) => Nat.lt_irrefl _ (Nat.lt_of_lt_of_le (Heap.lt_size ho28) (q ▸ F1.above)))
    (fun i m news => ∀ CC : Prop, (∀ nB k t eR Z' T tT, ∀ rows : List Rw, (rows.length = i) → (0 ≤ k) → (k ≤ 10 + 3 * (i : Int)) → (Apart L BL RL Z') → (∀ q ∈ Z, q ∈ Z') → (∀ r ∈ rows, RowZ Z' r) → (∀ p ∈ [(Str.ofString "delay", Value.int dl td), (Str.ofString "rows", .ref RL), (Str.ofString "at", .int T tT)], m p.1 = some p.2) → (news = (BL, W.listOf #[.ref LS, .int k t] nB) :: (RL, W.listOf (rows.map fun r : Rw => Value.ref r.a).toArray eR) :: (L + 1, oB) :: (L + 1 + 1, oM) :: (L + 1 + 1 + 1, o3) :: (L + 1 + 1 + 1 + 1, o4) :: (L + 1 + 1 + 1 + 1 + 1, o5) :: (L + 1 + 1 + 1 + 1 + 1 + 1, o6) :: Z') → CC) → CC)
    (fun CC kk => kk nB k t 0 Z 0 tA [] rfl hk0 (by omega) AP (fun q hq => hq) (by simp) (by walk_at "my map") rfl) ?turn ?done
  case turn =>
    intro i v m₁ news₁ I oI h tk hi HG1 HG2 off F2 N2
    refine gen ?_
    intro QG finG
    obtain ⟨ti, rfl⟩ := HG1
    refine HG2 _ ?_
    intro nB k t eR Z' T tT rows hrl hk0 hk1 AP hZ hrz hm eq107
    subst eq107
    obtain ⟨u1, rfl⟩ := map_list _ hm
    clear F1 N1 hR1 hm
    have hkb : k ≤ 50 := by have := hMb.out; omega
    have cb := AP.cb; have cr := AP.cr
    have cb1 := cb.c1; have cb2 := cb.c2; have cb3 := cb.c3; have cb4 := cb.c4; have cb5 := cb.c5; have cb6 := cb.c6
    have cr1 := cr.c1; have cr2 := cr.c2; have cr3 := cr.c3; have cr4 := cr.c4; have cr5 := cr.c5; have cr6 := cr.c6
    have br := AP.br
    have zB := AP.zb
    have zR := AP.zr
    have off' := off
    simp only [List.forall_mem_cons] at off'
    obtain ⟨f1, f2, f3, f4, f5, f6, f7, f8, f9⟩ := off'
    replace f1 := neN f1; replace f2 := neN f2; replace f3 := neN f3; replace f4 := neN f4; replace f5 := neN f5; replace f6 := neN f6; replace f7 := neN f7; replace f8 := neN f8
    have nLS : @Ne Nat LS BL := zB _ (hZ _ hLS)
    (try dsimp only); (try k_fold)
    k_steps
    unfold Hold
    rename Fr _ _ _ _ => F3
    rename News _ _ _ _ => N3
    replace F3 : Fr b L _ _ := F3
    have N4 := newsSub (tl' := (BL, _) :: (I, oI) :: (RL, _) :: (L + 1, oB) :: (L + 1 + 1, oM) :: (L + 1 + 1 + 1, o3) :: (L + 1 + 1 + 1 + 1, o4) :: (L + 1 + 1 + 1 + 1 + 1, o5) :: (L + 1 + 1 + 1 + 1 + 1 + 1, o6) :: Z') N3 (by walk_at "my sub2")
    replace N4 : News b L _ _ := N4
    clear N3
    have hlsN4 := isl (LS := LS) (its := vs4.toArray) (e := e4) N4 (by repeat (first | exact hZ _ hLS | refine List.Mem.tail _ ?_))
    refine take_spec G (frKp F3) (room (d := dp) (n := 1000) (a := 6) (by assumption) (by decide)) (room (d := un) (n := 9900) (a := 103) (by assumption) (by decide)) (N4 (BL, _) (by k_mem)).1 (N4 (BL, _) (by k_mem)).2.2 hlsN4 hI4 nLS (by omega) (by omega) (by omega) (by omega) (by omega) ?_
    intro h5 tk5 r5 t5 t5' n5 hr50 hr51 k5 e5
    obtain ⟨F5, N5⟩ := takeUp F3 N4 k5 e5 (by walk_at "my apart")
    clear F3 N4
    (try dsimp only)
    k_steps
    unfold Hold
    rename Fr _ _ _ _ => F6
    rename News _ _ _ _ => N6
    have hlsN6 := isl (LS := LS) (its := vs4.toArray) (e := e4) N6 (by repeat (first | exact hZ _ hLS | refine List.Mem.tail _ ?_))
    refine take_spec G (frKp F6) (room (d := dp) (n := 1000) (a := 6) (by assumption) (by decide)) (room (d := un) (n := 9900) (a := 103) (by assumption) (by decide)) (N6 (BL, _) (by k_mem)).1 (N6 (BL, _) (by k_mem)).2.2 hlsN6 hI4 nLS (by omega) (by omega) (by omega) (by omega) (by omega) ?_
    intro h7 tk7 r7 t7 t7' n7 hr70 hr71 k7 e7
    obtain ⟨F7, N7⟩ := takeUp F6 N6 k7 e7 (by walk_at "my apart")
    clear F6 N6
    (try dsimp only)
    k_steps
    · unfold Hold
      rename Fr _ _ _ _ => F8
      rename News _ _ _ _ => N8
      obtain ⟨FL, e⟩ : ∃ z, z = adr0 N8 := ⟨_, rfl⟩
      dsimp only [adr0] at e
      subst e
      obtain ⟨TU, e⟩ : ∃ z, z = adr1 N8 := ⟨_, rfl⟩
      dsimp only [adr1] at e
      subst e
      have N9 := newsSub (tl' := (BL, _) :: (FL, _) :: (TU, tupOf #[.str (Str.ofString "ping") _]) :: (I, oI) :: (RL, _) :: (L + 1, oB) :: (L + 1 + 1, oM) :: (L + 1 + 1 + 1, o3) :: (L + 1 + 1 + 1 + 1, o4) :: (L + 1 + 1 + 1 + 1 + 1, o5) :: (L + 1 + 1 + 1 + 1 + 1 + 1, o6) :: Z') N8 (by walk_at "my sub2")
      replace N9 : News b L _ _ := N9
      clear N8
      rename @LT.lt Nat _ TU FL ∧ _ => lF
      rename @LT.lt Nat _ BL TU ∧ _ => lT
      have hlsN9 := isl (LS := LS) (its := vs4.toArray) (e := e4) N9 (by repeat (first | exact hZ _ hLS | refine List.Mem.tail _ ?_))
      refine take_spec G (frKp F8) (room (d := dp) (n := 1000) (a := 6) (by assumption) (by decide)) (room (d := un) (n := 9900) (a := 103) (by assumption) (by decide)) (N9 (BL, _) (by k_mem)).1 (N9 (BL, _) (by k_mem)).2.2 hlsN9 hI4 nLS (by omega) (by omega) (by omega) (by omega) (by omega) ?_
      intro h10 tk10 r10 t10 t10' n10 hr100 hr101 k10 e10
      obtain ⟨F10, N10⟩ := takeUp F8 N9 k10 e10 (by walk_at "my apart")
      clear F8 N9
      have hsz : (rows.map fun r : Rw => Value.ref r.a).toArray.size ≤ sizeLine := by
        have := hMb.out
        simp only [List.size_toArray, List.length_map, sizeLine_eq]; omega
      (try dsimp only)
      k_steps
      rename Fr _ _ _ _ => F11
      rename News _ _ _ _ => N11
      rename @LT.lt Nat _ BL _ ∧ _ => lD
      obtain ⟨TD, e⟩ : ∃ z, z = adr0 N11 := ⟨_, rfl⟩
      dsimp only [adr0] at e
      subst e
      have hZ2 : ∀ q ∈ Z', q ∈ (TD, tupOf #[.int (T + 400 * r5) (tk5 + 1), .int (100 + 50 * r10) (tk10 + 1), .ref FL]) :: (FL, W.listOf #[.ref TU] 0) :: (TU, tupOf #[.str (Str.ofString "ping") (tk7 + 1)]) :: Z' := fun q hq => .tail _ (.tail _ (.tail _ hq))
      refine finG _ _ ?_
      (try dsimp only)
      refine MyEnd.intro F11 N11 ((BL, W.listOf #[.ref LS, .int (k + 1 + 1 + 1) t10] n10) :: (RL, W.listOf ((rows ++ [(⟨TD, T + 400 * r5, tk5 + 1, 100 + 50 * r10, tk10 + 1, FL, true⟩ : Rw)]).map fun r : Rw => Value.ref r.a).toArray (eR + 1)) :: (L + 1, oB) :: (L + 1 + 1, oM) :: (L + 1 + 1 + 1, o3) :: (L + 1 + 1 + 1 + 1, o4) :: (L + 1 + 1 + 1 + 1 + 1, o5) :: (L + 1 + 1 + 1 + 1 + 1 + 1, o6) :: (TD, tupOf #[.int (T + 400 * r5) (tk5 + 1), .int (100 + 50 * r10) (tk10 + 1), .ref FL]) :: (FL, W.listOf #[.ref TU] 0) :: (TU, tupOf #[.str (Str.ofString "ping") (tk7 + 1)]) :: Z') ?sub ?off (fun CC kk => kk n10 (k + 1 + 1 + 1) t10 (eR + 1) _ _ _ (rows ++ [⟨TD, T + 400 * r5, tk5 + 1, 100 + 50 * r10, tk10 + 1, FL, true⟩]) (by simp [hrl]) (by omega) (by omega) ?ap (fun q hq => hZ2 q (hZ q hq)) ?rz (by walk_at "my map") rfl)
      case sub =>
        rw [show ((rows ++ [(⟨TD, T + 400 * r5, tk5 + 1, 100 + 50 * r10, tk10 + 1, FL, true⟩ : Rw)]).map fun r : Rw => Value.ref r.a).toArray = (rows.map fun r : Rw => Value.ref r.a).toArray.push (.ref TD) by simp]
        iterate 12 (refine List.forall_mem_cons.mpr ⟨by k_mem, ?_⟩)
        intro q hq
        repeat (first | exact hq | refine List.Mem.tail _ ?_)
      case off => walk_at "my apart"
      case ap =>
        refine ⟨br, cb, cr, ?_, ?_, ?_⟩
        · walk_at "my apart"
        · walk_at "my apart"
        · simp only [List.forall_mem_cons]
          exact ⟨OffL.of (by omega), OffL.of (by omega), OffL.of (by omega), AP.zl⟩
      case rz =>
        intro r hr
        rcases List.mem_append.mp hr with hr | hr
        · exact (hrz r hr).mono hZ2
        · rw [List.mem_singleton.mp hr]
          exact ⟨.head _, 0, TU, tk7 + 1, .tail _ (.head _), Nat.ne_of_lt lF.1, by unfold TuZ; simp⟩
    · unfold Hold
      rename Fr _ _ _ _ => F8
      rename News _ _ _ _ => N8
      obtain ⟨FL, e⟩ : ∃ z, z = adr0 N8 := ⟨_, rfl⟩
      dsimp only [adr0] at e
      subst e
      obtain ⟨TU, e⟩ : ∃ z, z = adr1 N8 := ⟨_, rfl⟩
      dsimp only [adr1] at e
      subst e
      obtain ⟨LL, e⟩ : ∃ z, z = adr2 N8 := ⟨_, rfl⟩
      dsimp only [adr2] at e
      subst e
      have N9 := newsSub (tl' := (BL, _) :: (FL, _) :: (TU, tupOf #[.str (Str.ofString "ack") _, .int 0 _, .ref LL, .none]) :: (I, oI) :: (RL, _) :: (L + 1, oB) :: (L + 1 + 1, oM) :: (L + 1 + 1 + 1, o3) :: (L + 1 + 1 + 1 + 1, o4) :: (L + 1 + 1 + 1 + 1 + 1, o5) :: (L + 1 + 1 + 1 + 1 + 1 + 1, o6) :: Z') N8 (by walk_at "my sub2")
      replace N9 : News b L _ _ := N9
      clear N8
      obtain ⟨tA9, tB9, N9⟩ : ∃ tA9 tB9, News b L _ ((BL, _) :: (FL, _) :: (TU, tupOf #[.str (Str.ofString "ack") tA9, .int 0 tB9, .ref LL, .none]) :: _) := ⟨_, _, N9⟩
      rename @LT.lt Nat _ TU FL ∧ _ => lF
      rename @LT.lt Nat _ LL TU ∧ _ => lT
      have hlsN9 := isl (LS := LS) (its := vs4.toArray) (e := e4) N9 (by repeat (first | exact hZ _ hLS | refine List.Mem.tail _ ?_))
      refine take_spec G (frKp F8) (room (d := dp) (n := 1000) (a := 6) (by assumption) (by decide)) (room (d := un) (n := 9900) (a := 103) (by assumption) (by decide)) (N9 (BL, _) (by k_mem)).1 (N9 (BL, _) (by k_mem)).2.2 hlsN9 hI4 nLS (by omega) (by omega) (by omega) (by omega) (by omega) ?_
      intro h10 tk10 r10 t10 t10' n10 hr100 hr101 k10 e10
      obtain ⟨F10, N10⟩ := takeUp F8 N9 k10 e10 (by walk_at "my apart")
      clear F8 N9
      have hsz : (rows.map fun r : Rw => Value.ref r.a).toArray.size ≤ sizeLine := by
        have := hMb.out
        simp only [List.size_toArray, List.length_map, sizeLine_eq]; omega
      (try dsimp only)
      k_steps
      rename Fr _ _ _ _ => F11
      rename News _ _ _ _ => N11
      rename @LT.lt Nat _ BL _ ∧ _ => lD
      obtain ⟨TD, e⟩ : ∃ z, z = adr0 N11 := ⟨_, rfl⟩
      dsimp only [adr0] at e
      subst e
      have hZ2 : ∀ q ∈ Z', q ∈ (TD, tupOf #[.int (T + 400 * r5) (tk5 + 1), .int (100 + 50 * r10) (tk10 + 1), .ref FL]) :: (FL, W.listOf #[.ref TU] 0) :: (TU, tupOf #[.str (Str.ofString "ack") tA9, .int 0 tB9, .ref LL, .none]) :: Z' := fun q hq => .tail _ (.tail _ (.tail _ hq))
      refine finG _ _ ?_
      (try dsimp only)
      refine MyEnd.intro F11 N11 ((BL, W.listOf #[.ref LS, .int (k + 1 + 1 + 1) t10] n10) :: (RL, W.listOf ((rows ++ [(⟨TD, T + 400 * r5, tk5 + 1, 100 + 50 * r10, tk10 + 1, FL, false⟩ : Rw)]).map fun r : Rw => Value.ref r.a).toArray (eR + 1)) :: (L + 1, oB) :: (L + 1 + 1, oM) :: (L + 1 + 1 + 1, o3) :: (L + 1 + 1 + 1 + 1, o4) :: (L + 1 + 1 + 1 + 1 + 1, o5) :: (L + 1 + 1 + 1 + 1 + 1 + 1, o6) :: (TD, tupOf #[.int (T + 400 * r5) (tk5 + 1), .int (100 + 50 * r10) (tk10 + 1), .ref FL]) :: (FL, W.listOf #[.ref TU] 0) :: (TU, tupOf #[.str (Str.ofString "ack") tA9, .int 0 tB9, .ref LL, .none]) :: Z') ?sub ?off (fun CC kk => kk n10 (k + 1 + 1 + 1) t10 (eR + 1) _ _ _ (rows ++ [⟨TD, T + 400 * r5, tk5 + 1, 100 + 50 * r10, tk10 + 1, FL, false⟩]) (by simp [hrl]) (by omega) (by omega) ?ap (fun q hq => hZ2 q (hZ q hq)) ?rz (by walk_at "my map") rfl)
      case sub =>
        rw [show ((rows ++ [(⟨TD, T + 400 * r5, tk5 + 1, 100 + 50 * r10, tk10 + 1, FL, false⟩ : Rw)]).map fun r : Rw => Value.ref r.a).toArray = (rows.map fun r : Rw => Value.ref r.a).toArray.push (.ref TD) by simp]
        iterate 12 (refine List.forall_mem_cons.mpr ⟨by k_mem, ?_⟩)
        intro q hq
        repeat (first | exact hq | refine List.Mem.tail _ ?_)
      case off => walk_at "my apart"
      case ap =>
        refine ⟨br, cb, cr, ?_, ?_, ?_⟩
        · walk_at "my apart"
        · walk_at "my apart"
        · simp only [List.forall_mem_cons]
          exact ⟨OffL.of (by omega), OffL.of (by omega), OffL.of (by omega), AP.zl⟩
      case rz =>
        intro r hr
        rcases List.mem_append.mp hr with hr | hr
        · exact (hrz r hr).mono hZ2
        · rw [List.mem_singleton.mp hr]
          exact ⟨.head _, 0, TU, tA9, .tail _ (.head _), Nat.ne_of_lt lF.1, by unfold TuZ; simp only [Bool.false_eq_true, if_false]; exact ⟨tB9, LL, .tail _ (.tail _ (.head _))⟩⟩
  case done =>
    intro m₁ news₁ h tk hh108 F2 N2
    refine hh108 _ ?_
    intro nB k t eR Z' T tT rows hrl hk0 hk1 AP hZ hrz hm eq109
    subst eq109
    have := hMb.out
    exact retG _ _ ⟨rfl, .mk fun CC kk => kk _ _ _ nB k t eR Z' T tT rows rfl F2 N2 AP hZ (by omega) hrz hk0 (by omega) hm⟩
end
end Mine
end
-- Lg3
section
open PySem PySem.W PySem.Calls PyProof.Rows
set_option maxRecDepth 100000
namespace Mine
section
set_option maxHeartbeats 3000000 in
theorem law3_spec {w : World} {mean mg mb} {b : Heap} (G : Gd w mean mg mb b) {s : Shared} {dp un fr gd} {L fa : Addr} {cd : Value} {m : Str → Option Value} (hdp : dp + 60 < 1000) (hu : un + 600 < 9900)
    {BL RL LS : Addr} {nB : Nat} {k : Int} {t : Tok} {vs4 : List Value} {ns4 : List Int} {e4 : Nat} {Z : List (Addr × Obj)} {oRL : Obj} (hLS : (LS, W.listOf vs4.toArray e4) ∈ Z) (hI4 : IntsAre vs4 ns4) (hlen4 : ns4.length ≤ 63) (hk0 : 0 ≤ k) (hk1 : k ≤ 100)
    {n : Nat} {tM : Tok} (hM8 : n ≤ 8) {l3 : List (Str × Value)}
    (hm : ∀ p ∈ l3, m p.1 = some p.2)
    {oB oM o3 o4 o5 o6 : Obj} {v3 : Option Value} (dB : oB.data = Data.cell (some (.ref BL))) (dM : oM.data = Data.cell (some (.int (n : Int) tM))) (d3 : o3.data = Data.cell v3) (AP : Apart L BL RL Z)
    (F : Fr b L s.heap m) (N : News b L s.heap ((BL, W.listOf #[.ref LS, .int k t] nB) :: (RL, oRL) :: (L + 1, oB) :: (L + 1 + 1, oM) :: (L + 1 + 1 + 1, o3) :: (L + 1 + 1 + 1 + 1, o4) :: (L + 1 + 1 + 1 + 1 + 1, o5) :: (L + 1 + 1 + 1 + 1 + 1 + 1, o6) :: Z)) :
    wpAny (model Challenge.rw_sa0568_01.row.prog w) ((Ar dp un fr gd).deeper (lawEnv L fa cd)) (exec (lawStmt 4) (lawEnv L fa cd))
      (fun f s' => f = .next ∧ Box (∀ CC : Prop, (∀ h' tk' nB k t SL vsS sp eS oS, (s' = { s with heap := h', toks := tk' }) → (Fr b L h' m) → (News b L h' ((BL, W.listOf #[.ref LS, .int k t] nB) :: (RL, oRL) :: (L + 1, oB) :: (L + 1 + 1, oM) :: (L + 1 + 1 + 1, oS) :: (L + 1 + 1 + 1 + 1, o4) :: (L + 1 + 1 + 1 + 1 + 1, o5) :: (L + 1 + 1 + 1 + 1 + 1 + 1, o6) :: (SL, W.listOf vsS.toArray eS) :: Z)) → (Apart L BL RL ((SL, W.listOf vsS.toArray eS) :: Z)) → (oS.data = Data.cell (some (.ref SL))) → (IntsAre vsS sp) → (sp.length = n) → (∀ x ∈ sp, 0 ≤ x ∧ x < 5) → (0 ≤ k) → (k ≤ 200) → CC) → CC)) (fun _ _ => False) s := by
  have KX := G.K
  have TX := G.T
  revert KX; k_fill; intro KX
  refine gen ?_
  intro QQ retG
  have hk : lawStmt 4 = lawStmt 4 := rfl
  conv at hk => rhs; whnf
  rw [hk]; clear hk
  have he : lawEnv L fa cd = lawEnv L fa cd := rfl
  conv at he => rhs; unfold lawEnv
  have hs : fdScope lawFd = fdScope lawFd := rfl
  conv at hs => rhs; whnf
  rw [hs] at he
  rw [he]; clear he hs
  have hMb : Box (n ≤ 8) := ⟨hM8⟩
  have hM9 : (n : Int) ≤ 1000 := by omega
  clear hM8
  have cb := AP.cb; have cr := AP.cr
  have cb1 := cb.c1; have cb2 := cb.c2; have cb3 := cb.c3; have cb4 := cb.c4; have cb5 := cb.c5; have cb6 := cb.c6
  have cr1 := cr.c1; have cr2 := cr.c2; have cr3 := cr.c3; have cr4 := cr.c4; have cr5 := cr.c5; have cr6 := cr.c6
  have br := AP.br
  have zB := AP.zb
  have zR := AP.zr
  have nLS : @Ne Nat LS BL := zB _ hLS
  (try dsimp only); (try k_fold)
  k_steps
  unfold Hold
  rename Fr _ _ _ _ => F1
  rename News _ _ _ _ => N1
  rename IsRange _ _ _ _ _ _ _ _ => hR1
  refine LCg.CompSrc.range (n := n) rfl F1 N1 hR1 (small_one (by omega) (by omega) (by omega) (by omega)) (rangeSize_nat _ _) (by simp only [sizeLine_eq]; omega) ?_
  intro g2
  refine compU_ind (fun i ys news => ∀ CC : Prop, (∀ nB k t sp, (IntsAre ys sp) → (sp.length = i) → (∀ x ∈ sp, 0 ≤ x ∧ x < 5) → (0 ≤ k) → (k ≤ 100 + (i : Int)) → (news = (BL, W.listOf #[.ref LS, .int k t] nB) :: (RL, oRL) :: (L + 1, oB) :: (L + 1 + 1, oM) :: (L + 1 + 1 + 1, o3) :: (L + 1 + 1 + 1 + 1, o4) :: (L + 1 + 1 + 1 + 1 + 1, o5) :: (L + 1 + 1 + 1 + 1 + 1 + 1, o6) :: Z) → CC) → CC) _ ?step ?fin _ 0 [] _ (Nat.zero_add _) (fun CC kk => kk nB k t [] .nil rfl (by simp) hk0 (by omega) rfl)
  case step =>
    intro i ys news hi HG1 v I oI C oC D m₂ hh tk2 E' hv hC hx F2 N2 off2 ne
    refine gen ?_
    intro QG finG
    refine HG1 _ ?_
    intro nB k t sp hys hsp hsr hk0 hk1 eq113
    subst eq113
    have hkb : k ≤ 150 := by have := hMb.out; omega
    clear F1 N1 hR1
    (try dsimp only)
    k_steps
    unfold Hold
    rename Fr _ _ _ _ => F3
    rename News _ _ _ _ => N3
    obtain ⟨⟨oI1, oC1, oD1⟩, off3⟩ := off2
    replace oI1 : @Ne Nat BL I := oI1
    replace oC1 : @Ne Nat BL C := oC1
    replace oD1 : @Ne Nat BL D := oD1
    have N4 := newsSub (tl' := (BL, W.listOf #[.ref LS, .int k t] nB) :: (I, oI) :: (C, oC) :: (D, LCg.lst ys) :: (RL, oRL) :: (L + 1, oB) :: (L + 1 + 1, oM) :: (L + 1 + 1 + 1, o3) :: (L + 1 + 1 + 1 + 1, o4) :: (L + 1 + 1 + 1 + 1 + 1, o5) :: (L + 1 + 1 + 1 + 1 + 1 + 1, o6) :: Z) N3 (by walk_at "my sub2")
    clear N3
    have hls4 := isl (LS := LS) (its := vs4.toArray) (e := e4) N4 (by repeat (first | exact hLS | refine List.Mem.tail _ ?_))
    refine take_spec G (frKp F3) (room (d := dp) (n := 1000) (a := 6) (by assumption) (by decide)) (room (d := un) (n := 9900) (a := 103) (by assumption) (by decide)) (N4 (BL, _) (by k_mem)).1 (N4 (BL, _) (by k_mem)).2.2 hls4 hI4 nLS (by omega) (by omega) (by omega) (by omega) (by omega) ?_
    intro h5 tk5 r5 t5 t5' n5 hr50 hr51 k5 e5
    obtain ⟨F5, N5⟩ := takeUp F3 N4 k5 e5 (by walk_at "my apart")
    clear F3 N4
    (try dsimp only)
    k_steps
    refine finG _ _ ?_
    (try dsimp only); (try simp only [Bool.false_eq_true, ↓reduceIte])
    (try k_steps)
    (try unfold Hold)
    refine LCg.CompEnd.intro F5 N5 ((BL, W.listOf #[.ref LS, .int (k + 1) t5] n5) :: (RL, oRL) :: (L + 1, oB) :: (L + 1 + 1, oM) :: (L + 1 + 1 + 1, o3) :: (L + 1 + 1 + 1 + 1, o4) :: (L + 1 + 1 + 1 + 1 + 1, o5) :: (L + 1 + 1 + 1 + 1 + 1 + 1, o6) :: Z) (by walk_at "my sub2") ⟨⟨oI1, oC1, oD1⟩, off3⟩ trivial (fun CC kk => kk n5 (k + 1) t5 (sp ++ [r5]) (hys.append (.cons _ _ .nil)) (by simp [hsp]) ?_ (by omega) (by omega) rfl)
    intro x hx
    rcases List.mem_append.mp hx with hx | hx
    · exact hsr x hx
    · rw [List.mem_singleton.mp hx]; exact ⟨hr50, hr51⟩
  case fin =>
    intro ys news hh114 SL hh tk2 F2 N2 off2
    refine hh114 _ ?_
    intro nB k t sp hys hsp hsr hk0 hk1 eq115
    subst eq115
    clear F1 N1
    simp only [LCg.Off1] at off2
    obtain ⟨od1, od2, od3, od4, od5, od6, od7, od8, od9⟩ := off2
    replace od1 := neN od1; replace od2 := neN od2; replace od3 := neN od3; replace od4 := neN od4; replace od5 := neN od5; replace od6 := neN od6; replace od7 := neN od7; replace od8 := neN od8
    have offD := off1mem od9
    have zl3 : ∀ q ∈ Z, q.1 ≠ L + 1 + 1 + 1 := fun q hq => Ne.symm (AP.zl q hq).c3
    (try dsimp only)
    k_steps
    rename Fr _ _ _ _ => F3
    rename News _ _ _ _ => N3
    rename Obj.data _ = Data.cell (some (Value.ref SL)) => dS
    have := hMb.out
    refine retG _ _ ⟨rfl, .mk fun CC kk => kk _ _ nB k t SL ys sp _ _ rfl F3 (newsSub N3 (by walk_at "my sub2")) ⟨br, cb, cr, ?_, ?_, ?_⟩ dS hys hsp hsr (by omega) (by omega)⟩
    · exact List.forall_mem_cons.mpr ⟨Ne.symm od1, AP.zb⟩
    · exact List.forall_mem_cons.mpr ⟨Ne.symm od2, AP.zr⟩
    · exact List.forall_mem_cons.mpr ⟨⟨od3, od4, od5, od6, od7, od8⟩, AP.zl⟩
end
end Mine
end
-- Lg4
section
open PySem PySem.W PySem.Calls PyProof.Rows
set_option maxRecDepth 100000
namespace Mine
section
/-- the numbers that are told in a part -/
def lotOf (sp : List Int) (j : Int) : List Int := (rangeKs 0 sp.length).filter fun k => decide (sp.getD k.toNat 0 = j)
structure Lt where
  a : Addr
  vs : List Value
  e : Nat
theorem mem_snocZ {α β : Type} {f : α → β} {pre Z : List β} {ls : List α} {l : α} {q : β} (h : q ∈ pre ++ (Z ++ (ls ++ [l]).map f)) : q = f l ∨ q ∈ pre ++ (Z ++ ls.map f) := by
  rw [List.map_append, ← List.append_assoc, ← List.append_assoc] at h
  rcases List.mem_append.mp h with h | h
  · right; rwa [List.append_assoc] at h
  · left; simpa using h
abbrev Lt.obj (l : Lt) : Addr × Obj := (l.a, W.listOf l.vs.toArray l.e)
set_option maxHeartbeats 600000 in
theorem law4_spec {w : World} {mean mg mb} {b : Heap} (G : Gd w mean mg mb b) {s : Shared} {dp un fr gd} {L fa : Addr} {cd : Value} {m : Str → Option Value} (hdp : dp + 60 < 1000) (hu : un + 600 < 9900)
    {BL RL : Addr} {oBL oRL : Obj} {Z : List (Addr × Obj)} {n : Nat} {tM : Tok} (hM8 : n ≤ 8) {SL : Addr} {vsS : List Value} {sp : List Int} {eS : Nat} (hSL : (SL, W.listOf vsS.toArray eS) ∈ Z) (hS : IntsAre vsS sp) (hsp : sp.length = n) (AP : Apart L BL RL Z)
    {oB oM oS o4' o5 o6 : Obj} (dM : oM.data = Data.cell (some (.int (n : Int) tM))) (dS : oS.data = Data.cell (some (.ref SL)))
    (F : Fr b L s.heap m) (N : News b L s.heap ((BL, oBL) :: (RL, oRL) :: (L + 1, oB) :: (L + 1 + 1, oM) :: (L + 1 + 1 + 1, oS) :: (L + 1 + 1 + 1 + 1, o4') :: (L + 1 + 1 + 1 + 1 + 1, o5) :: (L + 1 + 1 + 1 + 1 + 1 + 1, o6) :: Z)) :
    wpAny (model Challenge.rw_sa0568_01.row.prog w) ((Ar dp un fr gd).deeper (lawEnv L fa cd)) (exec (lawStmt 5) (lawEnv L fa cd))
      (fun f s' => f = .next ∧ Box (∀ CC : Prop, (∀ h' tk' m' LL TL, ∀ ls : List Lt, (s' = { s with heap := h', toks := tk' }) → (Fr b L h' m') → (News b L h' ((BL, oBL) :: (RL, oRL) :: (TL, W.listOf #[] 0) :: (L + 1, oB) :: (L + 1 + 1, oM) :: (L + 1 + 1 + 1, oS) :: (L + 1 + 1 + 1 + 1, o4') :: (L + 1 + 1 + 1 + 1 + 1, o5) :: (L + 1 + 1 + 1 + 1 + 1 + 1, o6) :: ((LL, W.listOf (ls.map fun l => Value.ref l.a).toArray 4) :: (Z ++ ls.map Lt.obj)))) → (ls.length = 4) → (∀ (j : Nat) (hj : j < ls.length), IntsAre (ls[j]).vs (lotOf sp (j : Int))) → (Apart L BL RL ((LL, W.listOf (ls.map fun l => Value.ref l.a).toArray 4) :: (Z ++ ls.map Lt.obj))) → (@Ne Nat BL TL) → (@Ne Nat RL TL) → (OffL L TL) → (∀ q ∈ ((LL, W.listOf (ls.map fun l => Value.ref l.a).toArray 4) :: (Z ++ ls.map Lt.obj)), q.1 ≠ TL) → (m' (Str.ofString "lots") = some (.ref LL)) → (m' (Str.ofString "times") = some (.ref TL)) → (∀ y, y ≠ Str.ofString "lots" → y ≠ Str.ofString "times" → m' y = m y) → CC) → CC)) (fun _ _ => False) s := by
  have KX := G.K
  have TX := G.T
  revert KX; k_fill; intro KX
  refine gen ?_
  intro QQ retG
  have hk : lawStmt 5 = lawStmt 5 := rfl
  conv at hk => rhs; whnf
  rw [hk]; clear hk
  have he : lawEnv L fa cd = lawEnv L fa cd := rfl
  conv at he => rhs; unfold lawEnv
  have hs : fdScope lawFd = fdScope lawFd := rfl
  conv at hs => rhs; whnf
  rw [hs] at he
  rw [he]; clear he hs
  have hMb : Box (n ≤ 8) := ⟨hM8⟩
  have hM9 : (n : Int) ≤ 1000 := by omega
  clear hM8
  (try dsimp only); (try k_fold)
  k_steps
  k_dflt (refine ListComp_C (h₀ := b) (L := L) (m := m) (fun i ys news => ∃ ls : List Lt, ls.length = i ∧ ys = ls.map (fun l => Value.ref l.a) ∧ news = (BL, oBL) :: (RL, oRL) :: (L + 1, oB) :: (L + 1 + 1, oM) :: (L + 1 + 1 + 1, oS) :: (L + 1 + 1 + 1 + 1, o4') :: (L + 1 + 1 + 1 + 1 + 1, o5) :: (L + 1 + 1 + 1 + 1 + 1 + 1, o6) :: (Z ++ ls.map Lt.obj) ∧ (∀ l ∈ ls, @Ne Nat BL l.a ∧ @Ne Nat RL l.a ∧ OffL L l.a) ∧ (∀ (j : Nat) (hj : j < ls.length), IntsAre (ls[j]).vs (lotOf sp (j : Int)))) 4 (cl := [(Str.ofString "spots", L + 1 + 1 + 1), (Str.ofString "many", L + 1 + 1)]) ?c1 ?c2 ?c3 ?c4 ?c5 ?c6 ?_)
  case c1 => with_unfolding_all rfl
  case c2 => rfl
  case c3 => decide
  case c4 => exact fun _ => rfl
  case c5 => exact fun _ => rfl
  case c6 => exact fun _ _ => rfl
  k_steps
  rename Fr _ _ _ _ => F1
  rename News _ _ _ _ => N1
  rename IsRange _ _ _ _ _ _ _ _ => hR1
  refine .mk ⟨_, _, _, _, _, rfl, rfl, F1, N1, hR1, by decide, by decide, by decide, ⟨[], rfl, rfl, by simp, by simp, by simp⟩, ?step, ?fin⟩
  case step =>
    rintro i ys news hi ⟨ls, hli, rfl, rfl, hlo, hlI⟩ ti I oI C oC D K oK hh tk2 E' dK F2 N2 off2 offK
    clear F1 N1 hR1
    (try dsimp only)
    k_steps
    unfold Hold
    rename Fr _ _ _ _ => F3
    rename News _ _ _ _ => N3
    rename IsRange _ _ _ _ _ _ _ _ => hR3
    refine LCt.CompSrcT.range (n := n) rfl F3 N3 hR3 (small_one (by omega) (by omega) (by omega) (by omega)) (rangeSize_nat _ _) (by simp only [sizeLine_eq]; omega) ?_
    intro g5
    refine compT_ind (fun i2 ys2 news2 => IntsAre ys2 (((rangeKs 0 sp.length).take i2).filter fun k => decide (sp.getD k.toNat 0 = (i : Int))) ∧ news2 = (I, oI) :: (C, oC) :: (D, LCg.lst (ls.map fun l => Value.ref l.a)) :: (K, oK) :: (BL, oBL) :: (RL, oRL) :: (L + 1, oB) :: (L + 1 + 1, oM) :: (L + 1 + 1 + 1, oS) :: (L + 1 + 1 + 1 + 1, o4') :: (L + 1 + 1 + 1 + 1 + 1, o5) :: (L + 1 + 1 + 1 + 1 + 1 + 1, o6) :: (Z ++ ls.map Lt.obj)) _ ?step2 ?fin2 _ 0 [] _ (Nat.zero_add _) ⟨.nil, rfl⟩
    case step2 =>
      rintro j ys2 news2 hj ⟨hys2, rfl⟩ v I2 oI2 C2 oC2 D2 m₂ hh2 tk3 E2 hv hC hx F4 N4 off4 ne4
      obtain ⟨tv, rfl⟩ := hv
      have hlt' : j < (rangeKs 0 sp.length).length := by rw [rangeKs_length]; omega
      have hstep := take_filter_succ (fun k => decide (sp.getD k.toNat 0 = (i : Int))) (rangeKs 0 sp.length) j hlt'
      have hkj : (rangeKs 0 sp.length)[j] = 0 + (j : Int) := by simp [rangeKs]
      clear F3 N3 hR3
      (try dsimp only)
      k_steps
      refine item_anyK (isl (LS := SL) (its := vsS.toArray) (e := eS) N4 (by repeat (first | exact List.mem_append_left _ hSL | refine List.Mem.tail _ ?_))) hS (by omega) (by omega) (by omega) (fun tn => ?_)
      k_steps
      · rename _ = _ => hin
        unfold Hold
        refine LCg.CompEnd.intro F4 N4 _ (fun p hp => hp) off4 trivial ⟨?_, rfl⟩
        rw [hstep, if_pos (by rw [hkj]; exact decide_eq_true hin), hkj]
        exact hys2.append (.cons _ _ .nil)
      · rename ¬ _ = _ => hin
        unfold Hold
        refine LCg.CompEnd.intro F4 N4 _ (fun p hp => hp) off4 trivial ⟨?_, rfl⟩
        rw [hstep, if_neg (by rw [hkj]; simpa using hin), List.append_nil]
        exact hys2
    case fin2 =>
      rintro ys2 news2 ⟨hys2, rfl⟩ D2 hh2 tk3 F4 N4 off4
      rw [List.take_of_length_le (by rw [rangeKs_length]; omega)] at hys2
      clear F3 N3 hR3
      (try dsimp only)
      k_steps
      unfold Hold
      have o4 := off1mem off4
      have o2 := off2.mem
      have hD2 : D2 ≠ I ∧ D2 ≠ C ∧ D2 ≠ D := ⟨Ne.symm (o4 (I, _) (by k_mem)), Ne.symm (o4 (C, _) (by k_mem)), Ne.symm (o4 (D, _) (by k_mem))⟩
      have hD2K : D2 ≠ K := Ne.symm (o4 (K, _) (by k_mem))
      have hoff : OffL L D2 := ⟨o4 (L + 1, _) (by k_mem), o4 (L + 1 + 1, _) (by k_mem), o4 (L + 1 + 1 + 1, _) (by k_mem), o4 (L + 1 + 1 + 1 + 1, _) (by k_mem), o4 (L + 1 + 1 + 1 + 1 + 1, _) (by k_mem), o4 (L + 1 + 1 + 1 + 1 + 1 + 1, _) (by k_mem)⟩
      have hoB : @Ne Nat BL D2 := o4 (BL, _) (by k_mem)
      have hoR : @Ne Nat RL D2 := o4 (RL, _) (by k_mem)
      have sub : ∀ q ∈ [(BL, oBL), (RL, oRL), (L + 1, oB), (L + 1 + 1, oM), (L + 1 + 1 + 1, oS), (L + 1 + 1 + 1 + 1, o4'), (L + 1 + 1 + 1 + 1 + 1, o5), (L + 1 + 1 + 1 + 1 + 1 + 1, o6)] ++ (Z ++ (ls ++ [(⟨D2, ys2, ys2.length⟩ : Lt)]).map Lt.obj), q = (D2, LCg.lst ys2) ∨ q ∈ [(BL, oBL), (RL, oRL), (L + 1, oB), (L + 1 + 1, oM), (L + 1 + 1 + 1, oS), (L + 1 + 1 + 1 + 1, o4'), (L + 1 + 1 + 1 + 1 + 1, o5), (L + 1 + 1 + 1 + 1 + 1 + 1, o6)] ++ (Z ++ ls.map Lt.obj) := fun q hq => mem_snocZ hq
      refine LCg.CompEnd.intro F4 N4 ((K, oK) :: ([(BL, oBL), (RL, oRL), (L + 1, oB), (L + 1 + 1, oM), (L + 1 + 1 + 1, oS), (L + 1 + 1 + 1 + 1, o4'), (L + 1 + 1 + 1 + 1 + 1, o5), (L + 1 + 1 + 1 + 1 + 1 + 1, o6)] ++ (Z ++ (ls ++ [(⟨D2, ys2, ys2.length⟩ : Lt)]).map Lt.obj))) ?sub ?off ⟨_, rfl, ?offK⟩ ⟨_, rfl, ls ++ [⟨D2, ys2, ys2.length⟩], by simp [hli], by simp, rfl, ?a1, ?a2⟩
      case sub =>
        iterate 4 (refine List.forall_mem_cons.mpr ⟨by k_mem, ?_⟩)
        intro q hq
        rcases sub q hq with h | h
        · rw [h]; exact .head _
        · exact .tail _ (.tail _ (.tail _ (.tail _ (.tail _ h))))
      case off =>
        refine LCg.Off3.of fun q hq => ?_
        rcases List.mem_cons.mp hq with h | hq
        · rw [h]; exact o2 (K, _) (.head _)
        rcases sub q hq with h | h
        · rw [h]; exact hD2
        · exact o2 q (.tail _ h)
      case offK =>
        intro q hq
        rcases sub q hq with h | h
        · rw [h]; exact hD2K
        · exact offK q h
      case a1 =>
        intro l hl
        rcases List.mem_append.mp hl with h | h
        · exact hlo l h
        · rw [List.mem_singleton.mp h]; exact ⟨hoB, hoR, hoff⟩
      case a2 =>
        intro j hj
        rw [List.length_append, List.length_singleton] at hj
        by_cases h : j < ls.length
        · rw [List.getElem_append_left h]; exact hlI j h
        · have e : j = ls.length := by omega
          subst e
          simp only [List.getElem_append_right (Nat.le_refl _), Nat.sub_self, List.getElem_cons_zero]
          rw [hli]
          exact hys2
  case fin =>
    rintro ys news D hh tk2 ⟨ls, hli, rfl, rfl, hlo, hlI⟩ F2 N2 off2
    clear F1 N1 hR1
    (try dsimp only)
    k_steps
    rename Fr _ _ _ _ => F3
    rename News _ _ _ _ => N3
    obtain ⟨TL, e⟩ : ∃ z, z = adr1 N3 := ⟨_, rfl⟩
    dsimp only [adr1] at e
    subst e
    rename @LT.lt Nat _ D TL ∧ _ => lT
    obtain ⟨t1, t2, t3, t4, t5, t6, t7, t8, t9, t10⟩ := lT
    have t11 := allLt_ne t10
    have o2 := off1mem off2
    have hls4 : (ls.map fun l => Value.ref l.a).length = 4 := by simp [hli]
    have offD : OffL L D := ⟨o2 (L + 1, _) (by k_mem), o2 (L + 1 + 1, _) (by k_mem), o2 (L + 1 + 1 + 1, _) (by k_mem), o2 (L + 1 + 1 + 1 + 1, _) (by k_mem), o2 (L + 1 + 1 + 1 + 1 + 1, _) (by k_mem), o2 (L + 1 + 1 + 1 + 1 + 1 + 1, _) (by k_mem)⟩
    have memZ : ∀ q ∈ Z ++ ls.map Lt.obj, q ∈ Z ∨ ∃ l ∈ ls, q = l.obj := fun q hq => by
      rcases List.mem_append.mp hq with h | h
      · exact .inl h
      · obtain ⟨l, h1, h2⟩ := List.mem_map.mp h; exact .inr ⟨l, h1, h2.symm⟩
    have N4 := newsSub (tl' := (BL, oBL) :: (RL, oRL) :: (TL, W.listOf #[] 0) :: (L + 1, oB) :: (L + 1 + 1, oM) :: (L + 1 + 1 + 1, oS) :: (L + 1 + 1 + 1 + 1, o4') :: (L + 1 + 1 + 1 + 1 + 1, o5) :: (L + 1 + 1 + 1 + 1 + 1 + 1, o6) :: ((D, LCg.lst (ls.map fun l => Value.ref l.a)) :: (Z ++ ls.map Lt.obj))) N3 (by walk_at "my sub2")
    rw [show LCg.lst (ls.map fun l => Value.ref l.a) = W.listOf (ls.map fun l => Value.ref l.a).toArray 4 by show W.listOf _ (ls.map fun l => Value.ref l.a).length = _; rw [hls4]] at N4
    refine retG _ _ ⟨rfl, .mk fun CC kk => kk _ _ _ D TL ls rfl F3 N4 hli hlI ⟨AP.br, AP.cb, AP.cr, ?_, ?_, ?_⟩ (Nat.ne_of_lt t2) (Nat.ne_of_lt t3) ⟨Nat.ne_of_lt t4, Nat.ne_of_lt t5, Nat.ne_of_lt t6, Nat.ne_of_lt t7, Nat.ne_of_lt t8, Nat.ne_of_lt t9⟩ (List.forall_mem_cons.mpr ⟨Nat.ne_of_lt t1, t11⟩) rfl rfl (fun y h1 h2 => ?_)⟩
    · refine List.forall_mem_cons.mpr ⟨Ne.symm (o2 (BL, _) (by k_mem)), fun q hq => ?_⟩
      rcases memZ q hq with h | ⟨l, h1, rfl⟩
      · exact AP.zb q h
      · exact Ne.symm (hlo l h1).1
    · refine List.forall_mem_cons.mpr ⟨Ne.symm (o2 (RL, _) (by k_mem)), fun q hq => ?_⟩
      rcases memZ q hq with h | ⟨l, h1, rfl⟩
      · exact AP.zr q h
      · exact Ne.symm (hlo l h1).2.1
    · refine List.forall_mem_cons.mpr ⟨offD, fun q hq => ?_⟩
      rcases memZ q hq with h | ⟨l, h1, rfl⟩
      · exact AP.zl q h
      · exact (hlo l h1).2.2
    · simp [h1, h2]
end
end Mine
end
-- Lg5
section
open PySem PySem.W PySem.Calls PyProof.Rows
set_option maxRecDepth 100000
namespace Mine
section
set_option maxHeartbeats 3000000 in
theorem law5_spec {w : World} {mean mg mb} {b : Heap} (G : Gd w mean mg mb b) {s : Shared} {dp un fr gd} {L fa : Addr} {cd : Value} {m : Str → Option Value} (hdp : dp + 60 < 1000) (hu : un + 600 < 9900)
    {BL RL TL LS : Addr} {nB : Nat} {k : Int} {t : Tok} {vs4 : List Value} {ns4 : List Int} {e4 : Nat} {Z : List (Addr × Obj)} {oRL : Obj} (hLS : (LS, W.listOf vs4.toArray e4) ∈ Z) (hI4 : IntsAre vs4 ns4) (hlen4 : ns4.length ≤ 63) (hk0 : 0 ≤ k) (hk1 : k ≤ 200)
    {T : Int} {tA : Tok}
    (hmA : m (Str.ofString "at") = some (.int T tA)) (hmT : m (Str.ofString "times") = some (.ref TL))
    {oB oM o3 o4 o5 o6 : Obj} (dB : oB.data = Data.cell (some (.ref BL))) (AP : Apart L BL RL Z) (tb : @Ne Nat BL TL) (tr : @Ne Nat RL TL) (tc : OffL L TL) (tz : ∀ q ∈ Z, q.1 ≠ TL)
    (F : Fr b L s.heap m) (N : News b L s.heap ((BL, W.listOf #[.ref LS, .int k t] nB) :: (RL, oRL) :: (TL, W.listOf #[] 0) :: (L + 1, oB) :: (L + 1 + 1, oM) :: (L + 1 + 1 + 1, o3) :: (L + 1 + 1 + 1 + 1, o4) :: (L + 1 + 1 + 1 + 1 + 1, o5) :: (L + 1 + 1 + 1 + 1 + 1 + 1, o6) :: Z)) :
    wpAny (model Challenge.rw_sa0568_01.row.prog w) ((Ar dp un fr gd).deeper (lawEnv L fa cd)) (exec (lawStmt 6) (lawEnv L fa cd))
      (fun f s' => f = .next ∧ Box (∀ CC : Prop, (∀ h' tk' m' oBL eT T' tT, ∀ tvs : List Value, ∀ tms : List Int, (s' = { s with heap := h', toks := tk' }) → (Fr b L h' m') → (News b L h' ((BL, oBL) :: (RL, oRL) :: (TL, W.listOf tvs.toArray eT) :: (L + 1, oB) :: (L + 1 + 1, oM) :: (L + 1 + 1 + 1, o3) :: (L + 1 + 1 + 1 + 1, o4) :: (L + 1 + 1 + 1 + 1 + 1, o5) :: (L + 1 + 1 + 1 + 1 + 1 + 1, o6) :: Z)) → (IntsAre tvs tms) → (tms.length = 4) → (tms.Pairwise (· ≤ ·)) → (∀ x ∈ tms, x ≤ T') → (tms[3]? = some T') → (m' (Str.ofString "at") = some (.int T' tT)) → (∀ y, y ≠ Str.ofString "at" → y ≠ Str.ofString "part" → m' y = m y) → CC) → CC)) (fun _ _ => False) s := by
  have KX := G.K
  have TX := G.T
  revert KX; k_fill; intro KX
  refine gen ?_
  intro QQ retG
  have hk : lawStmt 6 = lawStmt 6 := rfl
  conv at hk => rhs; whnf
  rw [hk]; clear hk
  have he : lawEnv L fa cd = lawEnv L fa cd := rfl
  conv at he => rhs; unfold lawEnv
  have hs : fdScope lawFd = fdScope lawFd := rfl
  conv at hs => rhs; whnf
  rw [hs] at he
  rw [he]; clear he hs
  (try dsimp only); (try k_fold)
  k_dflt (refine For_invVF F (by rfl) (by rfl) ?_)
  k_steps
  unfold Hold
  rename Fr _ _ _ _ => F1
  rename News _ _ _ _ => N1
  rename IsRange _ _ _ _ _ _ _ _ => hR1
  obtain ⟨o28, ho28⟩ : ∃ o, b.get? 246 = some o := ⟨_, KX 246 _ (by k_dflt k_is)⟩
  refine loopRange (n := 4) (l := 246) rfl hR1 (by decide) (by decide) ho28 F1 N1 (fun (q : L = 246) => Nat.lt_irrefl _ (Nat.lt_of_lt_of_le (Heap.lt_size ho28) (q ▸ F1.above)))
    (fun i m' news => ∀ CC : Prop, (∀ nB k t eT T' tT, ∀ tvs : List Value, ∀ tms : List Int, (IntsAre tvs tms) → (tms.length = i) → (tms.Pairwise (· ≤ ·)) → (∀ x ∈ tms, x ≤ T') → (0 < i → tms[i - 1]? = some T') → (0 ≤ k) → (k ≤ 200 + (i : Int)) → (m' (Str.ofString "at") = some (.int T' tT)) → (∀ y, y ≠ Str.ofString "at" → y ≠ Str.ofString "part" → m' y = m y) → (news = (BL, W.listOf #[.ref LS, .int k t] nB) :: (RL, oRL) :: (TL, W.listOf tvs.toArray eT) :: (L + 1, oB) :: (L + 1 + 1, oM) :: (L + 1 + 1 + 1, o3) :: (L + 1 + 1 + 1 + 1, o4) :: (L + 1 + 1 + 1 + 1 + 1, o5) :: (L + 1 + 1 + 1 + 1 + 1 + 1, o6) :: Z) → CC) → CC)
    (fun CC kk => kk nB k t 0 T tA [] [] .nil rfl (by simp) (by simp) (by simp) hk0 (by omega) hmA (fun _ _ _ => rfl) rfl) ?turn ?done
  case turn =>
    intro i v m₁ news₁ I oI h tk hi HG1 HG2 off F2 N2
    refine gen ?_
    intro QG finG
    obtain ⟨ti, rfl⟩ := HG1
    refine HG2 _ ?_
    intro nB k t eT T' tT tvs tms hI hl hp hle hlast hk0 hk1 hmA1 hmo eq110
    subst eq110
    have hm : ∀ p ∈ [(Str.ofString "at", Value.int T' tT), (Str.ofString "times", .ref TL)], m₁ p.1 = some p.2 := by
      simp only [List.forall_mem_cons]
      exact ⟨hmA1, (hmo _ (by decide) (by decide)).trans hmT, by simp⟩
    obtain ⟨u1, hmu⟩ := map_list _ hm
    subst hmu
    clear F1 N1 hR1 hm
    have hkb : k ≤ 250 := by omega
    have cb := AP.cb
    have cb1 := cb.c1; have cb2 := cb.c2; have cb3 := cb.c3; have cb4 := cb.c4; have cb5 := cb.c5; have cb6 := cb.c6
    have cr1 := tc.c1; have cr2 := tc.c2; have cr3 := tc.c3; have cr4 := tc.c4; have cr5 := tc.c5; have cr6 := tc.c6
    have br := AP.br
    have zB := AP.zb
    have off' := off
    simp only [List.forall_mem_cons] at off'
    obtain ⟨f1, f2, f0, f3, f4, f5, f6, f7, f8, f9⟩ := off'
    replace f1 := neN f1; replace f2 := neN f2; replace f3 := neN f3; replace f4 := neN f4; replace f5 := neN f5; replace f6 := neN f6; replace f7 := neN f7; replace f8 := neN f8; replace f0 := neN f0
    have nLS : @Ne Nat LS BL := zB _ hLS
    have hsz : tvs.toArray.size ≤ sizeLine := by
      have := hI.length
      simp only [List.size_toArray, sizeLine_eq]; omega
    (try dsimp only); (try k_fold)
    k_steps
    unfold Hold
    rename Fr _ _ _ _ => F3
    rename News _ _ _ _ => N3
    replace F3 : Fr b L _ _ := F3
    have N4 := newsSub (tl' := (BL, W.listOf #[.ref LS, .int k t] nB) :: (I, oI) :: (RL, oRL) :: (TL, W.listOf tvs.toArray eT) :: (L + 1, oB) :: (L + 1 + 1, oM) :: (L + 1 + 1 + 1, o3) :: (L + 1 + 1 + 1 + 1, o4) :: (L + 1 + 1 + 1 + 1 + 1, o5) :: (L + 1 + 1 + 1 + 1 + 1 + 1, o6) :: Z) N3 (by walk_at "my sub2")
    replace N4 : News b L _ _ := N4
    clear N3
    have hls4 := isl (LS := LS) (its := vs4.toArray) (e := e4) N4 (by repeat (first | exact hLS | refine List.Mem.tail _ ?_))
    refine take_spec G (frKp F3) (room (d := dp) (n := 1000) (a := 6) (by assumption) (by decide)) (room (d := un) (n := 9900) (a := 103) (by assumption) (by decide)) (N4 (BL, _) (by k_mem)).1 (N4 (BL, _) (by k_mem)).2.2 hls4 hI4 nLS (by omega) (by omega) (by omega) (by omega) (by omega) ?_
    intro h5 tk5 r5 t5 t5' n5 hr50 hr51 k5 e5
    obtain ⟨F5, N5⟩ := takeUp F3 N4 k5 e5 (by walk_at "my apart")
    clear F3 N4
    (try dsimp only)
    k_steps
    rename Fr _ _ _ _ => F6
    rename News _ _ _ _ => N6
    refine finG _ _ ?_
    (try dsimp only)
    refine MyEnd.intro F6 N6 ((BL, W.listOf #[.ref LS, .int (k + 1) t5] n5) :: (RL, oRL) :: (TL, W.listOf (tvs ++ [Value.int (T' + 300 * r5) (tk5 + 1)]).toArray (eT + 1)) :: (L + 1, oB) :: (L + 1 + 1, oM) :: (L + 1 + 1 + 1, o3) :: (L + 1 + 1 + 1 + 1, o4) :: (L + 1 + 1 + 1 + 1 + 1, o5) :: (L + 1 + 1 + 1 + 1 + 1 + 1, o6) :: Z) ?sub ?off (fun CC kk => kk n5 (k + 1) t5 (eT + 1) (T' + 300 * r5) (tk5 + 1) (tvs ++ [.int (T' + 300 * r5) (tk5 + 1)]) (tms ++ [T' + 300 * r5]) (hI.append (.cons _ _ .nil)) (by simp [hl]) ?a1 ?a2 ?a3 (by omega) (by omega) rfl (fun y h1 h2 => ?a4) rfl)
    case sub =>
      rw [show (tvs ++ [Value.int (T' + 300 * r5) (tk5 + 1)]).toArray = tvs.toArray.push (.int (T' + 300 * r5) (tk5 + 1)) by simp]
      walk_at "my sub2"
    case off =>
      simp only [List.forall_mem_cons]
      exact ⟨f1, f2, f0, f3, f4, f5, f6, f7, f8, f9⟩
    case a1 =>
      rw [List.pairwise_append]
      exact ⟨hp, List.pairwise_singleton _ _, fun a ha c hc => by rw [List.mem_singleton.mp hc]; have := hle a ha; omega⟩
    case a2 =>
      intro x hx
      rcases List.mem_append.mp hx with h | h
      · have := hle x h; omega
      · rw [List.mem_singleton.mp h]; omega
    case a3 =>
      intro _
      simp [← hl]
    case a4 =>
      have := hmo y h1 h2
      dsimp only at this ⊢
      simp only [h1, h2, if_false]
      exact this
  case done =>
    intro m₁ news₁ h tk hh111 F2 N2
    refine hh111 _ ?_
    intro nB k t eT T' tT tvs tms hI hl hp hle hlast hk0 hk1 hmA1 hmo eq112
    subst eq112
    exact retG _ _ ⟨rfl, .mk fun CC kk => kk _ _ _ _ eT T' tT tvs tms rfl F2 N2 hI hl hp hle (hlast (by omega)) hmA1 hmo⟩
end
end Mine
end
-- Lg6
section
open PySem PySem.W PySem.Calls PyProof.Rows
set_option maxRecDepth 100000
namespace Mine
section
/-- all that are told -/
def wholeOf (sp : List Int) : List Int := (rangeKs 0 sp.length).filter fun k => decide (sp.getD k.toNat 0 < 4)
set_option maxHeartbeats 3000000 in
theorem law6_spec {w : World} {mean mg mb} {b : Heap} (G : Gd w mean mg mb b) {s : Shared} {dp un fr gd} {L fa : Addr} {cd : Value} {m : Str → Option Value} (hdp : dp + 60 < 1000) (hu : un + 600 < 9900)
    {Z : List (Addr × Obj)} {n : Nat} {tM : Tok} (hM8 : n ≤ 8) {SL : Addr} {vsS : List Value} {sp : List Int} {eS : Nat} (hSL : (SL, W.listOf vsS.toArray eS) ∈ Z) (hS : IntsAre vsS sp) (hsp : sp.length = n)
    {oB oM oS o4' o5 o6 : Obj} {v4 : Option Value} (dM : oM.data = Data.cell (some (.int (n : Int) tM))) (dS : oS.data = Data.cell (some (.ref SL))) (d4 : o4'.data = Data.cell v4) (zl : ∀ q ∈ Z, OffL L q.1)
    (F : Fr b L s.heap m) (N : News b L s.heap ((L + 1, oB) :: (L + 1 + 1, oM) :: (L + 1 + 1 + 1, oS) :: (L + 1 + 1 + 1 + 1, o4') :: (L + 1 + 1 + 1 + 1 + 1, o5) :: (L + 1 + 1 + 1 + 1 + 1 + 1, o6) :: Z)) :
    wpAny (model Challenge.rw_sa0568_01.row.prog w) ((Ar dp un fr gd).deeper (lawEnv L fa cd)) (exec (lawStmt 7) (lawEnv L fa cd))
      (fun f s' => f = .next ∧ Box (∀ CC : Prop, (∀ h' tk' WL oW, ∀ wvs : List Value, (s' = { s with heap := h', toks := tk' }) → (Fr b L h' m) → (News b L h' ((L + 1, oB) :: (L + 1 + 1, oM) :: (L + 1 + 1 + 1, oS) :: (L + 1 + 1 + 1 + 1, oW) :: (L + 1 + 1 + 1 + 1 + 1, o5) :: (L + 1 + 1 + 1 + 1 + 1 + 1, o6) :: (WL, W.listOf wvs.toArray wvs.length) :: Z)) → (oW.data = Data.cell (some (.ref WL))) → (IntsAre wvs (wholeOf sp)) → (OffL L WL) → CC) → CC)) (fun _ _ => False) s := by
  have KX := G.K
  have TX := G.T
  revert KX; k_fill; intro KX
  refine gen ?_
  intro QQ retG
  have hk : lawStmt 7 = lawStmt 7 := rfl
  conv at hk => rhs; whnf
  rw [hk]; clear hk
  have he : lawEnv L fa cd = lawEnv L fa cd := rfl
  conv at he => rhs; unfold lawEnv
  have hs : fdScope lawFd = fdScope lawFd := rfl
  conv at hs => rhs; whnf
  rw [hs] at he
  rw [he]; clear he hs
  have hM9 : (n : Int) ≤ 1000 := by omega
  clear hM8
  (try dsimp only); (try k_fold)
  k_steps
  unfold Hold
  rename Fr _ _ _ _ => F3
  rename News _ _ _ _ => N3
  rename IsRange _ _ _ _ _ _ _ _ => hR3
  refine LCt.CompSrcT.range (n := n) rfl F3 N3 hR3 (small_one (by omega) (by omega) (by omega) (by omega)) (rangeSize_nat _ _) (by simp only [sizeLine_eq]; omega) ?_
  intro g5
  refine compT_ind (fun i2 ys2 news2 => IntsAre ys2 (((rangeKs 0 sp.length).take i2).filter fun k => decide (sp.getD k.toNat 0 < 4)) ∧ news2 = (L + 1, oB) :: (L + 1 + 1, oM) :: (L + 1 + 1 + 1, oS) :: (L + 1 + 1 + 1 + 1, o4') :: (L + 1 + 1 + 1 + 1 + 1, o5) :: (L + 1 + 1 + 1 + 1 + 1 + 1, o6) :: Z) _ ?step2 ?fin2 _ 0 [] _ (Nat.zero_add _) ⟨.nil, rfl⟩
  case step2 =>
    rintro j ys2 news2 hj ⟨hys2, rfl⟩ v I2 oI2 C2 oC2 D2 m₂ hh2 tk3 E2 hv hC hx F4 N4 off4 ne4
    obtain ⟨tv, rfl⟩ := hv
    have hlt' : j < (rangeKs 0 sp.length).length := by rw [rangeKs_length]; omega
    have hstep := take_filter_succ (fun k => decide (sp.getD k.toNat 0 < 4)) (rangeKs 0 sp.length) j hlt'
    have hkj : (rangeKs 0 sp.length)[j] = 0 + (j : Int) := by simp [rangeKs]
    clear F3 N3 hR3
    (try dsimp only)
    k_steps
    refine item_anyK (isl (LS := SL) (its := vsS.toArray) (e := eS) N4 (by repeat (first | exact hSL | refine List.Mem.tail _ ?_))) hS (by omega) (by omega) (by omega) (fun tn => ?_)
    k_steps
    · rename _ < _ => hin
      unfold Hold
      refine LCg.CompEnd.intro F4 N4 _ (fun p hp => hp) off4 trivial ⟨?_, rfl⟩
      rw [hstep, if_pos (by rw [hkj]; exact decide_eq_true hin), hkj]
      exact hys2.append (.cons _ _ .nil)
    · rename ¬ _ < _ => hin
      unfold Hold
      refine LCg.CompEnd.intro F4 N4 _ (fun p hp => hp) off4 trivial ⟨?_, rfl⟩
      rw [hstep, if_neg (by rw [hkj]; simpa using hin), List.append_nil]
      exact hys2
  case fin2 =>
    rintro ys2 news2 ⟨hys2, rfl⟩ WL hh2 tk3 F4 N4 off4
    rw [List.take_of_length_le (by rw [rangeKs_length]; omega)] at hys2
    clear F3 N3 hR3
    have o4 := off1mem off4
    have w1 : @Ne Nat (L + 1) WL := o4 (L + 1, _) (by k_mem)
    have w2 : @Ne Nat (L + 1 + 1) WL := o4 (L + 1 + 1, _) (by k_mem)
    have w3 : @Ne Nat (L + 1 + 1 + 1) WL := o4 (L + 1 + 1 + 1, _) (by k_mem)
    have w4 : @Ne Nat (L + 1 + 1 + 1 + 1) WL := o4 (L + 1 + 1 + 1 + 1, _) (by k_mem)
    have w5 : @Ne Nat (L + 1 + 1 + 1 + 1 + 1) WL := o4 (L + 1 + 1 + 1 + 1 + 1, _) (by k_mem)
    have w6 : @Ne Nat (L + 1 + 1 + 1 + 1 + 1 + 1) WL := o4 (L + 1 + 1 + 1 + 1 + 1 + 1, _) (by k_mem)
    have z4 : ∀ q ∈ Z, q.1 ≠ L + 1 + 1 + 1 + 1 := fun q hq => Ne.symm (zl q hq).c4
    (try dsimp only)
    k_steps
    rename Fr _ _ _ _ => F5
    rename News _ _ _ _ => N5
    rename Obj.data _ = Data.cell (some (Value.ref WL)) => dW
    exact retG _ _ ⟨rfl, .mk fun CC kk => kk _ _ WL _ ys2 rfl F5 (newsSub N5 (by walk_at "my sub2")) dW hys2 ⟨w1, w2, w3, w4, w5, w6⟩⟩
end
end Mine
end
-- Lg7
section
open PySem PySem.W PySem.Calls PyProof.Rows
set_option maxRecDepth 100000
namespace Mine
/-- a Space that a run made enters the ledger -/
theorem Pl.fresh {w : World} {b g h h' : Heap} {L x dx sd : Addr} {m : Str → Option Value} {nn : Int} {la : Option Int} {ps : List Pk} {news : List (Addr × Obj)} (F : Fr g L h m) (N : News g L h news) (k : Kp [] h h') (S : Sp w b h' x dx sd nn la ps)
    (fx : h.get? x = none) (fdx : h.get? dx = none) (fsd : h.get? sd = none) (fp : ∀ p ∈ ps, h.get? p.a = none ∧ h.get? p.d = none) {CC : Prop} (kk : ∀ t i0 lav le r od TP, (Pl w x dx sd la lav od ps TP) → (News g L h' ((x, instObj 235 dx) :: (dx, spD w t (.int nn i0) (.ref sd) lav le r) :: (sd, od) :: (TP ++ news))) → (∀ q ∈ (x, instObj 235 dx) :: (dx, spD w t (.int nn i0) (.ref sd) lav le r) :: (sd, od) :: TP, h.get? q.1 = none) → CC) : CC := by
  obtain ⟨t, i0, lav, le, r, edx, hla⟩ := S.edx
  obtain ⟨od, eod, hod⟩ := Heap.dictOf_iff.mp S.esd
  obtain ⟨TP, h1, h2⟩ := pkList ps S.pks
  have fT : ∀ q ∈ TP, h.get? q.1 = none := fun q hq => by
    obtain ⟨_, _, p, hp, e⟩ := h2 q hq
    rcases e with e | e <;> rw [e]
    · exact (fp p hp).1
    · exact (fp p hp).2
  refine kk t i0 lav le r od TP ⟨S.sys, S.lt, S.n1, S.n2, hla, hod, h1, fun q hq => (h2 q hq).2.1⟩ (newsAdd F fx S.ex (newsAdd F fdx edx (newsAdd F fsd eod fun q hq => ?_))) ?_
  · rcases List.mem_append.mp hq with hq | hq
    · exact ⟨(h2 q hq).1, frNew F (fT q hq)⟩
    · exact N.grown k.all q hq
  · simp only [List.forall_mem_cons]
    exact ⟨fx, fdx, fsd, fT⟩
/-- what a run handed back, on the ledger -/
structure RunZ (w : World) (Z : List (Addr × Obj)) (T : Addr) (st : St) : Prop where
  ex : ∀ CC : Prop, (∀ x dx sd GL vsG eG lv nn lav od ps TP t i0 le r, ((T, tupOf #[.ref x, .ref GL, lv]) ∈ Z) → ((GL, W.listOf (vsG : List Value).toArray eG) ∈ Z) → ((x, instObj 235 dx) ∈ Z) → ((dx, spD w t (.int nn i0) (.ref sd) lav le r) ∈ Z) → ((sd, od) ∈ Z) → (∀ q ∈ TP, q ∈ Z) → (Pl w x dx sd st.la lav od ps TP) → (IntsAre vsG st.gone) → (OptIs lv st.later) → (ps.map Pk.q = st.qs) → CC) → CC
theorem RunZ.mono {w : World} {Z Z' : List (Addr × Obj)} {T : Addr} {st : St} (x : RunZ w Z T st) (h : ∀ q ∈ Z, q ∈ Z') : RunZ w Z' T st := by
  refine x.ex _ ?_
  intro x dx sd GL vsG eG lv nn lav od ps TP t i0 le r a1 a2 a3 a4 a5 a6 a7 a8 a9 a10
  exact ⟨fun CC kk => kk x dx sd GL vsG eG lv nn lav od ps TP t i0 le r (h _ a1) (h _ a2) (h _ a3) (h _ a4) (h _ a5) (fun q hq => h q (a6 q hq)) a7 a8 a9 a10⟩
theorem rowsOk_of {b h : Heap} {L RL : Addr} {news : List (Addr × Obj)} {rows : List Rw} {eR : Nat} (N : News b L h news) (hR : (RL, W.listOf (rows.map fun r : Rw => Value.ref r.a).toArray eR) ∈ news) (hz : ∀ r ∈ rows, RowZ news r) : RowsOk b h RL rows := by
  refine ⟨⟨eR, (N _ hR).1⟩, fun r hr => (N _ (hz r hr).1).1, fun r hr => ?_⟩
  obtain ⟨_, n, tu, t1, b1, c, d⟩ := hz r hr
  refine ⟨n, tu, t1, (N _ b1).1, ?_, c, (N _ b1).2.2, ?_⟩
  · unfold TuZ at d; unfold TuIs
    cases hp : r.ping with
    | true => rw [hp] at d; simp only [if_true] at d ⊢; exact (N _ d).1
    | false => rw [hp] at d; simp only [Bool.false_eq_true, if_false] at d ⊢; obtain ⟨t2, l, e⟩ := d; exact ⟨t2, l, (N _ e).1⟩
  · unfold TuZ at d
    cases hp : r.ping with
    | true => rw [hp] at d; simp only [if_true] at d; exact (N _ d).2.2
    | false => rw [hp] at d; simp only [Bool.false_eq_true, if_false] at d; obtain ⟨t2, l, e⟩ := d; exact (N _ e).2.2
theorem wholeOf_asc (sp : List Int) : (wholeOf sp).Pairwise (· < ·) := (rangeKs_lt sp.length 0).sublist List.filter_sublist
theorem wholeOf_len (sp : List Int) : (wholeOf sp).length ≤ sp.length := by
  have := List.length_filter_le (fun k : Int => decide (sp.getD k.toNat 0 < 4)) (rangeKs 0 sp.length)
  rwa [rangeKs_length] at this
theorem lotOf_asc (sp : List Int) (j : Int) : (lotOf sp j).Pairwise (· < ·) := (rangeKs_lt sp.length 0).sublist List.filter_sublist
theorem lotOf_len (sp : List Int) (j : Int) : (lotOf sp j).length ≤ sp.length := by
  have := List.length_filter_le (fun k : Int => decide (sp.getD k.toNat 0 = j)) (rangeKs 0 sp.length)
  rwa [rangeKs_length] at this
section
set_option maxHeartbeats 3000000 in
theorem law7_spec {w : World} {mean mg mb} {b : Heap} (G : Gd w mean mg mb b) {s : Shared} {dp un fr gd} {L fa : Addr} {cd : Value} {m : Str → Option Value} (hdp : dp + 60 < 1000) (hu : un + 600 < 9900)
    {Z : List (Addr × Obj)} {RL WL : Addr} {rows : List Rw} {eR : Nat} {wvs : List Value} {sp : List Int} {T dl : Int} {tA td : Tok} (hRL : (RL, W.listOf (rows.map fun r : Rw => Value.ref r.a).toArray eR) ∈ Z) (hrz : ∀ r ∈ rows, RowZ Z r) (hrl : rows.length ≤ 8)
    (hWL : (WL, W.listOf wvs.toArray wvs.length) ∈ Z) (hW : IntsAre wvs (wholeOf sp)) (hsp : sp.length ≤ 8)
    {l3 : List (Str × Value)} (hm : ∀ p ∈ [(Str.ofString "delay", Value.int dl td), (Str.ofString "rows", .ref RL), (Str.ofString "at", .int T tA)], m p.1 = some p.2)
    {oB oM oS oW o5 o6 : Obj} {v5 : Option Value} (dW : oW.data = Data.cell (some (.ref WL))) (d5 : o5.data = Data.cell v5) (zl : ∀ q ∈ Z, OffL L q.1)
    (F : Fr b L s.heap m) (N : News b L s.heap ((L + 1, oB) :: (L + 1 + 1, oM) :: (L + 1 + 1 + 1, oS) :: (L + 1 + 1 + 1 + 1, oW) :: (L + 1 + 1 + 1 + 1 + 1, o5) :: (L + 1 + 1 + 1 + 1 + 1 + 1, o6) :: Z)) :
    wpAny (model Challenge.rw_sa0568_01.row.prog w) ((Ar dp un fr gd).deeper (lawEnv L fa cd)) (exec (lawStmt 8) (lawEnv L fa cd))
      (fun f s' => f = .next ∧ Box (∀ CC : Prop, (∀ h' tk' T1 oO Z', (s' = { s with heap := h', toks := tk' }) → (Fr b L h' m) → (News b L h' ((L + 1, oB) :: (L + 1 + 1, oM) :: (L + 1 + 1 + 1, oS) :: (L + 1 + 1 + 1 + 1, oW) :: (L + 1 + 1 + 1 + 1 + 1, oO) :: (L + 1 + 1 + 1 + 1 + 1 + 1, o6) :: Z')) → (oO.data = Data.cell (some (.ref T1))) → (RunZ w Z' T1 (runQ dl (rowsQ rows) [(T, wholeOf sp)])) → (∀ q ∈ Z, q ∈ Z') → (∀ q ∈ Z', OffL L q.1) → CC) → CC)) (fun _ _ => False) s := by
  have KX := G.K
  have TX := G.T
  revert KX; k_fill; intro KX
  refine gen ?_
  intro QQ retG
  have hk : lawStmt 8 = lawStmt 8 := rfl
  conv at hk => rhs; whnf
  rw [hk]; clear hk
  have he : lawEnv L fa cd = lawEnv L fa cd := rfl
  conv at he => rhs; unfold lawEnv
  have hs : fdScope lawFd = fdScope lawFd := rfl
  conv at hs => rhs; whnf
  rw [hs] at he
  rw [he]; clear he hs
  obtain ⟨u, hmu⟩ := map_list _ hm
  subst hmu
  clear hm
  (try dsimp only); (try k_fold)
  k_steps
  unfold Hold
  rename Fr _ _ _ _ => F1
  rename News _ _ _ _ => N1
  obtain ⟨PL, e⟩ : ∃ z, z = adr0 N1 := ⟨_, rfl⟩
  dsimp only [adr0] at e
  subst e
  obtain ⟨PA, e⟩ : ∃ z, z = adr1 N1 := ⟨_, rfl⟩
  dsimp only [adr1] at e
  subst e
  have inZ : ∀ q ∈ Z, q ∈ (PL, W.listOf #[.ref PA] 0) :: (PA, tupOf #[.int T tA, .ref WL]) :: (L + 1, oB) :: (L + 1 + 1, oM) :: (L + 1 + 1 + 1, oS) :: (L + 1 + 1 + 1 + 1, oW) :: (L + 1 + 1 + 1 + 1 + 1, o5) :: (L + 1 + 1 + 1 + 1 + 1 + 1, o6) :: Z := fun q hq => .tail _ (.tail _ (.tail _ (.tail _ (.tail _ (.tail _ (.tail _ (.tail _ hq)))))))
  have hlenw := wholeOf_len sp
  refine run_spec (rows := rows) (parts := [⟨PA, T, tA, WL, wvs, wvs.length, wholeOf sp⟩]) G (frKp F1) (room (d := dp) (n := 1000) (a := 51) (by assumption) (by decide)) (room (d := un) (n := 9900) (a := 503) (by assumption) (by decide)) (rowsOk_of N1 (inZ _ hRL) fun r hr => (hrz r hr).mono inZ)
    ⟨⟨_, (N1 (PL, _) (by k_mem)).1⟩, fa1 (N1 (PA, _) (by k_mem)).1, fa1 ⟨(N1 _ (inZ _ hWL)).1, hW⟩⟩ (by omega) (by simp) (fa1 ⟨wholeOf_asc sp, by show (wholeOf sp).length < 64; omega⟩) ?_
  intro h5 tk5 T1 x dx sd GL vsG eG lv nn ps k5 fr5 fps eT eGL hG hlv S5 hq
  try dsimp only at k5 fr5 fps
  simp only [List.forall_mem_cons] at fr5
  obtain ⟨fT, fGL, fx, fdx, fsd, _⟩ := fr5
  refine Pl.fresh F1 N1 k5 S5 fx fdx fsd fps ?_
  intro t5 i5 lav5 le5 r5 od5 TP5 P5 N5 fP5
  have F5 := F1.keeps k5.all
  have N6 := newsAdd F1 fT eT (newsAdd F1 fGL eGL N5)
  have offN : ∀ a, Heap.get? _ a = none → OffL L a := fun a ha => ⟨neOf (N1 (L + 1, _) (by k_mem)).1 ha, neOf (N1 (L + 1 + 1, _) (by k_mem)).1 ha, neOf (N1 (L + 1 + 1 + 1, _) (by k_mem)).1 ha, neOf (N1 (L + 1 + 1 + 1 + 1, _) (by k_mem)).1 ha, neOf (N1 (L + 1 + 1 + 1 + 1 + 1, _) (by k_mem)).1 ha, neOf (N1 (L + 1 + 1 + 1 + 1 + 1 + 1, _) (by k_mem)).1 ha⟩
  obtain ⟨Z2, hZ2⟩ : ∃ Z2, Z2 = (T1, tupOf #[.ref x, .ref GL, lv]) :: (GL, W.listOf vsG.toArray eG) :: (x, instObj 235 dx) :: (dx, spD w t5 (.int nn i5) (.ref sd) lav5 le5 r5) :: (sd, od5) :: (TP5 ++ Z) := ⟨_, rfl⟩
  have zz : ∀ q ∈ Z, q ∈ Z2 := fun q hq => hZ2 ▸ .tail _ (.tail _ (.tail _ (.tail _ (.tail _ (List.mem_append_right _ hq)))))
  have zl2 : ∀ q ∈ Z2, OffL L q.1 := by
    rw [hZ2]
    simp only [List.forall_mem_cons] at fP5 ⊢
    refine ⟨offN _ fT, offN _ fGL, offN _ fP5.1, offN _ fP5.2.1, offN _ fP5.2.2.1, fun q hq => ?_⟩
    rcases List.mem_append.mp hq with h | h
    · exact offN _ (fP5.2.2.2 q h)
    · exact zl q h
  have hRZ : RunZ w Z2 T1 (runQ dl (rowsQ rows) [(T, wholeOf sp)]) := by
    rw [hZ2]
    exact ⟨fun CC kk => kk x dx sd GL vsG eG lv nn lav5 od5 ps TP5 t5 i5 le5 r5 (.head _) (.tail _ (.head _)) (.tail _ (.tail _ (.head _))) (.tail _ (.tail _ (.tail _ (.head _)))) (.tail _ (.tail _ (.tail _ (.tail _ (.head _))))) (fun q hq => .tail _ (.tail _ (.tail _ (.tail _ (.tail _ (List.mem_append_left _ hq)))))) P5 hG hlv hq⟩
  have N7 := newsSub (tl' := (L + 1, oB) :: (L + 1 + 1, oM) :: (L + 1 + 1 + 1, oS) :: (L + 1 + 1 + 1 + 1, oW) :: (L + 1 + 1 + 1 + 1 + 1, o5) :: (L + 1 + 1 + 1 + 1 + 1 + 1, o6) :: Z2) N6 (by
    rw [hZ2]
    intro q hq
    simp only [List.mem_cons, List.mem_append] at hq ⊢
    rcases hq with h | h | h | h | h | h | h | h | h | h | h | h | h <;> simp [h])
  have z5 : ∀ q ∈ Z2, q.1 ≠ L + 1 + 1 + 1 + 1 + 1 := fun q hq => Ne.symm (zl2 q hq).c5
  clear F1 N1 N5 N6 fP5 offN
  clear hZ2
  (try dsimp only)
  k_steps
  rename Fr _ _ _ _ => F8
  rename News _ _ _ _ => N8
  rename Obj.data _ = Data.cell (some (Value.ref T1)) => dO
  exact retG _ _ ⟨rfl, .mk fun CC kk => kk _ _ T1 _ Z2 rfl F8 N8 dO hRZ zz zl2⟩
end
end Mine
end
-- Lg8
section
open PySem PySem.W PySem.Calls PyProof.Rows
set_option maxRecDepth 100000
namespace Mine
section
set_option maxHeartbeats 3000000 in
theorem some0_spec {w : World} {mean mg mb} {b : Heap} (G : Gd w mean mg mb b) {s : Shared} {dp un fr gd} {L fa : Addr} {cd : Value} {m : Str → Option Value} (hdp : dp + 60 < 1000) (hu : un + 600 < 9900)
    {Z : List (Addr × Obj)} {RL TL SS : Addr} {rows : List Rw} {eR eT eS : Nat} {dl : Int} {td : Tok} (hRL : (RL, W.listOf (rows.map fun r : Rw => Value.ref r.a).toArray eR) ∈ Z) (hrz : ∀ r ∈ rows, RowZ Z r) (hrl : rows.length ≤ 8)
    {a0 a1 a2 a3 : Int} {t0 t1 t2 t3 : Tok} (hTL : (TL, W.listOf #[.int a0 t0, .int a1 t1, .int a2 t2, .int a3 t3] eT) ∈ Z) {l0 l1 l2 l3 : Lt} (hSS : (SS, W.listOf #[.ref l0.a, .ref l1.a, .ref l2.a, .ref l3.a] eS) ∈ Z)
    {n0 n1 n2 n3 : List Int} (h0 : l0.obj ∈ Z) (h1 : l1.obj ∈ Z) (h2' : l2.obj ∈ Z) (h3 : l3.obj ∈ Z) (i0 : IntsAre l0.vs n0) (i1 : IntsAre l1.vs n1) (i2 : IntsAre l2.vs n2) (i3 : IntsAre l3.vs n3)
    (hns : ∀ ns ∈ [n0, n1, n2, n3], ns.Pairwise (· < ·) ∧ ns.length < 64)
    (hm : ∀ p ∈ [(Str.ofString "delay", Value.int dl td), (Str.ofString "rows", .ref RL), (Str.ofString "times", .ref TL), (Str.ofString "some", .ref SS)], m p.1 = some p.2)
    {oB oM oS oW oO o6 : Obj} {v6 : Option Value} (d6 : o6.data = Data.cell v6) (zl : ∀ q ∈ Z, OffL L q.1) {I : Addr} {oI : Obj} (cI : OffL L I)
    (F : Fr b L s.heap m) (N : News b L s.heap ((I, oI) :: (L + 1, oB) :: (L + 1 + 1, oM) :: (L + 1 + 1 + 1, oS) :: (L + 1 + 1 + 1 + 1, oW) :: (L + 1 + 1 + 1 + 1 + 1, oO) :: (L + 1 + 1 + 1 + 1 + 1 + 1, o6) :: Z)) :
    wpAny (model Challenge.rw_sa0568_01.row.prog w) ((Ar dp un fr gd).deeper (lawEnv L fa cd)) (exec (someStmt 0) (lawEnv L fa cd))
      (fun f s' => f = .next ∧ Box (∀ CC : Prop, (∀ h' tk' T2 oR Z', (s' = { s with heap := h', toks := tk' }) → (Fr b L h' m) → (News b L h' ((I, oI) :: (L + 1, oB) :: (L + 1 + 1, oM) :: (L + 1 + 1 + 1, oS) :: (L + 1 + 1 + 1 + 1, oW) :: (L + 1 + 1 + 1 + 1 + 1, oO) :: (L + 1 + 1 + 1 + 1 + 1 + 1, oR) :: Z')) → (oR.data = Data.cell (some (.ref T2))) → (RunZ w Z' T2 (runQ dl (rowsQ rows) [(a0, n0), (a1, n1), (a2, n2), (a3, n3)])) → (∀ q ∈ Z, q ∈ Z') → (∀ q ∈ Z', q ∈ Z ∨ s.heap.get? q.1 = none) → (∀ q ∈ Z', OffL L q.1) → CC) → CC)) (fun _ _ => False) s := by
  have KX := G.K
  have TX := G.T
  revert KX; k_fill; intro KX
  refine gen ?_
  intro QQ retG
  have hk : someStmt 0 = someStmt 0 := rfl
  conv at hk => rhs; whnf
  rw [hk]; clear hk
  have he : lawEnv L fa cd = lawEnv L fa cd := rfl
  conv at he => rhs; unfold lawEnv
  have hs : fdScope lawFd = fdScope lawFd := rfl
  conv at hs => rhs; whnf
  rw [hs] at he
  rw [he]; clear he hs
  obtain ⟨u, hmu⟩ := map_list _ hm
  subst hmu
  clear hm
  have N0 := newsSub (tl' := (TL, W.listOf #[.int a0 t0, .int a1 t1, .int a2 t2, .int a3 t3] eT) :: (SS, W.listOf #[.ref l0.a, .ref l1.a, .ref l2.a, .ref l3.a] eS) :: (I, oI) :: (L + 1, oB) :: (L + 1 + 1, oM) :: (L + 1 + 1 + 1, oS) :: (L + 1 + 1 + 1 + 1, oW) :: (L + 1 + 1 + 1 + 1 + 1, oO) :: (L + 1 + 1 + 1 + 1 + 1 + 1, o6) :: Z) N (by
    refine List.forall_mem_cons.mpr ⟨by repeat (first | exact hTL | refine List.Mem.tail _ ?_), List.forall_mem_cons.mpr ⟨by repeat (first | exact hSS | refine List.Mem.tail _ ?_), fun q hq => hq⟩⟩)
  clear N
  (try dsimp only); (try k_fold)
  k_steps
  rename Fr _ _ _ _ => F1
  rename News _ _ _ _ => N1
  rename ZipApart _ _ _ _ _ _ _ => D1
  rename IsZip _ _ _ _ _ ∧ _ => hZ1
  obtain ⟨y1, y2, y3, y4, y5, y6, y7⟩ := hZ1
  have N0 := (by assumption : News b L s.heap _)
  k_dflt (refine zip_listN (by assumption : Fr b L s.heap _) N0 F1 N1 D1 rfl y1 y2 y3 y4 y5 y6 y7 (by assumption) (by assumption) (by assumption) (by assumption) ?_ (by assumption))
  intro h2 tk2 PL T0 T1 T2 T3 c2 fr2 hk2 F2 N2
  have hkk : ∀ c o, s.heap.get? c = some o → h2.get? c = some o := fun c o e => hk2 c o e ((by assumption : ∀ (c : Addr) (o : Obj), s.heap.get? c = some o → Heap.get? _ c = some o) c o e)
  clear F1 N1 D1 y1 y2 y3 y4 y5 y6 y7
  (try dsimp only)
  k_steps
  unfold Hold
  rename Fr _ _ _ _ => F3
  rename News _ _ _ _ => N3
  have inZ : ∀ q ∈ Z, q ∈ (PL, W.listOf #[.ref T0, .ref T1, .ref T2, .ref T3] c2) :: (T0, tupOf #[.int a0 t0, .ref l0.a]) :: (T1, tupOf #[.int a1 t1, .ref l1.a]) :: (T2, tupOf #[.int a2 t2, .ref l2.a]) :: (T3, tupOf #[.int a3 t3, .ref l3.a]) :: (TL, W.listOf #[.int a0 t0, .int a1 t1, .int a2 t2, .int a3 t3] eT) :: (SS, W.listOf #[.ref l0.a, .ref l1.a, .ref l2.a, .ref l3.a] eS) :: (I, oI) :: (L + 1, oB) :: (L + 1 + 1, oM) :: (L + 1 + 1 + 1, oS) :: (L + 1 + 1 + 1 + 1, oW) :: (L + 1 + 1 + 1 + 1 + 1, oO) :: (L + 1 + 1 + 1 + 1 + 1 + 1, o6) :: Z := fun q hq => by
    iterate 14 (refine .tail _ ?_)
    exact hq
  simp only [List.forall_mem_cons] at hns
  obtain ⟨ns0, ns1, ns2, ns3, _⟩ := hns
  refine run_spec (rows := rows) (parts := [⟨T0, a0, t0, l0.a, l0.vs, l0.e, n0⟩, ⟨T1, a1, t1, l1.a, l1.vs, l1.e, n1⟩, ⟨T2, a2, t2, l2.a, l2.vs, l2.e, n2⟩, ⟨T3, a3, t3, l3.a, l3.vs, l3.e, n3⟩]) G (frKp F3) (room (d := dp) (n := 1000) (a := 51) (by assumption) (by decide)) (room (d := un) (n := 9900) (a := 503) (by assumption) (by decide)) (rowsOk_of N3 (inZ _ hRL) fun r hr => (hrz r hr).mono inZ)
    ⟨⟨_, (N3 (PL, _) (by k_mem)).1⟩, ?_, ?_⟩ (by omega) (by simp) ?_ ?_
  · simp only [List.forall_mem_cons]
    exact ⟨(N3 (T0, _) (by k_mem)).1, (N3 (T1, _) (by k_mem)).1, (N3 (T2, _) (by k_mem)).1, (N3 (T3, _) (by k_mem)).1, by simp⟩
  · simp only [List.forall_mem_cons]
    exact ⟨⟨(N3 _ (inZ _ h0)).1, i0⟩, ⟨(N3 _ (inZ _ h1)).1, i1⟩, ⟨(N3 _ (inZ _ h2')).1, i2⟩, ⟨(N3 _ (inZ _ h3)).1, i3⟩, by simp⟩
  · simp only [List.forall_mem_cons]
    exact ⟨ns0, ns1, ns2, ns3, by simp⟩
  intro h5 tk5 T1' x dx sd GL vsG eG lv nn ps k5 fr5 fps eT5 eGL hG hlv S5 hq
  try dsimp only at k5 fr5 fps
  simp only [List.forall_mem_cons] at fr5
  obtain ⟨fT, fGL, fx, fdx, fsd, _⟩ := fr5
  refine Pl.fresh F3 N3 k5 S5 fx fdx fsd fps ?_
  intro t5 i5 lav5 le5 r5 od5 TP5 P5 N5 fP5
  have F5 := F3.keeps k5.all
  have N6 := newsAdd F3 fT eT5 (newsAdd F3 fGL eGL N5)
  have offN : ∀ a, Heap.get? _ a = none → OffL L a := fun a ha => ⟨neOf (N3 (L + 1, _) (by k_mem)).1 ha, neOf (N3 (L + 1 + 1, _) (by k_mem)).1 ha, neOf (N3 (L + 1 + 1 + 1, _) (by k_mem)).1 ha, neOf (N3 (L + 1 + 1 + 1 + 1, _) (by k_mem)).1 ha, neOf (N3 (L + 1 + 1 + 1 + 1 + 1, _) (by k_mem)).1 ha, neOf (N3 (L + 1 + 1 + 1 + 1 + 1 + 1, _) (by k_mem)).1 ha⟩
  have s0N : ∀ a, h2.get? a = none → s.heap.get? a = none := fun a ha => kpFresh (Kp.of hkk) ha
  obtain ⟨Z2, hZ2⟩ : ∃ Z2, Z2 = (T1', tupOf #[.ref x, .ref GL, lv]) :: (GL, W.listOf vsG.toArray eG) :: (x, instObj 235 dx) :: (dx, spD w t5 (.int nn i5) (.ref sd) lav5 le5 r5) :: (sd, od5) :: (TP5 ++ Z) := ⟨_, rfl⟩
  have zz : ∀ q ∈ Z, q ∈ Z2 := fun q hq => hZ2 ▸ .tail _ (.tail _ (.tail _ (.tail _ (.tail _ (List.mem_append_right _ hq)))))
  have zo : ∀ q ∈ Z2, q ∈ Z ∨ (s.heap.get? q.1 = none ∧ OffL L q.1) := by
    rw [hZ2]
    simp only [List.forall_mem_cons] at fP5 ⊢
    refine ⟨.inr ⟨s0N _ fT, offN _ fT⟩, .inr ⟨s0N _ fGL, offN _ fGL⟩, .inr ⟨s0N _ fP5.1, offN _ fP5.1⟩, .inr ⟨s0N _ fP5.2.1, offN _ fP5.2.1⟩, .inr ⟨s0N _ fP5.2.2.1, offN _ fP5.2.2.1⟩, fun q hq => ?_⟩
    rcases List.mem_append.mp hq with h | h
    · exact .inr ⟨s0N _ (fP5.2.2.2 q h), offN _ (fP5.2.2.2 q h)⟩
    · exact .inl h
  have zl2 : ∀ q ∈ Z2, OffL L q.1 := fun q hq => by
    rcases zo q hq with h | h
    · exact zl q h
    · exact h.2
  have hRZ : RunZ w Z2 T1' (runQ dl (rowsQ rows) [(a0, n0), (a1, n1), (a2, n2), (a3, n3)]) := by
    rw [hZ2]
    exact ⟨fun CC kk => kk x dx sd GL vsG eG lv nn lav5 od5 ps TP5 t5 i5 le5 r5 (.head _) (.tail _ (.head _)) (.tail _ (.tail _ (.head _))) (.tail _ (.tail _ (.tail _ (.head _)))) (.tail _ (.tail _ (.tail _ (.tail _ (.head _))))) (fun q hq => .tail _ (.tail _ (.tail _ (.tail _ (.tail _ (List.mem_append_left _ hq)))))) P5 hG hlv hq⟩
  have N7 := newsSub (tl' := (I, oI) :: (L + 1, oB) :: (L + 1 + 1, oM) :: (L + 1 + 1 + 1, oS) :: (L + 1 + 1 + 1 + 1, oW) :: (L + 1 + 1 + 1 + 1 + 1, oO) :: (L + 1 + 1 + 1 + 1 + 1 + 1, o6) :: Z2) N6 (by
    rw [hZ2]
    intro q hq
    simp only [List.mem_cons, List.mem_append] at hq ⊢
    rcases hq with h | h | h | h | h | h | h | h | h | h | h | h | h | h <;> simp [h])
  have z6 : ∀ q ∈ Z2, q.1 ≠ L + 1 + 1 + 1 + 1 + 1 + 1 := fun q hq => Ne.symm (zl2 q hq).c6
  have cI6 := cI.c6
  clear F3 N3 N5 N6 fP5 offN N0
  clear hZ2
  (try dsimp only)
  k_steps
  rename Fr _ _ _ _ => F8
  rename News _ _ _ _ => N8
  rename Obj.data _ = Data.cell (some (Value.ref T1')) => dO
  exact retG _ _ ⟨rfl, .mk fun CC kk => kk _ _ T1' _ Z2 rfl F8 N8 dO hRZ zz (fun q hq => (zo q hq).imp id And.left) zl2⟩
end
end Mine
end
-- Lg9
section
open PySem PySem.W PySem.Calls PyProof.Rows
set_option maxRecDepth 100000
namespace Mine
theorem octs_q (ps : List Pk) : octs ps = (((ps.map Pk.q).filter (·.ping)).map (·.sz)).sum := by
  unfold octs
  rw [List.filter_map, List.map_map]
  rfl
section
local macro_rules
  | `(tactic| walk_at "compareOp NotEq ref ref") => `(tactic| (refine hold ?_))
  | `(tactic| walk_at "compareOp NotIn int ref") => `(tactic| (refine hold ?_))
  | `(tactic| walk_at "call builtin:sorted") => `(tactic| (refine hold ?_))
  | `(tactic| walk_at "call builtin:list.count") => `(tactic| (refine hold ?_))
set_option maxHeartbeats 3000000 in
theorem some1_spec {w : World} {mean mg mb} {b : Heap} (G : Gd w mean mg mb b) {s : Shared} {dp un fr gd} {L fa : Addr} {cd : Value} {m : Str → Option Value} (hdp : dp + 60 < 1000) (hu : un + 600 < 9900)
    {Z : List (Addr × Obj)} {T1 T2 : Addr} {st1 st2 : St} {oB oM oS oW oO oR : Obj} (dO : oO.data = Data.cell (some (.ref T1))) (dR : oR.data = Data.cell (some (.ref T2))) (R1 : RunZ w Z T1 st1) (R2 : RunZ w Z T2 st2)  {I : Addr} {oI : Obj}
    (F : Fr b L s.heap m) (N : News b L s.heap ((I, oI) :: (L + 1, oB) :: (L + 1 + 1, oM) :: (L + 1 + 1 + 1, oS) :: (L + 1 + 1 + 1 + 1, oW) :: (L + 1 + 1 + 1 + 1 + 1, oO) :: (L + 1 + 1 + 1 + 1 + 1 + 1, oR) :: Z)) :
    wpAny (model Challenge.rw_sa0568_01.row.prog w) ((Ar dp un fr gd).deeper (lawEnv L fa cd)) (exec (someStmt 1) (lawEnv L fa cd))
      (fun f s' => f = .next ∧ Box (∀ CC : Prop, (∀ h' tk', (s' = { s with heap := h', toks := tk' }) → (Fr b L h' m) → (News b L h' ((I, oI) :: (L + 1, oB) :: (L + 1 + 1, oM) :: (L + 1 + 1 + 1, oS) :: (L + 1 + 1 + 1 + 1, oW) :: (L + 1 + 1 + 1 + 1 + 1, oO) :: (L + 1 + 1 + 1 + 1 + 1 + 1, oR) :: Z)) → CC) → CC)) (fun _ _ => False) s := by
  have KX := G.K
  have TX := G.T
  revert KX; k_fill; intro KX
  refine gen ?_
  intro QQ retG
  have hk : someStmt 1 = someStmt 1 := rfl
  conv at hk => rhs; whnf
  rw [hk]; clear hk
  have he : lawEnv L fa cd = lawEnv L fa cd := rfl
  conv at he => rhs; unfold lawEnv
  have hs : fdScope lawFd = fdScope lawFd := rfl
  conv at hs => rhs; whnf
  rw [hs] at he
  rw [he]; clear he hs
  have hun : (Ar dp un fr gd).units + 3 + 64 < cLine := by show un + 3 + 64 < cLine; simp only [cLine]; omega
  refine R1.ex _ ?_
  intro x1 dx1 sd1 GL1 vsG1 eG1 lv1 nn1 lav1 od1 ps1 TP1 tt1 ii1 le1 r1 a1 a2 a3 a4 a5 a6 P1 hG1 hlv1 hq1
  refine R2.ex _ ?_
  intro x2 dx2 sd2 GL2 vsG2 eG2 lv2 nn2 lav2 od2 ps2 TP2 tt2 ii2 le2 r2 c1 c2 c3 c4 c5 c6 P2 hG2 hlv2 hq2
  have inZ : ∀ q ∈ Z, q ∈ (I, oI) :: (L + 1, oB) :: (L + 1 + 1, oM) :: (L + 1 + 1 + 1, oS) :: (L + 1 + 1 + 1 + 1, oW) :: (L + 1 + 1 + 1 + 1 + 1, oO) :: (L + 1 + 1 + 1 + 1 + 1 + 1, oR) :: Z := fun q hq => .tail _ (.tail _ (.tail _ (.tail _ (.tail _ (.tail _ (.tail _ hq))))))
  have N0 := newsSub (tl' := (T1, tupOf #[.ref x1, .ref GL1, lv1]) :: (GL1, W.listOf vsG1.toArray eG1) :: (T2, tupOf #[.ref x2, .ref GL2, lv2]) :: (GL2, W.listOf vsG2.toArray eG2) :: (x1, instObj 235 dx1) :: (dx1, spD w tt1 (.int nn1 ii1) (.ref sd1) lav1 le1 r1) :: (sd1, od1) :: (x2, instObj 235 dx2) :: (dx2, spD w tt2 (.int nn2 ii2) (.ref sd2) lav2 le2 r2) :: (sd2, od2) ::
    (I, oI) :: (L + 1, oB) :: (L + 1 + 1, oM) :: (L + 1 + 1 + 1, oS) :: (L + 1 + 1 + 1 + 1, oW) :: (L + 1 + 1 + 1 + 1 + 1, oO) :: (L + 1 + 1 + 1 + 1 + 1 + 1, oR) :: Z) N (by
    simp only [List.forall_mem_cons]
    exact ⟨inZ _ a1, inZ _ a2, inZ _ c1, inZ _ c2, inZ _ a3, inZ _ a4, inZ _ a5, inZ _ c3, inZ _ c4, inZ _ c5, by k_mem, by k_mem, by k_mem, by k_mem, by k_mem, by k_mem, by k_mem, inZ⟩)
  clear N
  (try dsimp only); (try k_fold)
  k_steps
  rename Fr _ _ _ _ => F9
  rename News _ _ _ _ => N9
  exact retG _ _ ⟨rfl, .mk fun CC kk => kk _ _ rfl F9 (newsSub N9 (by walk_at "my sub2"))⟩
set_option maxHeartbeats 3000000 in
theorem some2_spec {w : World} {mean mg mb} {b : Heap} (G : Gd w mean mg mb b) {s : Shared} {dp un fr gd} {L fa : Addr} {cd : Value} {m : Str → Option Value} (hdp : dp + 60 < 1000) (hu : un + 600 < 9900)
    {Z : List (Addr × Obj)} {T1 T2 : Addr} {st1 st2 : St} {oB oM oS oW oO oR : Obj} (dO : oO.data = Data.cell (some (.ref T1))) (dR : oR.data = Data.cell (some (.ref T2))) (R1 : RunZ w Z T1 st1) (R2 : RunZ w Z T2 st2) (hqs : st2.qs = st1.qs) (hasc : (st1.qs.map (·.num)).Pairwise (· < ·)) (hlen : st1.qs.length ≤ 20) (hlat : st2.later = st1.later) {I : Addr} {oI : Obj}
    (F : Fr b L s.heap m) (N : News b L s.heap ((I, oI) :: (L + 1, oB) :: (L + 1 + 1, oM) :: (L + 1 + 1 + 1, oS) :: (L + 1 + 1 + 1 + 1, oW) :: (L + 1 + 1 + 1 + 1 + 1, oO) :: (L + 1 + 1 + 1 + 1 + 1 + 1, oR) :: Z)) :
    wpAny (model Challenge.rw_sa0568_01.row.prog w) ((Ar dp un fr gd).deeper (lawEnv L fa cd)) (exec (someStmt 2) (lawEnv L fa cd))
      (fun f s' => f = .next ∧ Box (∀ CC : Prop, (∀ h' tk', (s' = { s with heap := h', toks := tk' }) → (Fr b L h' m) → (News b L h' ((I, oI) :: (L + 1, oB) :: (L + 1 + 1, oM) :: (L + 1 + 1 + 1, oS) :: (L + 1 + 1 + 1 + 1, oW) :: (L + 1 + 1 + 1 + 1 + 1, oO) :: (L + 1 + 1 + 1 + 1 + 1 + 1, oR) :: Z)) → CC) → CC)) (fun _ _ => False) s := by
  have KX := G.K
  have TX := G.T
  revert KX; k_fill; intro KX
  refine gen ?_
  intro QQ retG
  have hk : someStmt 2 = someStmt 2 := rfl
  conv at hk => rhs; whnf
  rw [hk]; clear hk
  have he : lawEnv L fa cd = lawEnv L fa cd := rfl
  conv at he => rhs; unfold lawEnv
  have hs : fdScope lawFd = fdScope lawFd := rfl
  conv at hs => rhs; whnf
  rw [hs] at he
  rw [he]; clear he hs
  have hun : (Ar dp un fr gd).units + 3 + 64 < cLine := by show un + 3 + 64 < cLine; simp only [cLine]; omega
  refine R1.ex _ ?_
  intro x1 dx1 sd1 GL1 vsG1 eG1 lv1 nn1 lav1 od1 ps1 TP1 tt1 ii1 le1 r1 a1 a2 a3 a4 a5 a6 P1 hG1 hlv1 hq1
  refine R2.ex _ ?_
  intro x2 dx2 sd2 GL2 vsG2 eG2 lv2 nn2 lav2 od2 ps2 TP2 tt2 ii2 le2 r2 c1 c2 c3 c4 c5 c6 P2 hG2 hlv2 hq2
  have inZ : ∀ q ∈ Z, q ∈ (I, oI) :: (L + 1, oB) :: (L + 1 + 1, oM) :: (L + 1 + 1 + 1, oS) :: (L + 1 + 1 + 1 + 1, oW) :: (L + 1 + 1 + 1 + 1 + 1, oO) :: (L + 1 + 1 + 1 + 1 + 1 + 1, oR) :: Z := fun q hq => .tail _ (.tail _ (.tail _ (.tail _ (.tail _ (.tail _ (.tail _ hq))))))
  have N0 := newsSub (tl' := (T1, tupOf #[.ref x1, .ref GL1, lv1]) :: (GL1, W.listOf vsG1.toArray eG1) :: (T2, tupOf #[.ref x2, .ref GL2, lv2]) :: (GL2, W.listOf vsG2.toArray eG2) :: (x1, instObj 235 dx1) :: (dx1, spD w tt1 (.int nn1 ii1) (.ref sd1) lav1 le1 r1) :: (sd1, od1) :: (x2, instObj 235 dx2) :: (dx2, spD w tt2 (.int nn2 ii2) (.ref sd2) lav2 le2 r2) :: (sd2, od2) ::
    (I, oI) :: (L + 1, oB) :: (L + 1 + 1, oM) :: (L + 1 + 1 + 1, oS) :: (L + 1 + 1 + 1 + 1, oW) :: (L + 1 + 1 + 1 + 1 + 1, oO) :: (L + 1 + 1 + 1 + 1 + 1 + 1, oR) :: Z) N (by
    simp only [List.forall_mem_cons]
    exact ⟨inZ _ a1, inZ _ a2, inZ _ c1, inZ _ c2, inZ _ a3, inZ _ a4, inZ _ a5, inZ _ c3, inZ _ c4, inZ _ c5, by k_mem, by k_mem, by k_mem, by k_mem, by k_mem, by k_mem, by k_mem, inZ⟩)
  clear N
  have hn1 := map_num hq1
  have hn2 := map_num hq2
  rw [hqs] at hn2
  have hl1 : ps1.length ≤ 20 := by have := congrArg List.length hn1; simp only [List.length_map] at this; omega
  have hl2 : ps2.length ≤ 20 := by have := congrArg List.length hn2; simp only [List.length_map] at this; omega
  (try dsimp only); (try k_fold)
  k_steps
  unfold Hold
  rename Fr _ _ _ _ => F1
  rename News _ _ _ _ => N1
  have S1 := P2.sp (Kp.refl _ _) N1 (List.forall_mem_cons.mpr ⟨by k_mem, List.forall_mem_cons.mpr ⟨by k_mem, List.forall_mem_cons.mpr ⟨by k_mem, fun q hq => by have hqq := c6 q hq; repeat (first | exact hqq | refine List.Mem.tail _ ?_)⟩⟩⟩)
  refine sortedDict rfl F1 N1 S1.esd S1.sys (by simp only [kvsOf, List.length_map]; omega) (by rw [kvs_num, hn2]; exact hasc.imp fun h => Int.le_of_lt h) ?_
  intro SL h2 vs2 e2 tk2 F2 N2 l2 hI2
  rw [kvs_num, hn2] at hI2
  clear F1 N1 S1
  k_lt l2
  (try dsimp only)
  k_steps
  unfold Hold
  rename Fr _ _ _ _ => F3
  rename News _ _ _ _ => N3
  have S3 := P1.sp (Kp.refl _ _) N3 (List.forall_mem_cons.mpr ⟨by k_mem, List.forall_mem_cons.mpr ⟨by k_mem, List.forall_mem_cons.mpr ⟨by k_mem, fun q hq => by have hqq := a6 q hq; repeat (first | exact hqq | refine List.Mem.tail _ ?_)⟩⟩⟩)
  refine sortedDict rfl F3 N3 S3.esd S3.sys (by simp only [kvsOf, List.length_map]; omega) (by rw [kvs_num, hn1]; exact hasc.imp fun h => Int.le_of_lt h) ?_
  intro SM h4 vs4 e4 tk4 F4 N4 l4 hI4
  rw [kvs_num, hn1] at hI4
  clear F3 N3 S3
  k_lt l4
  (try dsimp only)
  k_steps
  unfold Hold
  rename Fr _ _ _ _ => F5
  rename News _ _ _ _ => N5
  refine ke_ne_ints ⟨_, (N5 (SL, _) (by k_mem)).1, rfl, _, rfl⟩ ⟨_, (N5 (SM, _) (by k_mem)).1, rfl, _, rfl⟩ hI2 hI4 hun ?_
  rw [decide_eq_true rfl]
  have hhl1 := hlv1.handed
  have hhl2 := hlv2.handed
  rw [hlat] at hlv2
  generalize st1.later = lat at hlv1 hlv2
  cases lat with
  | none =>
    have e1 : lv1 = .none := hlv1
    have e2 : lv2 = .none := hlv2
    subst e1 e2
    (try dsimp only)
    k_steps
    rename Fr _ _ _ _ => F9
    rename News _ _ _ _ => N9
    exact retG _ _ ⟨rfl, .mk fun CC kk => kk _ _ rfl F9 (newsSub N9 (by walk_at "my sub2"))⟩
  | some lt =>
    obtain ⟨u1, e1⟩ := hlv1
    obtain ⟨u2, e2⟩ := hlv2
    subst e1 e2
    (try dsimp only)
    k_steps
    all_goals first
      | (exfalso; omega)
      | (rename Fr _ _ _ _ => F9
         rename News _ _ _ _ => N9
         exact retG _ _ ⟨rfl, .mk fun CC kk => kk _ _ rfl F9 (newsSub N9 (by walk_at "my sub2"))⟩)
set_option maxHeartbeats 3000000 in
theorem some3_spec {w : World} {mean mg mb} {b : Heap} (G : Gd w mean mg mb b) {s : Shared} {dp un fr gd} {L fa : Addr} {cd : Value} {m : Str → Option Value} (hdp : dp + 60 < 1000) (hu : un + 600 < 9900)
    {Z : List (Addr × Obj)} {T1 T2 : Addr} {st1 st2 : St} {oB oM oS oW oO oR : Obj} (dO : oO.data = Data.cell (some (.ref T1))) (dR : oR.data = Data.cell (some (.ref T2))) (R1 : RunZ w Z T1 st1) (R2 : RunZ w Z T2 st2) (hqs : st2.qs = st1.qs) (hlen : st1.qs.length ≤ 20) (hla : st2.la = st1.la) {I : Addr} {oI : Obj}
    (F : Fr b L s.heap m) (N : News b L s.heap ((I, oI) :: (L + 1, oB) :: (L + 1 + 1, oM) :: (L + 1 + 1 + 1, oS) :: (L + 1 + 1 + 1 + 1, oW) :: (L + 1 + 1 + 1 + 1 + 1, oO) :: (L + 1 + 1 + 1 + 1 + 1 + 1, oR) :: Z)) :
    wpAny (model Challenge.rw_sa0568_01.row.prog w) ((Ar dp un fr gd).deeper (lawEnv L fa cd)) (exec (someStmt 3) (lawEnv L fa cd))
      (fun f s' => f = .next ∧ Box (∀ CC : Prop, (∀ h' tk', (s' = { s with heap := h', toks := tk' }) → (Fr b L h' m) → (News b L h' ((I, oI) :: (L + 1, oB) :: (L + 1 + 1, oM) :: (L + 1 + 1 + 1, oS) :: (L + 1 + 1 + 1 + 1, oW) :: (L + 1 + 1 + 1 + 1 + 1, oO) :: (L + 1 + 1 + 1 + 1 + 1 + 1, oR) :: Z)) → CC) → CC)) (fun _ _ => False) s := by
  have KX := G.K
  have TX := G.T
  revert KX; k_fill; intro KX
  refine gen ?_
  intro QQ retG
  have hk : someStmt 3 = someStmt 3 := rfl
  conv at hk => rhs; whnf
  rw [hk]; clear hk
  have he : lawEnv L fa cd = lawEnv L fa cd := rfl
  conv at he => rhs; unfold lawEnv
  have hs : fdScope lawFd = fdScope lawFd := rfl
  conv at hs => rhs; whnf
  rw [hs] at he
  rw [he]; clear he hs
  have hun : (Ar dp un fr gd).units + 3 + 64 < cLine := by show un + 3 + 64 < cLine; simp only [cLine]; omega
  refine R1.ex _ ?_
  intro x1 dx1 sd1 GL1 vsG1 eG1 lv1 nn1 lav1 od1 ps1 TP1 tt1 ii1 le1 r1 a1 a2 a3 a4 a5 a6 P1 hG1 hlv1 hq1
  refine R2.ex _ ?_
  intro x2 dx2 sd2 GL2 vsG2 eG2 lv2 nn2 lav2 od2 ps2 TP2 tt2 ii2 le2 r2 c1 c2 c3 c4 c5 c6 P2 hG2 hlv2 hq2
  have inZ : ∀ q ∈ Z, q ∈ (I, oI) :: (L + 1, oB) :: (L + 1 + 1, oM) :: (L + 1 + 1 + 1, oS) :: (L + 1 + 1 + 1 + 1, oW) :: (L + 1 + 1 + 1 + 1 + 1, oO) :: (L + 1 + 1 + 1 + 1 + 1 + 1, oR) :: Z := fun q hq => .tail _ (.tail _ (.tail _ (.tail _ (.tail _ (.tail _ (.tail _ hq))))))
  have N0 := newsSub (tl' := (T1, tupOf #[.ref x1, .ref GL1, lv1]) :: (GL1, W.listOf vsG1.toArray eG1) :: (T2, tupOf #[.ref x2, .ref GL2, lv2]) :: (GL2, W.listOf vsG2.toArray eG2) :: (x1, instObj 235 dx1) :: (dx1, spD w tt1 (.int nn1 ii1) (.ref sd1) lav1 le1 r1) :: (sd1, od1) :: (x2, instObj 235 dx2) :: (dx2, spD w tt2 (.int nn2 ii2) (.ref sd2) lav2 le2 r2) :: (sd2, od2) ::
    (I, oI) :: (L + 1, oB) :: (L + 1 + 1, oM) :: (L + 1 + 1 + 1, oS) :: (L + 1 + 1 + 1 + 1, oW) :: (L + 1 + 1 + 1 + 1 + 1, oO) :: (L + 1 + 1 + 1 + 1 + 1 + 1, oR) :: Z) N (by
    simp only [List.forall_mem_cons]
    exact ⟨inZ _ a1, inZ _ a2, inZ _ c1, inZ _ c2, inZ _ a3, inZ _ a4, inZ _ a5, inZ _ c3, inZ _ c4, inZ _ c5, by k_mem, by k_mem, by k_mem, by k_mem, by k_mem, by k_mem, by k_mem, inZ⟩)
  clear N
  have hn1 := map_num hq1
  have hn2 := map_num hq2
  have hl1 : ps1.length ≤ 20 := by have := congrArg List.length hq1; simp only [List.length_map] at this; omega
  have hl2 : ps2.length ≤ 20 := by have := congrArg List.length hq2; rw [hqs] at this; simp only [List.length_map] at this; omega
  have hoc : octs ps2 = octs ps1 := by rw [octs_q, octs_q, hq1, hq2, hqs]
  (try dsimp only); (try k_fold)
  k_steps
  unfold Hold
  rename Fr _ _ _ _ => F1
  rename News _ _ _ _ => N1
  have S1 := P2.sp (Kp.refl _ _) N1 (List.forall_mem_cons.mpr ⟨by k_mem, List.forall_mem_cons.mpr ⟨by k_mem, List.forall_mem_cons.mpr ⟨by k_mem, fun q hq => by have hqq := c6 q hq; repeat (first | exact hqq | refine List.Mem.tail _ ?_)⟩⟩⟩)
  refine octets_spec G (by exact frKp F1) (room (d := dp) (n := 1000) (a := 21) (by assumption) (by decide)) (by exact S1) (by omega) ?_
  intro h2 tk2 t2 k2
  try dsimp only at k2
  have F2 := F1.keeps k2.all
  have N2 := N1.grown k2.all
  clear F1 N1 S1
  (try dsimp only)
  k_steps
  unfold Hold
  rename Fr _ _ _ _ => F3
  rename News _ _ _ _ => N3
  have S3 := P1.sp (Kp.refl _ _) N3 (List.forall_mem_cons.mpr ⟨by k_mem, List.forall_mem_cons.mpr ⟨by k_mem, List.forall_mem_cons.mpr ⟨by k_mem, fun q hq => by have hqq := a6 q hq; repeat (first | exact hqq | refine List.Mem.tail _ ?_)⟩⟩⟩)
  refine octets_spec G (by exact frKp F3) (room (d := dp) (n := 1000) (a := 21) (by assumption) (by decide)) (by exact S3) (by omega) ?_
  intro h4 tk4 t4 k4
  try dsimp only at k4
  have F4 := F3.keeps k4.all
  have N4 := N3.grown k4.all
  clear F3 N3 S3
  rw [hoc]
  have hol1 := P1.ol
  have hol2 := P2.ol
  rw [hla] at hol2
  clear P1 P2
  generalize st1.la = lat at hol1 hol2
  cases lat with
  | none =>
    have e1 : lav1 = .none := hol1
    have e2 : lav2 = .none := hol2
    subst e1 e2
    (try dsimp only)
    k_steps
    all_goals first
      | (exfalso; omega)
      | (rename Fr _ _ _ _ => F9
         rename News _ _ _ _ => N9
         exact retG _ _ ⟨rfl, .mk fun CC kk => kk _ _ rfl F9 (newsSub N9 (by walk_at "my sub2"))⟩)
  | some lt =>
    obtain ⟨u1, e1⟩ := hol1
    obtain ⟨u2, e2⟩ := hol2
    subst e1 e2
    (try dsimp only)
    k_steps
    all_goals first
      | (exfalso; omega)
      | (rename Fr _ _ _ _ => F9
         rename News _ _ _ _ => N9
         exact retG _ _ ⟨rfl, .mk fun CC kk => kk _ _ rfl F9 (newsSub N9 (by walk_at "my sub2"))⟩)
set_option maxHeartbeats 3000000 in
theorem some4_spec {w : World} {mean mg mb} {b : Heap} (G : Gd w mean mg mb b) {s : Shared} {dp un fr gd} {L fa : Addr} {cd : Value} {m : Str → Option Value} (hdp : dp + 60 < 1000) (hu : un + 600 < 9900)
    {Z : List (Addr × Obj)} {T1 T2 : Addr} {st1 st2 : St} {oB oM oS oW oO oR : Obj} (dO : oO.data = Data.cell (some (.ref T1))) (dR : oR.data = Data.cell (some (.ref T2))) (R1 : RunZ w Z T1 st1) (R2 : RunZ w Z T2 st2) (hsubg : ∀ k ∈ st1.gone, k ∈ st2.gone) (hgl : st1.gone.length ≤ 1000) {I : Addr} {oI : Obj}
    (F : Fr b L s.heap m) (N : News b L s.heap ((I, oI) :: (L + 1, oB) :: (L + 1 + 1, oM) :: (L + 1 + 1 + 1, oS) :: (L + 1 + 1 + 1 + 1, oW) :: (L + 1 + 1 + 1 + 1 + 1, oO) :: (L + 1 + 1 + 1 + 1 + 1 + 1, oR) :: Z)) :
    wpAny (model Challenge.rw_sa0568_01.row.prog w) ((Ar dp un fr gd).deeper (lawEnv L fa cd)) (exec (someStmt 4) (lawEnv L fa cd))
      (fun f s' => f = .next ∧ Box (∀ CC : Prop, (∀ h' tk', (s' = { s with heap := h', toks := tk' }) → (Fr b L h' m) → (News b L h' ((I, oI) :: (L + 1, oB) :: (L + 1 + 1, oM) :: (L + 1 + 1 + 1, oS) :: (L + 1 + 1 + 1 + 1, oW) :: (L + 1 + 1 + 1 + 1 + 1, oO) :: (L + 1 + 1 + 1 + 1 + 1 + 1, oR) :: Z)) → CC) → CC)) (fun _ _ => False) s := by
  have KX := G.K
  have TX := G.T
  revert KX; k_fill; intro KX
  refine gen ?_
  intro QQ retG
  have hk : someStmt 4 = someStmt 4 := rfl
  conv at hk => rhs; whnf
  rw [hk]; clear hk
  have he : lawEnv L fa cd = lawEnv L fa cd := rfl
  conv at he => rhs; unfold lawEnv
  have hs : fdScope lawFd = fdScope lawFd := rfl
  conv at hs => rhs; whnf
  rw [hs] at he
  rw [he]; clear he hs
  have hun : (Ar dp un fr gd).units + 3 + 64 < cLine := by show un + 3 + 64 < cLine; simp only [cLine]; omega
  refine R1.ex _ ?_
  intro x1 dx1 sd1 GL1 vsG1 eG1 lv1 nn1 lav1 od1 ps1 TP1 tt1 ii1 le1 r1 a1 a2 a3 a4 a5 a6 P1 hG1 hlv1 hq1
  refine R2.ex _ ?_
  intro x2 dx2 sd2 GL2 vsG2 eG2 lv2 nn2 lav2 od2 ps2 TP2 tt2 ii2 le2 r2 c1 c2 c3 c4 c5 c6 P2 hG2 hlv2 hq2
  have inZ : ∀ q ∈ Z, q ∈ (I, oI) :: (L + 1, oB) :: (L + 1 + 1, oM) :: (L + 1 + 1 + 1, oS) :: (L + 1 + 1 + 1 + 1, oW) :: (L + 1 + 1 + 1 + 1 + 1, oO) :: (L + 1 + 1 + 1 + 1 + 1 + 1, oR) :: Z := fun q hq => .tail _ (.tail _ (.tail _ (.tail _ (.tail _ (.tail _ (.tail _ hq))))))
  have N0 := newsSub (tl' := (T1, tupOf #[.ref x1, .ref GL1, lv1]) :: (GL1, W.listOf vsG1.toArray eG1) :: (T2, tupOf #[.ref x2, .ref GL2, lv2]) :: (GL2, W.listOf vsG2.toArray eG2) :: (x1, instObj 235 dx1) :: (dx1, spD w tt1 (.int nn1 ii1) (.ref sd1) lav1 le1 r1) :: (sd1, od1) :: (x2, instObj 235 dx2) :: (dx2, spD w tt2 (.int nn2 ii2) (.ref sd2) lav2 le2 r2) :: (sd2, od2) ::
    (I, oI) :: (L + 1, oB) :: (L + 1 + 1, oM) :: (L + 1 + 1 + 1, oS) :: (L + 1 + 1 + 1 + 1, oW) :: (L + 1 + 1 + 1 + 1 + 1, oO) :: (L + 1 + 1 + 1 + 1 + 1 + 1, oR) :: Z) N (by
    simp only [List.forall_mem_cons]
    exact ⟨inZ _ a1, inZ _ a2, inZ _ c1, inZ _ c2, inZ _ a3, inZ _ a4, inZ _ a5, inZ _ c3, inZ _ c4, inZ _ c5, by k_mem, by k_mem, by k_mem, by k_mem, by k_mem, by k_mem, by k_mem, inZ⟩)
  clear N
  (try dsimp only); (try k_fold)
  k_steps
  unfold Hold
  rename Fr _ _ _ _ => F1
  rename News _ _ _ _ => N1
  refine LCt.CompSrcT.ledger rfl F1 N1 (ax := GL1) (by k_mem) (by simp only [List.size_toArray, hG1.length, sizeLine_eq]; omega) ?_
  intro g5
  refine compT_ind (fun i ys news => ys = [] ∧ news = (T1, tupOf #[.ref x1, .ref GL1, lv1]) :: (GL1, W.listOf vsG1.toArray eG1) :: (T2, tupOf #[.ref x2, .ref GL2, lv2]) :: (GL2, W.listOf vsG2.toArray eG2) :: (x1, instObj 235 dx1) :: (dx1, spD w tt1 (.int nn1 ii1) (.ref sd1) lav1 le1 r1) :: (sd1, od1) :: (x2, instObj 235 dx2) :: (dx2, spD w tt2 (.int nn2 ii2) (.ref sd2) lav2 le2 r2) :: (sd2, od2) :: (I, oI) :: (L + 1, oB) :: (L + 1 + 1, oM) :: (L + 1 + 1 + 1, oS) :: (L + 1 + 1 + 1 + 1, oW) :: (L + 1 + 1 + 1 + 1 + 1, oO) :: (L + 1 + 1 + 1 + 1 + 1 + 1, oR) :: Z) _ ?step ?fin _ 0 [] _ (Nat.zero_add _) ⟨rfl, rfl⟩
  case step =>
    rintro j ys news hj ⟨rfl, rfl⟩ v I2 oI2 C oC D m₂ hh tk2 E' hv hC hx F2 N2 off2 ne
    obtain ⟨hlt', t9, rfl⟩ := ints_at hG1 (show vsG1[j]? = some v by simpa using hv)
    have hin : st2.gone.any (· == st1.gone[j]) = true := List.any_eq_true.mpr ⟨_, hsubg _ (List.getElem_mem hlt'), by simp⟩
    clear F1 N1
    (try dsimp only)
    k_steps
    unfold Hold
    refine notin_list_ints ⟨_, (N2 (GL2, _) (by k_mem)).1, rfl, _, rfl⟩ hG2 ?_
    rw [hin]
    (try dsimp only)
    k_steps
    unfold Hold
    exact LCg.CompEnd.intro F2 N2 _ (fun p hp => hp) off2 (.inr ⟨_, (by k_mem : (GL1, W.listOf vsG1.toArray eG1) ∈ _), rfl, _, rfl⟩) ⟨rfl, rfl⟩
  case fin =>
    rintro ys news ⟨rfl, rfl⟩ D hh tk2 F2 N2 off2
    clear F1 N1
    (try dsimp only)
    k_steps
    unfold Hold
    rename Fr _ _ _ _ => F7
    rename News _ _ _ _ => N7
    obtain ⟨EL, e⟩ : ∃ z, z = adr0 N7 := ⟨_, rfl⟩
    dsimp only [adr0] at e
    subst e
    refine ke_ne_ints (xs := []) (ys := []) ⟨_, (N7 (D, _) (by k_mem)).1, rfl, _, rfl⟩ ⟨_, (N7 (EL, _) (by k_mem)).1, rfl, _, rfl⟩ .nil .nil hun ?_
    rw [decide_eq_true rfl]
    (try dsimp only)
    k_steps
    rename Fr _ _ _ _ => F9
    rename News _ _ _ _ => N9
    exact retG _ _ ⟨rfl, .mk fun CC kk => kk _ _ rfl F9 (newsSub N9 (by walk_at "my sub2"))⟩
set_option maxHeartbeats 3000000 in
theorem some5_spec {w : World} {mean mg mb} {b : Heap} (G : Gd w mean mg mb b) {s : Shared} {dp un fr gd} {L fa : Addr} {cd : Value} {m : Str → Option Value} (hdp : dp + 60 < 1000) (hu : un + 600 < 9900)
    {Z : List (Addr × Obj)} {T1 T2 : Addr} {st1 st2 : St} {oB oM oS oW oO oR : Obj} (dO : oO.data = Data.cell (some (.ref T1))) (dR : oR.data = Data.cell (some (.ref T2))) (R1 : RunZ w Z T1 st1) (R2 : RunZ w Z T2 st2) {WL : Addr} {wvs : List Value} {W1 : List Int} (dW : oW.data = Data.cell (some (.ref WL))) (hWL : (WL, W.listOf wvs.toArray wvs.length) ∈ Z) (hW : IntsAre wvs W1) (hsubg : ∀ k ∈ st2.gone, k ∈ st1.gone ∨ k ∈ W1) (hgl : st2.gone.length ≤ 1000) {I : Addr} {oI : Obj}
    (F : Fr b L s.heap m) (N : News b L s.heap ((I, oI) :: (L + 1, oB) :: (L + 1 + 1, oM) :: (L + 1 + 1 + 1, oS) :: (L + 1 + 1 + 1 + 1, oW) :: (L + 1 + 1 + 1 + 1 + 1, oO) :: (L + 1 + 1 + 1 + 1 + 1 + 1, oR) :: Z)) :
    wpAny (model Challenge.rw_sa0568_01.row.prog w) ((Ar dp un fr gd).deeper (lawEnv L fa cd)) (exec (someStmt 5) (lawEnv L fa cd))
      (fun f s' => f = .next ∧ Box (∀ CC : Prop, (∀ h' tk', (s' = { s with heap := h', toks := tk' }) → (Fr b L h' m) → (News b L h' ((I, oI) :: (L + 1, oB) :: (L + 1 + 1, oM) :: (L + 1 + 1 + 1, oS) :: (L + 1 + 1 + 1 + 1, oW) :: (L + 1 + 1 + 1 + 1 + 1, oO) :: (L + 1 + 1 + 1 + 1 + 1 + 1, oR) :: Z)) → CC) → CC)) (fun _ _ => False) s := by
  have KX := G.K
  have TX := G.T
  revert KX; k_fill; intro KX
  refine gen ?_
  intro QQ retG
  have hk : someStmt 5 = someStmt 5 := rfl
  conv at hk => rhs; whnf
  rw [hk]; clear hk
  have he : lawEnv L fa cd = lawEnv L fa cd := rfl
  conv at he => rhs; unfold lawEnv
  have hs : fdScope lawFd = fdScope lawFd := rfl
  conv at hs => rhs; whnf
  rw [hs] at he
  rw [he]; clear he hs
  have hun : (Ar dp un fr gd).units + 3 + 64 < cLine := by show un + 3 + 64 < cLine; simp only [cLine]; omega
  refine R1.ex _ ?_
  intro x1 dx1 sd1 GL1 vsG1 eG1 lv1 nn1 lav1 od1 ps1 TP1 tt1 ii1 le1 r1 a1 a2 a3 a4 a5 a6 P1 hG1 hlv1 hq1
  refine R2.ex _ ?_
  intro x2 dx2 sd2 GL2 vsG2 eG2 lv2 nn2 lav2 od2 ps2 TP2 tt2 ii2 le2 r2 c1 c2 c3 c4 c5 c6 P2 hG2 hlv2 hq2
  have inZ : ∀ q ∈ Z, q ∈ (I, oI) :: (L + 1, oB) :: (L + 1 + 1, oM) :: (L + 1 + 1 + 1, oS) :: (L + 1 + 1 + 1 + 1, oW) :: (L + 1 + 1 + 1 + 1 + 1, oO) :: (L + 1 + 1 + 1 + 1 + 1 + 1, oR) :: Z := fun q hq => .tail _ (.tail _ (.tail _ (.tail _ (.tail _ (.tail _ (.tail _ hq))))))
  have N0 := newsSub (tl' := (T1, tupOf #[.ref x1, .ref GL1, lv1]) :: (GL1, W.listOf vsG1.toArray eG1) :: (T2, tupOf #[.ref x2, .ref GL2, lv2]) :: (GL2, W.listOf vsG2.toArray eG2) :: (x1, instObj 235 dx1) :: (dx1, spD w tt1 (.int nn1 ii1) (.ref sd1) lav1 le1 r1) :: (sd1, od1) :: (x2, instObj 235 dx2) :: (dx2, spD w tt2 (.int nn2 ii2) (.ref sd2) lav2 le2 r2) :: (sd2, od2) :: (WL, W.listOf wvs.toArray wvs.length) ::
    (I, oI) :: (L + 1, oB) :: (L + 1 + 1, oM) :: (L + 1 + 1 + 1, oS) :: (L + 1 + 1 + 1 + 1, oW) :: (L + 1 + 1 + 1 + 1 + 1, oO) :: (L + 1 + 1 + 1 + 1 + 1 + 1, oR) :: Z) N (by
    simp only [List.forall_mem_cons]
    exact ⟨inZ _ a1, inZ _ a2, inZ _ c1, inZ _ c2, inZ _ a3, inZ _ a4, inZ _ a5, inZ _ c3, inZ _ c4, inZ _ c5, inZ _ hWL, by k_mem, by k_mem, by k_mem, by k_mem, by k_mem, by k_mem, by k_mem, inZ⟩)
  clear N
  (try dsimp only); (try k_fold)
  k_steps
  unfold Hold
  rename Fr _ _ _ _ => F1
  rename News _ _ _ _ => N1
  refine LCt.CompSrcT.ledger rfl F1 N1 (ax := GL2) (by k_mem) (by simp only [List.size_toArray, hG2.length, sizeLine_eq]; omega) ?_
  intro g5
  refine compT_ind (fun i ys news => ys = [] ∧ news = (T1, tupOf #[.ref x1, .ref GL1, lv1]) :: (GL1, W.listOf vsG1.toArray eG1) :: (T2, tupOf #[.ref x2, .ref GL2, lv2]) :: (GL2, W.listOf vsG2.toArray eG2) :: (x1, instObj 235 dx1) :: (dx1, spD w tt1 (.int nn1 ii1) (.ref sd1) lav1 le1 r1) :: (sd1, od1) :: (x2, instObj 235 dx2) :: (dx2, spD w tt2 (.int nn2 ii2) (.ref sd2) lav2 le2 r2) :: (sd2, od2) :: (WL, W.listOf wvs.toArray wvs.length) :: (I, oI) :: (L + 1, oB) :: (L + 1 + 1, oM) :: (L + 1 + 1 + 1, oS) :: (L + 1 + 1 + 1 + 1, oW) :: (L + 1 + 1 + 1 + 1 + 1, oO) :: (L + 1 + 1 + 1 + 1 + 1 + 1, oR) :: Z) _ ?step ?fin _ 0 [] _ (Nat.zero_add _) ⟨rfl, rfl⟩
  case step =>
    rintro j ys news hj ⟨rfl, rfl⟩ v I2 oI2 C oC D m₂ hh tk2 E' hv hC hx F2 N2 off2 ne
    obtain ⟨hlt', t9, rfl⟩ := ints_at hG2 (show vsG2[j]? = some v by simpa using hv)
    have hor := hsubg _ (List.getElem_mem hlt')
    clear F1 N1
    (try dsimp only)
    k_steps
    unfold Hold
    refine notin_list_ints ⟨_, (N2 (GL1, _) (by k_mem)).1, rfl, _, rfl⟩ hG1 ?_
    by_cases h1 : st2.gone[j] ∈ st1.gone
    · have hin : st1.gone.any (· == st2.gone[j]) = true := List.any_eq_true.mpr ⟨_, h1, by simp⟩
      rw [hin]
      (try dsimp only)
      k_steps
      unfold Hold
      exact LCg.CompEnd.intro F2 N2 _ (fun p hp => hp) off2 (.inr ⟨_, (by k_mem : (GL2, W.listOf vsG2.toArray eG2) ∈ _), rfl, _, rfl⟩) ⟨rfl, rfl⟩
    · have hin : st1.gone.any (· == st2.gone[j]) = false := by
        rw [Bool.eq_false_iff]
        intro q
        obtain ⟨y, hy, e⟩ := List.any_eq_true.mp q
        exact h1 (by rw [← beq_iff_eq.mp e]; exact hy)
      have hin2 : W1.any (· == st2.gone[j]) = true := List.any_eq_true.mpr ⟨_, hor.resolve_left h1, by simp⟩
      rw [hin]
      (try dsimp only)
      k_steps
      unfold Hold
      refine notin_list_ints ⟨_, (N2 (WL, _) (by k_mem)).1, rfl, _, rfl⟩ hW ?_
      rw [hin2]
      (try dsimp only)
      k_steps
      unfold Hold
      exact LCg.CompEnd.intro F2 N2 _ (fun p hp => hp) off2 (.inr ⟨_, (by k_mem : (GL2, W.listOf vsG2.toArray eG2) ∈ _), rfl, _, rfl⟩) ⟨rfl, rfl⟩
  case fin =>
    rintro ys news ⟨rfl, rfl⟩ D hh tk2 F2 N2 off2
    clear F1 N1
    (try dsimp only)
    k_steps
    unfold Hold
    rename Fr _ _ _ _ => F7
    rename News _ _ _ _ => N7
    obtain ⟨EL, e⟩ : ∃ z, z = adr0 N7 := ⟨_, rfl⟩
    dsimp only [adr0] at e
    subst e
    refine ke_ne_ints (xs := []) (ys := []) ⟨_, (N7 (D, _) (by k_mem)).1, rfl, _, rfl⟩ ⟨_, (N7 (EL, _) (by k_mem)).1, rfl, _, rfl⟩ .nil .nil hun ?_
    rw [decide_eq_true rfl]
    (try dsimp only)
    k_steps
    rename Fr _ _ _ _ => F9
    rename News _ _ _ _ => N9
    exact retG _ _ ⟨rfl, .mk fun CC kk => kk _ _ rfl F9 (newsSub N9 (by walk_at "my sub2"))⟩
set_option maxHeartbeats 3000000 in
theorem some6_spec {w : World} {mean mg mb} {b : Heap} (G : Gd w mean mg mb b) {s : Shared} {dp un fr gd} {L fa : Addr} {cd : Value} {m : Str → Option Value} (hdp : dp + 60 < 1000) (hu : un + 600 < 9900)
    {Z : List (Addr × Obj)} {T1 T2 : Addr} {st1 st2 : St} {oB oM oS oW oO oR : Obj} (dO : oO.data = Data.cell (some (.ref T1))) (dR : oR.data = Data.cell (some (.ref T2))) (R1 : RunZ w Z T1 st1) (R2 : RunZ w Z T2 st2) {n : Nat} {tM : Tok} (hM8 : n ≤ 8) (dM : oM.data = Data.cell (some (.int (n : Int) tM))) (hcnt : ∀ k : Int, st2.gone.count k ≤ 1) (hgl : st2.gone.length ≤ 1000) {I : Addr} {oI : Obj}
    (F : Fr b L s.heap m) (N : News b L s.heap ((I, oI) :: (L + 1, oB) :: (L + 1 + 1, oM) :: (L + 1 + 1 + 1, oS) :: (L + 1 + 1 + 1 + 1, oW) :: (L + 1 + 1 + 1 + 1 + 1, oO) :: (L + 1 + 1 + 1 + 1 + 1 + 1, oR) :: Z)) :
    wpAny (model Challenge.rw_sa0568_01.row.prog w) ((Ar dp un fr gd).deeper (lawEnv L fa cd)) (exec (someStmt 6) (lawEnv L fa cd))
      (fun f s' => f = .next ∧ Box (∀ CC : Prop, (∀ h' tk', (s' = { s with heap := h', toks := tk' }) → (Fr b L h' m) → (News b L h' ((I, oI) :: (L + 1, oB) :: (L + 1 + 1, oM) :: (L + 1 + 1 + 1, oS) :: (L + 1 + 1 + 1 + 1, oW) :: (L + 1 + 1 + 1 + 1 + 1, oO) :: (L + 1 + 1 + 1 + 1 + 1 + 1, oR) :: Z)) → CC) → CC)) (fun _ _ => False) s := by
  have KX := G.K
  have TX := G.T
  revert KX; k_fill; intro KX
  refine gen ?_
  intro QQ retG
  have hk : someStmt 6 = someStmt 6 := rfl
  conv at hk => rhs; whnf
  rw [hk]; clear hk
  have he : lawEnv L fa cd = lawEnv L fa cd := rfl
  conv at he => rhs; unfold lawEnv
  have hs : fdScope lawFd = fdScope lawFd := rfl
  conv at hs => rhs; whnf
  rw [hs] at he
  rw [he]; clear he hs
  have hun : (Ar dp un fr gd).units + 3 + 64 < cLine := by show un + 3 + 64 < cLine; simp only [cLine]; omega
  refine R1.ex _ ?_
  intro x1 dx1 sd1 GL1 vsG1 eG1 lv1 nn1 lav1 od1 ps1 TP1 tt1 ii1 le1 r1 a1 a2 a3 a4 a5 a6 P1 hG1 hlv1 hq1
  refine R2.ex _ ?_
  intro x2 dx2 sd2 GL2 vsG2 eG2 lv2 nn2 lav2 od2 ps2 TP2 tt2 ii2 le2 r2 c1 c2 c3 c4 c5 c6 P2 hG2 hlv2 hq2
  have inZ : ∀ q ∈ Z, q ∈ (I, oI) :: (L + 1, oB) :: (L + 1 + 1, oM) :: (L + 1 + 1 + 1, oS) :: (L + 1 + 1 + 1 + 1, oW) :: (L + 1 + 1 + 1 + 1 + 1, oO) :: (L + 1 + 1 + 1 + 1 + 1 + 1, oR) :: Z := fun q hq => .tail _ (.tail _ (.tail _ (.tail _ (.tail _ (.tail _ (.tail _ hq))))))
  have N0 := newsSub (tl' := (T1, tupOf #[.ref x1, .ref GL1, lv1]) :: (GL1, W.listOf vsG1.toArray eG1) :: (T2, tupOf #[.ref x2, .ref GL2, lv2]) :: (GL2, W.listOf vsG2.toArray eG2) :: (x1, instObj 235 dx1) :: (dx1, spD w tt1 (.int nn1 ii1) (.ref sd1) lav1 le1 r1) :: (sd1, od1) :: (x2, instObj 235 dx2) :: (dx2, spD w tt2 (.int nn2 ii2) (.ref sd2) lav2 le2 r2) :: (sd2, od2) ::
    (I, oI) :: (L + 1, oB) :: (L + 1 + 1, oM) :: (L + 1 + 1 + 1, oS) :: (L + 1 + 1 + 1 + 1, oW) :: (L + 1 + 1 + 1 + 1 + 1, oO) :: (L + 1 + 1 + 1 + 1 + 1 + 1, oR) :: Z) N (by
    simp only [List.forall_mem_cons]
    exact ⟨inZ _ a1, inZ _ a2, inZ _ c1, inZ _ c2, inZ _ a3, inZ _ a4, inZ _ a5, inZ _ c3, inZ _ c4, inZ _ c5, by k_mem, by k_mem, by k_mem, by k_mem, by k_mem, by k_mem, by k_mem, inZ⟩)
  clear N
  have hM9 : (n : Int) ≤ 1000 := by omega
  clear hM8
  (try dsimp only); (try k_fold)
  k_steps
  unfold Hold
  rename Fr _ _ _ _ => F1
  rename News _ _ _ _ => N1
  rename IsRange _ _ _ _ _ _ _ _ => hR1
  refine LCt.CompSrcT.range (n := n) rfl F1 N1 hR1 (small_one (by omega) (by omega) (by omega) (by omega)) (rangeSize_nat _ _) (by simp only [sizeLine_eq]; omega) ?_
  intro g5
  refine compT_ind (fun i ys news => ys = [] ∧ news = (T1, tupOf #[.ref x1, .ref GL1, lv1]) :: (GL1, W.listOf vsG1.toArray eG1) :: (T2, tupOf #[.ref x2, .ref GL2, lv2]) :: (GL2, W.listOf vsG2.toArray eG2) :: (x1, instObj 235 dx1) :: (dx1, spD w tt1 (.int nn1 ii1) (.ref sd1) lav1 le1 r1) :: (sd1, od1) :: (x2, instObj 235 dx2) :: (dx2, spD w tt2 (.int nn2 ii2) (.ref sd2) lav2 le2 r2) :: (sd2, od2) :: (I, oI) :: (L + 1, oB) :: (L + 1 + 1, oM) :: (L + 1 + 1 + 1, oS) :: (L + 1 + 1 + 1 + 1, oW) :: (L + 1 + 1 + 1 + 1 + 1, oO) :: (L + 1 + 1 + 1 + 1 + 1 + 1, oR) :: Z) _ ?step ?fin _ 0 [] _ (Nat.zero_add _) ⟨rfl, rfl⟩
  case step =>
    rintro j ys news hj ⟨rfl, rfl⟩ v I2 oI2 C oC D m₂ hh tk2 E' hv hC hx F2 N2 off2 ne
    obtain ⟨tv, rfl⟩ := hv
    have hc := hcnt (0 + (j : Int))
    clear F1 N1 hR1
    (try dsimp only)
    k_steps
    unfold Hold
    refine count_list_ints ⟨_, (N2 (GL2, _) (by k_mem)).1, rfl, _, rfl⟩ hG2 ?_
    k_steps
    unfold Hold
    exact LCg.CompEnd.intro F2 N2 _ (fun p hp => hp) off2 trivial ⟨rfl, rfl⟩
  case fin =>
    rintro ys news ⟨rfl, rfl⟩ D hh tk2 F2 N2 off2
    clear F1 N1 hR1
    (try dsimp only)
    k_steps
    rename Fr _ _ _ _ => F9
    rename News _ _ _ _ => N9
    exact retG _ _ ⟨rfl, .mk fun CC kk => kk _ _ rfl F9 (newsSub N9 (by walk_at "my sub2"))⟩
end
end Mine
end
-- Lg10
section
open PySem PySem.W PySem.Calls PyProof.Rows
set_option maxRecDepth 100000
namespace Mine
section
variable {prog : Program} {w : World} {A : Around} {E : Value → Shared → Prop} {s : Shared} {env : Env} {g : Heap} {x : Str} {target : Expr} {body : List Stmt} {Q : Flow → Shared → Prop}
/-- a for over a tuple -/
theorem loopTuple {l : Addr} {its : Array Value} {e : Nat} {m₀ : Str → Option Value} {news₀ : List (Addr × Obj)} (hh : A.handled = none) (hl : s.heap.get? l = some ({ cls := .type "tuple", data := .seq its e } : Obj)) (F : Fr g env.locals s.heap m₀) (N : News g env.locals s.heap news₀) (hlL : env.locals ≠ l)
    (J : Nat → (Str → Option Value) → List (Addr × Obj) → Prop) (hJ : J 0 m₀ news₀) (hS : ∀ i m nw, J i m nw → g.get? l = some ({ cls := .type "tuple", data := .seq its e } : Obj) ∨ (l, ({ cls := .type "tuple", data := .seq its e } : Obj)) ∈ nw)
    (turn : ∀ i v m₁ news₁ I oI h tk, its[i]? = some v → J i m₁ news₁ → (∀ p ∈ news₁, p.1 ≠ I) → Fr g env.locals h (fun y => if y = x then some v else m₁ y) → News g env.locals h ((I, oI) :: news₁) →
      wpAny (model prog w) A (execs body env) (MyPost g env.locals I oI (J (i + 1)) { s with heap := h, toks := tk } Q) E { s with heap := h, toks := tk })
    (done : ∀ m₁ news₁ h tk, J its.size m₁ news₁ → Fr g env.locals h m₁ → News g env.locals h news₁ → Q .next { s with heap := h, toks := tk }) :
    wpAny (model prog w) A (pyIter (.ref l)) (fun it s₂ => LoopAtV prog w A g env x body Q E it s₂) E s := by
  have hls : s.heap.IsTuple l its := ⟨_, hl, rfl, _, rfl⟩
  refine wpAny_pyIter_tuple hls ?_
  have hlt : l < s.heap.objs.size := Heap.lt_size hl
  exact loopGen (s := { s with heap := s.heap.push _ }) (Walks.tuple hh s.heap.objs.size l (Nat.ne_of_lt hlt) its) (next_is_new F) (Nat.ne_of_lt F.ns.lt) hlL ⟨⟨_, Heap.get?_push_size _ rfl, rfl, rfl⟩, hls.push _⟩
    (fun i h st => by obtain ⟨o, e, _⟩ := st.1; exact ⟨o, e⟩) (F.push _) (N.grown fun _ _ e => Heap.get?_push_of_some _ e) (fun p hp => Nat.ne_of_lt (Heap.lt_size (N p hp).1)) J hJ hS
    (fun i v m₁ news₁ oI h tk hi hP hJ₁ off F₁ N₁ => turn i v m₁ news₁ _ oI h tk hP hJ₁ off F₁ N₁) done
end
end Mine
end
-- Lg11
section
open PySem PySem.W PySem.Calls PyProof.Rows
set_option maxRecDepth 100000
namespace Mine
section
theorem runQ_gone_bound {dl : Int} {rows : List Rw} {parts : List (Int × List Int)} (hr : rows.length ≤ 8) (hp : parts.length ≤ 4) : (runQ dl (rowsQ rows) parts).gone.length ≤ 1000 := by
  have h := runQ_gone dl (rowsQ rows) parts
  rw [rowsQ_length] at h
  exact Nat.le_trans h (Nat.le_trans (Nat.mul_le_mul hp hr) (by decide))
set_option maxHeartbeats 3000000 in
theorem turn_spec {w : World} {mean mg mb} {b : Heap} (G : Gd w mean mg mb b) {s : Shared} {dp un fr gd} {L fa : Addr} {cd : Value} {m : Str → Option Value} (hdp : dp + 60 < 1000) (hu : un + 600 < 9900)
    {Z : List (Addr × Obj)} {RL TL SS WL T1 : Addr} {rows : List Rw} {eR eT eS : Nat} {dl : Int} {td : Tok} (hRL : (RL, W.listOf (rows.map fun r : Rw => Value.ref r.a).toArray eR) ∈ Z) (hrz : ∀ r ∈ rows, RowZ Z r)
    {n : Nat} {tM : Tok} (hn8 : n ≤ 8) (hrl : rows.length = n)
    {a0 a1 a2 a3 : Int} {t0 t1 t2 t3 : Tok} (hTL : (TL, W.listOf #[.int a0 t0, .int a1 t1, .int a2 t2, .int a3 t3] eT) ∈ Z) (ha0 : a0 ≤ a3) (ha1 : a1 ≤ a3) (ha2 : a2 ≤ a3) {l0 l1 l2 l3 : Lt} (hSS : (SS, W.listOf #[.ref l0.a, .ref l1.a, .ref l2.a, .ref l3.a] eS) ∈ Z)
    {n0 n1 n2 n3 W1 : List Int} (h0 : l0.obj ∈ Z) (h1 : l1.obj ∈ Z) (h2' : l2.obj ∈ Z) (h3 : l3.obj ∈ Z) (i0 : IntsAre l0.vs n0) (i1 : IntsAre l1.vs n1) (i2 : IntsAre l2.vs n2) (i3 : IntsAre l3.vs n3)
    (hns : ∀ ns ∈ [n0, n1, n2, n3], ns.Pairwise (· < ·) ∧ ns.length < 64) (hw1 : W1.Pairwise (· < ·)) (hpart : ∀ k, k ∈ W1 ↔ k ∈ n0 ∨ k ∈ n1 ∨ k ∈ n2 ∨ k ∈ n3)
    {wvs : List Value} (hWL : (WL, W.listOf wvs.toArray wvs.length) ∈ Z) (hW : IntsAre wvs W1)
    (hm : ∀ p ∈ [(Str.ofString "delay", Value.int dl td), (Str.ofString "rows", .ref RL), (Str.ofString "times", .ref TL), (Str.ofString "some", .ref SS)], m p.1 = some p.2)
    {oB oM oS oW oO o6 : Obj} {v6 : Option Value} (dM : oM.data = Data.cell (some (.int (n : Int) tM))) (dW : oW.data = Data.cell (some (.ref WL))) (dO : oO.data = Data.cell (some (.ref T1))) (d6 : o6.data = Data.cell v6) (R1 : RunZ w Z T1 (runQ dl (rowsQ rows) [(a3, W1)])) (zl : ∀ q ∈ Z, OffL L q.1)
    {I : Addr} {oI : Obj} (cI : OffL L I)
    (F : Fr b L s.heap m) (N : News b L s.heap ((I, oI) :: (L + 1, oB) :: (L + 1 + 1, oM) :: (L + 1 + 1 + 1, oS) :: (L + 1 + 1 + 1 + 1, oW) :: (L + 1 + 1 + 1 + 1 + 1, oO) :: (L + 1 + 1 + 1 + 1 + 1 + 1, o6) :: Z)) :
    wpAny (model Challenge.rw_sa0568_01.row.prog w) ((Ar dp un fr gd).deeper (lawEnv L fa cd)) (execs [someStmt 0, someStmt 1, someStmt 2, someStmt 3, someStmt 4, someStmt 5, someStmt 6] (lawEnv L fa cd))
      (fun f s' => f = .next ∧ Box (∀ CC : Prop, (∀ h' tk' oR vR Z', (s' = { s with heap := h', toks := tk' }) → (Fr b L h' m) → (News b L h' ((I, oI) :: (L + 1, oB) :: (L + 1 + 1, oM) :: (L + 1 + 1 + 1, oS) :: (L + 1 + 1 + 1 + 1, oW) :: (L + 1 + 1 + 1 + 1 + 1, oO) :: (L + 1 + 1 + 1 + 1 + 1 + 1, oR) :: Z')) → (oR.data = Data.cell vR) → (∀ q ∈ Z, q ∈ Z') → (∀ q ∈ Z', q ∈ Z ∨ s.heap.get? q.1 = none) → (∀ q ∈ Z', OffL L q.1) → CC) → CC)) (fun _ _ => False) s := by
  have hnd : ((rowsQ rows).map (·.num)).Nodup := by rw [rowsQ_num]; exact (rangeKs_lt _ _).imp fun h => Int.ne_of_lt h
  have hlaw := pure_law (dl := dl) (T := a3) hnd [(a0, n0), (a1, n1), (a2, n2)] n3 W1 (by
      simp only [List.forall_mem_cons] at hns ⊢
      exact ⟨⟨ha0, hns.1.1⟩, ⟨ha1, hns.2.1.1⟩, ⟨ha2, hns.2.2.1.1⟩, by simp⟩) (by simp only [List.forall_mem_cons] at hns; exact hns.2.2.2.1.1) hw1 (by
      intro k
      rw [hpart]
      simp [or_assoc])
  rw [show ([(a0, n0), (a1, n1), (a2, n2)] ++ [(a3, n3)] : List (Int × List Int)) = [(a0, n0), (a1, n1), (a2, n2), (a3, n3)] from rfl] at hlaw
  obtain ⟨e1, e2, e3, e4, e5, e6⟩ := hlaw
  have hok := runQ_ok dl (rowsQ rows) [(a3, W1)]
  have hasc : ((runQ dl (rowsQ rows) [(a3, W1)]).qs.map (·.num)).Pairwise (· < ·) := by
    have h := hok.1.map (·.num)
    rw [rowsQ_num] at h
    exact (rangeKs_lt _ _).sublist h
  have hlen : (runQ dl (rowsQ rows) [(a3, W1)]).qs.length ≤ 20 := by
    have h := hok.1.length_le
    rw [rowsQ_length] at h; omega
  have hg1 : (runQ dl (rowsQ rows) [(a3, W1)]).gone.length ≤ 1000 := runQ_gone_bound (by omega) (by simp)
  have hg2 : (runQ dl (rowsQ rows) [(a0, n0), (a1, n1), (a2, n2), (a3, n3)]).gone.length ≤ 1000 := runQ_gone_bound (by omega) (by simp)
  refine wpAny_execs_cons (wpAny_mono (some0_spec (td := td) G hdp hu hRL hrz (by omega) hTL hSS h0 h1 h2' h3 i0 i1 i2 i3 hns hm d6 zl cI F N) ?_ (fun _ _ q => q))
  rintro f s1 ⟨rfl, hb⟩
  refine hb.out _ ?_
  intro h1' tk1 T2 oR Z' eq1 F1 N1 dR R2 zz zo zl1
  subst eq1
  have R1' := R1.mono zz
  clear hb F N
  dsimp only
  refine wpAny_execs_cons (wpAny_mono (some1_spec G hdp hu dO dR R1' R2 F1 N1) ?_ (fun _ _ q => q))
  rintro f s2 ⟨rfl, hb⟩
  refine hb.out _ ?_
  intro h2 tk2 eq2 F2 N2
  subst eq2
  clear hb F1 N1
  dsimp only
  refine wpAny_execs_cons (wpAny_mono (some2_spec G hdp hu dO dR R1' R2 e1 hasc hlen e3 F2 N2) ?_ (fun _ _ q => q))
  rintro f s3 ⟨rfl, hb⟩
  refine hb.out _ ?_
  intro h3' tk3 eq3 F3 N3
  subst eq3
  clear hb F2 N2
  dsimp only
  refine wpAny_execs_cons (wpAny_mono (some3_spec G hdp hu dO dR R1' R2 e1 hlen e2 F3 N3) ?_ (fun _ _ q => q))
  rintro f s4 ⟨rfl, hb⟩
  refine hb.out _ ?_
  intro h4 tk4 eq4 F4 N4
  subst eq4
  clear hb F3 N3
  dsimp only
  refine wpAny_execs_cons (wpAny_mono (some4_spec G hdp hu dO dR R1' R2 e4 hg1 F4 N4) ?_ (fun _ _ q => q))
  rintro f s5 ⟨rfl, hb⟩
  refine hb.out _ ?_
  intro h5 tk5 eq5 F5 N5
  subst eq5
  clear hb F4 N4
  dsimp only
  refine wpAny_execs_cons (wpAny_mono (some5_spec G hdp hu dO dR R1' R2 dW (zz _ hWL) hW e5 hg2 F5 N5) ?_ (fun _ _ q => q))
  rintro f s6 ⟨rfl, hb⟩
  refine hb.out _ ?_
  intro h6 tk6 eq6 F6 N6
  subst eq6
  clear hb F5 N5
  dsimp only
  refine wpAny_execs_cons (wpAny_mono (some6_spec G hdp hu dO dR R1' R2 hn8 dM e6 hg2 F6 N6) ?_ (fun _ _ q => q))
  rintro f s7 ⟨rfl, hb⟩
  refine hb.out _ ?_
  intro h7 tk7 eq7 F7 N7
  subst eq7
  clear hb F6 N6
  dsimp only
  have KX := G.K
  revert KX; k_fill; intro KX
  refine gen ?_
  intro QQ retG
  k_steps
  exact retG _ _ ⟨rfl, .mk fun CC kk => kk _ _ oR _ Z' rfl F7 N7 dR zz zo zl1⟩
end
end Mine
end
-- Lg12
section
open PySem PySem.W PySem.Calls PyProof.Rows
set_option maxRecDepth 100000
namespace Mine
section
set_option maxHeartbeats 3000000 in
theorem law9_spec {w : World} {mean mg mb} {b : Heap} (G : Gd w mean mg mb b) {s : Shared} {dp un fr gd} {L fa : Addr} {cd : Value} {m : Str → Option Value} (hdp : dp + 60 < 1000) (hu : un + 600 < 9900)
    {Z : List (Addr × Obj)} {RL TL LL WL T1 : Addr} {rows : List Rw} {eR eT eL : Nat} {dl : Int} {td : Tok} (hRL : (RL, W.listOf (rows.map fun r : Rw => Value.ref r.a).toArray eR) ∈ Z) (hrz : ∀ r ∈ rows, RowZ Z r)
    {n : Nat} {tM : Tok} (hn8 : n ≤ 8) (hrl : rows.length = n) {sp : List Int} (hsp : sp.length = n) (hsr : ∀ x ∈ sp, 0 ≤ x ∧ x < 5)
    {a0 a1 a2 a3 : Int} {t0 t1 t2 t3 : Tok} (hTL : (TL, W.listOf #[.int a0 t0, .int a1 t1, .int a2 t2, .int a3 t3] eT) ∈ Z) (ha0 : a0 ≤ a3) (ha1 : a1 ≤ a3) (ha2 : a2 ≤ a3) {l0 l1 l2 l3 : Lt} (hLL : (LL, W.listOf #[.ref l0.a, .ref l1.a, .ref l2.a, .ref l3.a] eL) ∈ Z)
    (h0 : l0.obj ∈ Z) (h1 : l1.obj ∈ Z) (h2' : l2.obj ∈ Z) (h3 : l3.obj ∈ Z) (i0 : IntsAre l0.vs (lotOf sp 0)) (i1 : IntsAre l1.vs (lotOf sp 1)) (i2 : IntsAre l2.vs (lotOf sp 2)) (i3 : IntsAre l3.vs (lotOf sp 3))
    {wvs : List Value} (hWL : (WL, W.listOf wvs.toArray wvs.length) ∈ Z) (hW : IntsAre wvs (wholeOf sp))
    (hm : ∀ p ∈ [(Str.ofString "delay", Value.int dl td), (Str.ofString "rows", .ref RL), (Str.ofString "times", .ref TL), (Str.ofString "lots", .ref LL)], m p.1 = some p.2)
    {oB oM oS oW oO o6 : Obj} {v6 : Option Value} (dM : oM.data = Data.cell (some (.int (n : Int) tM))) (dW : oW.data = Data.cell (some (.ref WL))) (dO : oO.data = Data.cell (some (.ref T1))) (d6 : o6.data = Data.cell v6) (R1 : RunZ w Z T1 (runQ dl (rowsQ rows) [(a3, wholeOf sp)])) (zl : ∀ q ∈ Z, OffL L q.1)
    (F : Fr b L s.heap m) (N : News b L s.heap ((L + 1, oB) :: (L + 1 + 1, oM) :: (L + 1 + 1 + 1, oS) :: (L + 1 + 1 + 1 + 1, oW) :: (L + 1 + 1 + 1 + 1 + 1, oO) :: (L + 1 + 1 + 1 + 1 + 1 + 1, o6) :: Z)) :
    wpAny (model Challenge.rw_sa0568_01.row.prog w) ((Ar dp un fr gd).deeper (lawEnv L fa cd)) (exec (lawStmt 9) (lawEnv L fa cd))
      (fun f s' => f = .next ∧ Box (∀ CC : Prop, (∀ h' tk' m', (s' = { s with heap := h', toks := tk' }) → (Fr b L h' m') → CC) → CC)) (fun _ _ => False) s := by
  have KX := G.K
  have TX := G.T
  revert KX; k_fill; intro KX
  refine gen ?_
  intro QQ retG
  have hk : lawStmt 9 = lawStmt 9 := rfl
  conv at hk => rhs; whnf
  rw [hk]; clear hk
  have he : lawEnv L fa cd = lawEnv L fa cd := rfl
  conv at he => rhs; unfold lawEnv
  have hs : fdScope lawFd = fdScope lawFd := rfl
  conv at hs => rhs; whnf
  rw [hs] at he
  rw [he]; clear he hs
  obtain ⟨u, hmu⟩ := map_list _ hm
  subst hmu
  have N0 := newsSub (tl' := (LL, W.listOf #[.ref l0.a, .ref l1.a, .ref l2.a, .ref l3.a] eL) :: (L + 1, oB) :: (L + 1 + 1, oM) :: (L + 1 + 1 + 1, oS) :: (L + 1 + 1 + 1 + 1, oW) :: (L + 1 + 1 + 1 + 1 + 1, oO) :: (L + 1 + 1 + 1 + 1 + 1 + 1, o6) :: Z) N (by
    refine List.forall_mem_cons.mpr ⟨by repeat (first | exact hLL | refine List.Mem.tail _ ?_), fun q hq => hq⟩)
  clear N
  (try dsimp only); (try k_fold)
  k_dflt (refine For_invVF F (by rfl) (by rfl) ?_)
  k_steps
  unfold Hold
  rename Fr _ _ _ _ => F1
  rename News _ _ _ _ => N1
  obtain ⟨DT, e⟩ : ∃ z, z = adr0 N1 := ⟨_, rfl⟩
  dsimp only [adr0] at e
  subst e
  obtain ⟨LR, e⟩ : ∃ z, z = adr1 N1 := ⟨_, rfl⟩
  dsimp only [adr1] at e
  subst e
  rename @LT.lt Nat _ LL LR ∧ _ => lR
  rename @LT.lt Nat _ LR DT ∧ _ => lD
  have N2 := newsSub (tl' := (L + 1, oB) :: (L + 1 + 1, oM) :: (L + 1 + 1 + 1, oS) :: (L + 1 + 1 + 1 + 1, oW) :: (L + 1 + 1 + 1 + 1 + 1, oO) :: (L + 1 + 1 + 1 + 1 + 1 + 1, o6) :: (DT, tupOf #[.ref LL, .ref LR]) :: (LR, W.listOf #[.ref l3.a, .ref l2.a, .ref l1.a, .ref l0.a] 0) :: Z) N1 (by walk_at "my sub2")
  have oDT : OffL L DT := OffL.of (by omega)
  have oLR : OffL L LR := OffL.of (by omega)
  have hDL : L ≠ DT := Ne.symm (N1 (DT, _) (by k_mem)).2.1
  have hw1 := wholeOf_asc sp
  have hns : ∀ j : Int, (lotOf sp j).Pairwise (· < ·) ∧ (lotOf sp j).length < 64 := fun j => ⟨lotOf_asc sp j, by have := lotOf_len sp j; omega⟩
  have hpart : ∀ k, k ∈ wholeOf sp ↔ k ∈ lotOf sp 0 ∨ k ∈ lotOf sp 1 ∨ k ∈ lotOf sp 2 ∨ k ∈ lotOf sp 3 := fun k => by
    simp only [wholeOf, lotOf, List.mem_filter, decide_eq_true_eq]
    constructor
    · rintro ⟨hk, hlt⟩
      have hb := mem_rangeKs hk
      have hkn : k.toNat < sp.length := by omega
      have := hsr (sp.getD k.toNat 0) (by rw [List.getD_eq_getElem?_getD, List.getElem?_eq_getElem hkn]; exact List.getElem_mem hkn)
      generalize sp.getD k.toNat 0 = v at *
      have h4 : v = 0 ∨ v = 1 ∨ v = 2 ∨ v = 3 := by omega
      rcases h4 with h | h | h | h <;> simp [hk, h]
    · rintro (⟨hk, h⟩ | ⟨hk, h⟩ | ⟨hk, h⟩ | ⟨hk, h⟩) <;> exact ⟨hk, by omega⟩
  clear hm
  refine loopTuple rfl (N1 (DT, tupOf #[.ref LL, .ref LR]) (by k_mem)).1 F1 N2 hDL
    (fun i m' news => ∀ CC : Prop, (∀ oR vR Z', (oR.data = Data.cell vR) → (∀ p ∈ [(Str.ofString "delay", Value.int dl td), (Str.ofString "rows", .ref RL), (Str.ofString "times", .ref TL)], m' p.1 = some p.2) → (∀ q ∈ (DT, tupOf #[.ref LL, .ref LR]) :: (LR, W.listOf #[.ref l3.a, .ref l2.a, .ref l1.a, .ref l0.a] 0) :: Z, q ∈ Z') → (∀ q ∈ Z', OffL L q.1) → (news = (L + 1, oB) :: (L + 1 + 1, oM) :: (L + 1 + 1 + 1, oS) :: (L + 1 + 1 + 1 + 1, oW) :: (L + 1 + 1 + 1 + 1 + 1, oO) :: (L + 1 + 1 + 1 + 1 + 1 + 1, oR) :: Z') → CC) → CC)
    (fun CC kk => kk o6 v6 _ d6 (by walk_at "my map") (fun q hq => hq) (List.forall_mem_cons.mpr ⟨oDT, List.forall_mem_cons.mpr ⟨oLR, zl⟩⟩) rfl) ?hS ?turn ?done
  case hS =>
    intro i m' nw hh116
    refine hh116 _ ?_
    intro oR vR Z' _ _ zz _ eq117
    subst eq117
    exact .inr (.tail _ (.tail _ (.tail _ (.tail _ (.tail _ (.tail _ (zz _ (.head _))))))))
  case turn =>
    intro i v m₁ news₁ I oI h tk hv hh118 off F3 N3
    refine hh118 _ ?_
    intro oR vR Z' dR hm1 zz zl' eq119
    subst eq119
    clear F1 N1 N2
    have cI : OffL L I := ⟨off (L + 1, _) (by k_mem), off (L + 1 + 1, _) (by k_mem), off (L + 1 + 1 + 1, _) (by k_mem), off (L + 1 + 1 + 1 + 1, _) (by k_mem), off (L + 1 + 1 + 1 + 1 + 1, _) (by k_mem), off (L + 1 + 1 + 1 + 1 + 1 + 1, _) (by k_mem)⟩
    have zZ : ∀ q ∈ Z, q ∈ Z' := fun q hq => zz q (.tail _ (.tail _ hq))
    simp only [List.forall_mem_cons] at hm1
    have hm2 : ∀ SS, v = .ref SS → ∀ p ∈ [(Str.ofString "delay", Value.int dl td), (Str.ofString "rows", .ref RL), (Str.ofString "times", .ref TL), (Str.ofString "some", .ref SS)], (fun y => if y = Str.ofString "some" then some v else m₁ y) p.1 = some p.2 := fun SS e => by
      simp only [List.forall_mem_cons]
      exact ⟨(if_neg (by decide)).trans hm1.1, (if_neg (by decide)).trans hm1.2.1, (if_neg (by decide)).trans hm1.2.2.1, by rw [e]; simp, by simp⟩
    have hend : ∀ (f : Flow) (s' : Shared), (f = .next ∧ Box (∀ CC : Prop, (∀ h' tk' oR vR Z'', (s' = { heap := h', gens := s.gens, drawn := s.drawn, toks := tk', os := s.os }) → (Fr b L h' (fun y => if y = Str.ofString "some" then some v else m₁ y)) → (News b L h' ((I, oI) :: (L + 1, oB) :: (L + 1 + 1, oM) :: (L + 1 + 1 + 1, oS) :: (L + 1 + 1 + 1 + 1, oW) :: (L + 1 + 1 + 1 + 1 + 1, oO) :: (L + 1 + 1 + 1 + 1 + 1 + 1, oR) :: Z'')) → (oR.data = Data.cell vR) → (∀ q ∈ Z', q ∈ Z'') → (∀ q ∈ Z'', q ∈ Z' ∨ h.get? q.1 = none) → (∀ q ∈ Z'', OffL L q.1) → CC) → CC)) → f = .next ∧ MyEnd b L I oI (fun m' news => ∀ CC : Prop, (∀ oR vR Z', (oR.data = Data.cell vR) → (∀ p ∈ [(Str.ofString "delay", Value.int dl td), (Str.ofString "rows", .ref RL), (Str.ofString "times", .ref TL)], m' p.1 = some p.2) → (∀ q ∈ (DT, tupOf #[.ref LL, .ref LR]) :: (LR, W.listOf #[.ref l3.a, .ref l2.a, .ref l1.a, .ref l0.a] 0) :: Z, q ∈ Z') → (∀ q ∈ Z', OffL L q.1) → (news = (L + 1, oB) :: (L + 1 + 1, oM) :: (L + 1 + 1 + 1, oS) :: (L + 1 + 1 + 1 + 1, oW) :: (L + 1 + 1 + 1 + 1 + 1, oO) :: (L + 1 + 1 + 1 + 1 + 1 + 1, oR) :: Z') → CC) → CC) { heap := h, gens := s.gens, drawn := s.drawn, toks := tk, os := s.os } s' := by
      rintro f s' ⟨rfl, hb⟩
      refine hb.out _ ?_
      intro h' tk' oR' vR' Z'' eq8 F4 N4 dR' z1 z2 z3
      subst eq8
      refine ⟨rfl, MyEnd.intro (s₁ := { heap := h, gens := s.gens, drawn := s.drawn, toks := tk, os := s.os }) F4 N4 _ (fun p hp => hp) ?_ (fun CC kk => kk oR' vR' Z'' dR' ?_ (fun q hq => z1 q (zz q hq)) z3 rfl)⟩
      · simp only [List.forall_mem_cons]
        refine ⟨off (L + 1, oB) (by k_mem), off (L + 1 + 1, oM) (by k_mem), off (L + 1 + 1 + 1, oS) (by k_mem), off (L + 1 + 1 + 1 + 1, oW) (by k_mem), off (L + 1 + 1 + 1 + 1 + 1, oO) (by k_mem), off (L + 1 + 1 + 1 + 1 + 1 + 1, oR) (by k_mem), fun q hq => ?_⟩
        rcases z2 q hq with hq | hq
        · exact off q (.tail _ (.tail _ (.tail _ (.tail _ (.tail _ (.tail _ hq))))))
        · exact Ne.symm (neOf (N3 (I, oI) (.head _)).1 hq)
      · simp only [List.forall_mem_cons]
        exact ⟨(if_neg (by decide)).trans hm1.1, (if_neg (by decide)).trans hm1.2.1, (if_neg (by decide)).trans hm1.2.2.1, by simp⟩
    have hi : i = 0 ∨ i = 1 := by
      rcases Nat.lt_or_ge i 2 with q | q
      · omega
      · rw [Array.getElem?_eq_none (by simpa using q)] at hv; cases hv
    rcases hi with rfl | rfl
    · have ev : v = .ref LL := by simpa using hv.symm
      refine wpAny_mono (turn_spec (s := { heap := h, gens := s.gens, drawn := s.drawn, toks := tk, os := s.os }) (td := td) G hdp hu (zZ _ hRL) (fun r hr => (hrz r hr).mono zZ) hn8 hrl (zZ _ hTL) ha0 ha1 ha2 (zZ _ hLL) (zZ _ h0) (zZ _ h1) (zZ _ h2') (zZ _ h3) i0 i1 i2 i3 (by
        simp only [List.forall_mem_cons]; exact ⟨hns 0, hns 1, hns 2, hns 3, by simp⟩) hw1 hpart (zZ _ hWL) hW (hm2 LL ev) dM dW dO dR (R1.mono zZ) zl' cI F3 N3) (fun f s' q => ?_) (fun _ _ q => q)
      obtain ⟨rfl, q2⟩ := hend f s' q
      exact q2
    · have ev : v = .ref LR := by simpa using hv.symm
      refine wpAny_mono (turn_spec (s := { heap := h, gens := s.gens, drawn := s.drawn, toks := tk, os := s.os }) (td := td) G hdp hu (zZ _ hRL) (fun r hr => (hrz r hr).mono zZ) hn8 hrl (zZ _ hTL) ha0 ha1 ha2 (zz (LR, _) (.tail _ (.head _))) (zZ _ h3) (zZ _ h2') (zZ _ h1) (zZ _ h0) i3 i2 i1 i0 (by
        simp only [List.forall_mem_cons]; exact ⟨hns 3, hns 2, hns 1, hns 0, by simp⟩) hw1 (fun k => by rw [hpart]; constructor <;> (rintro (q | q | q | q) <;> simp [q])) (zZ _ hWL) hW (hm2 LR ev) dM dW dO dR (R1.mono zZ) zl' cI F3 N3) (fun f s' q => ?_) (fun _ _ q => q)
      obtain ⟨rfl, q2⟩ := hend f s' q
      exact q2
  case done =>
    intro m₁ news₁ h tk hh120 F3 N3
    refine hh120 _ ?_
    intro oR vR Z' dR hm1 zz zl' eq121
    subst eq121
    exact retG _ _ ⟨rfl, .mk fun CC kk => kk _ _ m₁ rfl F3⟩
end
end Mine
end
end
-- Lg13
section
open PySem PySem.W PySem.Calls PyProof.Rows
set_option maxRecDepth 100000
namespace Mine
theorem wp_execs_app {M : Model} {Γ : Ctx} {env : Env} {rest : List Stmt} {Q : Flow → Pos → Shared → Prop} {E : Value → Pos → Shared → Prop} : ∀ (l : List Stmt) (p : Pos) (s : Shared),
    Sem.wp M Γ (execs l env) (fun f p' s' => match f with | .next => Sem.wp M Γ (execs rest env) Q E p' s' | f => Q f p' s') E p s → Sem.wp M Γ (execs (l ++ rest) env) Q E p s
  | [], p, s, h => h
  | st :: r, p, s, h => by
    rw [List.cons_append, execs_cons, Sem.wp_bind']
    rw [execs_cons, Sem.wp_bind'] at h
    refine Sem.wp_mono M Γ _ (fun f p' s' h' => ?_) (fun _ _ _ h' => h') _ _ h
    cases f with
    | next => exact wp_execs_app r p' s' h'
    | _ => exact h'
theorem wpAny_execs_app {M : Model} {A : Around} {env : Env} {E : Value → Shared → Prop} {s : Shared} {l rest : List Stmt} {Q : Flow → Shared → Prop}
    (h : wpAny M A (execs l env) (fun f s' => match f with | .next => wpAny M A (execs rest env) Q E s' | f => Q f s') E s) : wpAny M A (execs (l ++ rest) env) Q E s := fun Γ p hΓ => by
  refine wp_execs_app l p s ?_
  refine Sem.wp_mono M Γ _ (fun f p' s' h' => ?_) (fun _ _ _ h' => h') _ _ (h Γ p hΓ)
  cases f with
  | next => exact h' Γ p' hΓ
  | _ => exact h'
theorem ints4 {vs : List Value} {ns : List Int} (h : IntsAre vs ns) (hl : ns.length = 4) : ∃ a0 t0 a1 t1 a2 t2 a3 t3, vs = [.int a0 t0, .int a1 t1, .int a2 t2, .int a3 t3] ∧ ns = [a0, a1, a2, a3] := by
  cases h with
  | nil => simp at hl
  | cons a0 t0 h =>
    cases h with
    | nil => simp at hl
    | cons a1 t1 h =>
      cases h with
      | nil => simp at hl
      | cons a2 t2 h =>
        cases h with
        | nil => simp at hl
        | cons a3 t3 h =>
          cases h with
          | nil => exact ⟨_, _, _, _, _, _, _, _, rfl, rfl⟩
          | cons a4 t4 h => simp at hl
theorem list4 {α : Type} {l : List α} (h : l.length = 4) : ∃ a b c d, l = [a, b, c, d] := by
  match l, h with
  | [a, b, c, d], _ => exact ⟨a, b, c, d, rfl⟩
set_option maxHeartbeats 3000000 in
theorem law_spec {w : World} {mean mg mb} {b : Heap} (G : Gd w mean mg mb b) {s : Shared} {dp un fr gd} {L fa : Addr} {cd : Value} {m : Str → Option Value} (hdp : dp + 60 < 1000) (hu : un + 600 < 9900)
    {sc : Addr} {vs : List Value} {ns : List Int} (hl : b.IsList sc vs.toArray) (hI : IntsAre vs ns) (hlen : ns.length ≤ 63) (hm : m (Str.ofString "script") = some (.ref sc))
    {o1 o2 o3 o4 o5 o6 : Obj} {v1 v2 v3 v4 v5 v6 : Option Value} (d1 : o1.data = Data.cell v1) (d2 : o2.data = Data.cell v2) (d3 : o3.data = Data.cell v3) (d4 : o4.data = Data.cell v4) (d5 : o5.data = Data.cell v5) (d6 : o6.data = Data.cell v6)
    (F : Fr b L s.heap m) (N : News b L s.heap [(L + 1, o1), (L + 1 + 1, o2), (L + 1 + 1 + 1, o3), (L + 1 + 1 + 1 + 1, o4), (L + 1 + 1 + 1 + 1 + 1, o5), (L + 1 + 1 + 1 + 1 + 1 + 1, o6)]) :
    wpAny (model Challenge.rw_sa0568_01.row.prog w) ((Ar dp un fr gd).deeper (lawEnv L fa cd)) (execs ([lawStmt 0, lawStmt 1, lawStmt 2] ++ [lawStmt 3, lawStmt 4, lawStmt 5, lawStmt 6, lawStmt 7, lawStmt 8, lawStmt 9, lawStmt 10]) (lawEnv L fa cd))
      (fun f s' => f = .ret (.bool true) ∧ Box (∀ CC : Prop, (∀ h' tk' m', (s' = { s with heap := h', toks := tk' }) → (Fr b L h' m') → CC) → CC)) (fun _ _ => False) s := by
  refine wpAny_execs_app (wpAny_mono (law1_spec G hdp hu hl hI hlen (by simpa using hm) d1 d2 d3 d4 d5 d6 F N) ?_ (fun _ _ q => q))
  rintro f s1 ⟨rfl, hb⟩
  refine hb.out _ ?_
  intro h1 tk1 m1 BL LS RL nB oB oM k t vs4 e4 ns4 dl td M tM tA eq9 F1 N1 AP1 dB dM hM3 hM8 hk0 hk1 hI4 hlen4 hm1
  subst eq9
  clear hb F N
  dsimp only
  refine wpAny_execs_cons (wpAny_mono (law2_spec (tA := tA) (td := td) (dl := dl) G hdp hu (.head _) hI4 hlen4 hk0 hk1 hM3 hM8 hm1 dB dM AP1 F1 N1) ?_ (fun _ _ q => q))
  rintro f s2 ⟨rfl, hb⟩
  refine hb.out _ ?_
  intro h2 tk2 m2 nB2 k2 t2 eR Z2 T2 tT2 rows eq10 F2 N2 AP2 zz2 hrl hrz hk20 hk21 hm2
  subst eq10
  clear hb F1 N1
  subst hrl
  have hr8 : rows.length ≤ 8 := by omega
  have hLS2 := zz2 _ (.head _)
  dsimp only
  refine wpAny_execs_cons (wpAny_mono (law3_spec (l3 := []) G hdp hu hLS2 hI4 hlen4 hk20 hk21 hr8 (by simp) dB dM d3 AP2 F2 N2) ?_ (fun _ _ q => q))
  rintro f s3 ⟨rfl, hb⟩
  refine hb.out _ ?_
  intro h3 tk3 nB3 k3 t3 SL vsS sp eS oS eq11 F3 N3 AP3 dS hS hsp hsr hk30 hk31
  subst eq11
  clear hb F2 N2
  dsimp only
  refine wpAny_execs_cons (wpAny_mono (law4_spec G hdp hu hr8 (.head _) hS hsp AP3 dM dS F3 N3) ?_ (fun _ _ q => q))
  rintro f s4 ⟨rfl, hb⟩
  refine hb.out _ ?_
  intro h4 tk4 m4 LL TL ls eq12 F4 N4 hls hlI AP4 tb tr tc tz hmL hmT hmo4
  subst eq12
  clear hb F3 N3
  have z34 : ∀ q ∈ Z2, q ∈ (LL, W.listOf (ls.map fun l => Value.ref l.a).toArray 4) :: ((SL, W.listOf vsS.toArray eS) :: Z2 ++ ls.map Lt.obj) := fun q hq => .tail _ (List.mem_append_left _ (.tail _ hq))
  simp only [List.forall_mem_cons] at hm2
  dsimp only
  refine wpAny_execs_cons (wpAny_mono (law5_spec G hdp hu (z34 _ hLS2) hI4 hlen4 hk30 hk31 ((hmo4 _ (by decide) (by decide)).trans hm2.2.2.1) hmT dB AP4 tb tr tc tz F4 N4) ?_ (fun _ _ q => q))
  rintro f s5 ⟨rfl, hb⟩
  refine hb.out _ ?_
  intro h5 tk5 m5 oBL eT T5 tT5 tvs tms eq13 F5 N5 hTI htl htp htle htlast hmA hmo5
  subst eq13
  clear hb F4 N4
  obtain ⟨Z6, hZ6⟩ : ∃ Z6, Z6 = (BL, oBL) :: (RL, W.listOf (rows.map fun r : Rw => Value.ref r.a).toArray eR) :: (TL, W.listOf tvs.toArray eT) :: ((LL, W.listOf (ls.map fun l => Value.ref l.a).toArray 4) :: ((SL, W.listOf vsS.toArray eS) :: Z2 ++ ls.map Lt.obj)) := ⟨_, rfl⟩
  have z46 : ∀ q ∈ (LL, W.listOf (ls.map fun l => Value.ref l.a).toArray 4) :: ((SL, W.listOf vsS.toArray eS) :: Z2 ++ ls.map Lt.obj), q ∈ Z6 := fun q hq => hZ6 ▸ .tail _ (.tail _ (.tail _ hq))
  have zl6 : ∀ q ∈ Z6, OffL L q.1 := by
    rw [hZ6]
    exact List.forall_mem_cons.mpr ⟨AP4.cb, List.forall_mem_cons.mpr ⟨AP4.cr, List.forall_mem_cons.mpr ⟨tc, AP4.zl⟩⟩⟩
  have hRL6 : (RL, W.listOf (rows.map fun r : Rw => Value.ref r.a).toArray eR) ∈ Z6 := hZ6 ▸ .tail _ (.head _)
  have hTL6 : (TL, W.listOf tvs.toArray eT) ∈ Z6 := hZ6 ▸ .tail _ (.tail _ (.head _))
  have N6 : News b L h5 ((L + 1, oB) :: (L + 1 + 1, oM) :: (L + 1 + 1 + 1, oS) :: (L + 1 + 1 + 1 + 1, o4) :: (L + 1 + 1 + 1 + 1 + 1, o5) :: (L + 1 + 1 + 1 + 1 + 1 + 1, o6) :: Z6) := newsSub N5 (by
    rw [hZ6]
    iterate 9 (refine List.forall_mem_cons.mpr ⟨by k_mem, ?_⟩)
    intro q hq
    repeat (first | exact hq | refine List.Mem.tail _ ?_))
  clear N5
  clear hZ6
  dsimp only
  refine wpAny_execs_cons (wpAny_mono (law6_spec G hdp hu hr8 (z46 (SL, W.listOf vsS.toArray eS) (.tail _ (List.mem_append_left _ (.head _)))) hS hsp dM dS d4 zl6 F5 N6) ?_ (fun _ _ q => q))
  rintro f s6 ⟨rfl, hb⟩
  refine hb.out _ ?_
  intro h6 tk6 WL oW wvs eq14 F6 N7 dW hW oWL
  subst eq14
  clear hb F5 N6
  have z67 : ∀ q ∈ Z6, q ∈ (WL, W.listOf wvs.toArray wvs.length) :: Z6 := fun q hq => .tail _ hq
  have hmD : m5 (Str.ofString "delay") = some (.int dl td) := (hmo5 _ (by decide) (by decide)).trans ((hmo4 _ (by decide) (by decide)).trans hm2.1)
  have hmR : m5 (Str.ofString "rows") = some (.ref RL) := (hmo5 _ (by decide) (by decide)).trans ((hmo4 _ (by decide) (by decide)).trans hm2.2.1)
  dsimp only
  refine wpAny_execs_cons (wpAny_mono (law7_spec (l3 := []) (rows := rows) (dl := dl) (td := td) (T := T5) (tA := tT5) (RL := RL) G hdp hu (z67 _ hRL6) (fun r hr => (hrz r hr).mono fun q hq => z67 _ (z46 _ (z34 q hq))) hr8 (.head _) hW (by omega) (by simp only [List.forall_mem_cons]; exact ⟨hmD, hmR, hmA, by simp⟩) dW d5 (List.forall_mem_cons.mpr ⟨oWL, zl6⟩) F6 N7) ?_ (fun _ _ q => q))
  rintro f s7 ⟨rfl, hb⟩
  refine hb.out _ ?_
  intro h7 tk7 T1 oO Z8 eq15 F7 N8 dO R1 z78 zl8
  subst eq15
  clear hb F6 N7
  obtain ⟨a0, u0, a1, u1, a2, u2, a3, u3, rfl, rfl⟩ := ints4 hTI htl
  obtain ⟨l0, l1, l2, l3, rfl⟩ := list4 hls
  obtain rfl : a3 = T5 := by simpa using htlast
  simp only [List.pairwise_cons] at htp
  have z48 : ∀ q ∈ (LL, W.listOf ([l0, l1, l2, l3].map fun l => Value.ref l.a).toArray 4) :: ((SL, W.listOf vsS.toArray eS) :: Z2 ++ [l0, l1, l2, l3].map Lt.obj), q ∈ Z8 := fun q hq => z78 _ (z67 _ (z46 q hq))
  dsimp only
  refine wpAny_execs_cons (wpAny_mono (law9_spec (td := td) (dl := dl) (rows := rows) (RL := RL) (sp := sp) (l0 := l0) (l1 := l1) (l2 := l2) (l3 := l3) (n := rows.length) G hdp hu (z78 _ (z67 _ hRL6)) (fun r hr => (hrz r hr).mono fun q hq => z48 _ (z34 q hq)) hr8 rfl hsp hsr (z78 _ (z67 _ hTL6)) (htp.1 a3 (by simp)) (htp.2.1 a3 (by simp)) (htp.2.2.1 a3 (by simp))
    (z48 _ (.head _)) (z48 _ (.tail _ (List.mem_append_right _ (by simp)))) (z48 _ (.tail _ (List.mem_append_right _ (by simp)))) (z48 _ (.tail _ (List.mem_append_right _ (by simp)))) (z48 _ (.tail _ (List.mem_append_right _ (by simp)))) (hlI 0 (by simp)) (hlI 1 (by simp)) (hlI 2 (by simp)) (hlI 3 (by simp))
    (z78 _ (.head _)) hW (by simp only [List.forall_mem_cons]; exact ⟨hmD, hmR, (hmo5 _ (by decide) (by decide)).trans hmT, (hmo5 _ (by decide) (by decide)).trans hmL, by simp⟩) dM dW dO d6 R1 zl8 F7 N8) ?_ (fun _ _ q => q))
  rintro f s8 ⟨rfl, hb⟩
  refine hb.out _ ?_
  intro h9 tk9 m9 eq16 F9
  subst eq16
  clear hb F7 N8
  dsimp only
  have KX := G.K
  have TX := G.T
  revert KX; k_fill; intro KX
  refine gen ?_
  intro QQ retG
  have hk : lawStmt 10 = lawStmt 10 := rfl
  conv at hk => rhs; whnf
  rw [hk]; clear hk
  have he : lawEnv L fa cd = lawEnv L fa cd := rfl
  conv at he => rhs; unfold lawEnv
  have hs : fdScope lawFd = fdScope lawFd := rfl
  conv at hs => rhs; whnf
  rw [hs] at he
  rw [he]; clear he hs
  k_steps
  exact retG _ _ ⟨rfl, .mk fun CC kk => kk _ _ _ rfl F9⟩
end Mine
end
-- Fin0
section
open PySem PySem.W PySem.Calls PyProof.Rows
set_option maxRecDepth 100000
namespace Mine
set_option maxHeartbeats 8000000 in
theorem fin : PySem.Challenge.rw_sa0568_01.Holds := by
  w_on
  refine holds_law (by decide +kernel) fun said => ?_
  refine holds_open (q := hV) (loose := []) (Xt := fun s => xlAt hV [] s && recOk (RowW.records Challenge.rw_sa0568_01.row.toRowW) s) (XP := XL hV []) (Yf := Hook.obs hH) (Ya := Hook.val hH) (YP := Hook.says hH) (N := 3076) hleft (Hook.of hH) (Hook.keeps hH) (fun s e => xl_of s (Bool.and_eq_true_iff.mp e).1) XL.keeps (by rfl) (by rfl) (by rfl) (fun s e => recFacts_of (Bool.and_eq_true_iff.mp e).2) (by rfl) (by first | assumption | decide +kernel) (by decide +kernel) ⟨rfl, rfl, rfl, rfl, rfl, by decide +kernel⟩ ?hw ?hc
  case hw => w_witness2
  k_go0
  (all_goals try k_fold)
  rename Fr _ _ _ _ => F
  rename News _ _ _ _ => N
  rename CellsAre _ _ _ => Y
  rename Top _ _ _ _ _ _ => TT
  rename Frag.In _ _ => KK
  rename IntsAre _ _ => hI
  rename Heap.IsList _ _ _ => hl
  rename _ = #[] => hg
  rename Obj.data _ = Data.cell (bindC _ _ _ (Str.ofString "box")) => d1
  rename Obj.data _ = Data.cell (bindC _ _ _ (Str.ofString "many")) => d2
  rename Obj.data _ = Data.cell (bindC _ _ _ (Str.ofString "spots")) => d3
  rename Obj.data _ = Data.cell (bindC _ _ _ (Str.ofString "whole")) => d4
  rename Obj.data _ = Data.cell (bindC _ _ _ (Str.ofString "once")) => d5
  rename Obj.data _ = Data.cell (bindC _ _ _ (Str.ofString "run")) => d6
  refine wpAny_mono (law_spec (dp := 1 + claimMargin) (un := 4) ⟨KK, TT⟩ (by decide) (by decide) hl hI (by omega) (by rfl) d1 d2 d3 d4 d5 d6 F (newsSub N (by lcg_sub))) ?_ (fun _ _ q => q.elim)
  rintro f s' ⟨rfl, hb⟩
  refine hb.out _ ?_
  intro h' tk' m' eq21 F9
  subst eq21
  clear hb F N
  dsimp only
  k_steps
end Mine
end
set_option maxRecDepth 100000 in
set_option maxHeartbeats 8000000 in
theorem PySem.Challenge.cw_sa0568_01_holds : PySem.Challenge.rw_sa0568_01.Holds := by
  exact Mine.fin
