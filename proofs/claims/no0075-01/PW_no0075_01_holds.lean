import PyProof.Rows.All
import Wide.All
import OpenK.AllK
import Wide.FinOn
import Lean
import PySem.Challenge.RW_no0075_01
set_option Elab.async false
set_option linter.all false
set_option maxRecDepth 100000
set_option maxHeartbeats 8000000
namespace NH.hd
open PySem PySem.W PyProof.Rows
noncomputable def stmtAt (n : Nat) : Stmt := match Challenge.pw_no0075_01.main.body[n]? with | some s => s | none => .Pass default
noncomputable def methAt (n k : Nat) : Stmt := match stmtAt n with | .ClassDef _ _ _ b _ _ _ _ _ _ _ => (match b[k]? with | some s => s | none => .Pass default) | _ => .Pass default
abbrev st (s : String) : Str := Str.ofString s
noncomputable def fnA (s : Stmt) (q : Str) (fl : Nat) (cl : List (Str × Addr)) (dV kV doc pm : Value) (an : Option Addr) (cd ct : Value) (b : Nat) : Obj := match s with
  | .FunctionDef name args body _ _ _ scope _ _ _ => Obj.mk (Value.type "function") none (Data.func (FuncData.mk name q args (FuncBody.stmts body) scope fl cl dV kV doc pm an cd ct b)) #[]
  | _ => default
noncomputable def heap_39 (P : Params) : Frag :=
  (nat_lit 2, Obj.mk Value.none none (Data.dict #[DictEntry.mk (PyData.keyHash P (st "type.__subclasses__.Exception.0")) (Value.str (st "type.__subclasses__.Exception.0") 227) (Value.int 38 0), DictEntry.mk (PyData.keyHash P (st "type.__subclasses__.Exception.n")) (Value.str (st "type.__subclasses__.Exception.n") 228) (Value.int 1 0)] 2) #[]) ::
  (nat_lit 3, Obj.mk (Value.type "dict") none (Data.dict #[DictEntry.mk (PyData.keyHash P (st "__name__")) (Value.str (st "__name__") 165) (Value.str (st "law_no0075_01") 470), DictEntry.mk (PyData.keyHash P (st "__doc__")) (Value.str (st "__doc__") 166) Value.none, DictEntry.mk (PyData.keyHash P (st "__package__")) (Value.str (st "__package__") 167) Value.none, DictEntry.mk (PyData.keyHash P (st "__loader__")) (Value.str (st "__loader__") 168) (Value.builtin "__main__.__loader__#opaque"), DictEntry.mk (PyData.keyHash P (st "__spec__")) (Value.str (st "__spec__") 169) Value.none, DictEntry.mk (PyData.keyHash P (st "__annotations__")) (Value.str (st "__annotations__") 170) (Value.ref 6), DictEntry.mk (PyData.keyHash P (st "__builtins__")) (Value.str (st "__builtins__") 171) (Value.ref 4), DictEntry.mk (PyData.keyHash P (st "__file__")) (Value.str (st "__file__") 173) (Value.str (st "/claim/cut.py") 172), DictEntry.mk (PyData.keyHash P (st "__cached__")) (Value.str (st "__cached__") 174) Value.none, DictEntry.mk (PyData.keyHash P (st "_wall")) (Value.str (st "_wall") 193) (Value.ref 21), DictEntry.mk (PyData.keyHash P (st "STREAM_STATE_ERROR")) (Value.str (st "STREAM_STATE_ERROR") 197) (Value.int 5 196), DictEntry.mk (PyData.keyHash P (st "QuicError")) (Value.str (st "QuicError") 230) (Value.ref 38), DictEntry.mk (PyData.keyHash P (st "add_span")) (Value.str (st "add_span") 245) (Value.ref 48), DictEntry.mk (PyData.keyHash P (st "cut_span")) (Value.str (st "cut_span") 257) (Value.ref 55), DictEntry.mk (PyData.keyHash P (st "has_span")) (Value.str (st "has_span") 268) (Value.ref 62), DictEntry.mk (PyData.keyHash P (st "first_span")) (Value.str (st "first_span") 278) (Value.ref 69), DictEntry.mk (PyData.keyHash P (st "without_spans")) (Value.str (st "without_spans") 289) (Value.ref 76), DictEntry.mk (PyData.keyHash P (st "READY")) (Value.str (st "READY") 293) (Value.str (st "ready") 292), DictEntry.mk (PyData.keyHash P (st "SENDING")) (Value.str (st "SENDING") 295) (Value.str (st "send") 294), DictEntry.mk (PyData.keyHash P (st "DATA_SENT")) (Value.str (st "DATA_SENT") 297) (Value.str (st "data_sent") 296), DictEntry.mk (PyData.keyHash P (st "DATA_RECEIVED")) (Value.str (st "DATA_RECEIVED") 299) (Value.str (st "data_recvd") 298), DictEntry.mk (PyData.keyHash P (st "RESET_RECEIVED")) (Value.str (st "RESET_RECEIVED") 301) (Value.str (st "reset_recvd") 300), DictEntry.mk (PyData.keyHash P (st "OPEN_STATES")) (Value.str (st "OPEN_STATES") 302) (Value.ref 77), DictEntry.mk (PyData.keyHash P (st "SendPart")) (Value.str (st "SendPart") 469) (Value.ref 199), DictEntry.mk (PyData.keyHash P (st "_law_box")) (Value.str (st "_law_box") 480) (Value.ref 210), DictEntry.mk (PyData.keyHash P (st "_law_take")) (Value.str (st "_law_take") 488) (Value.ref 217), DictEntry.mk (PyData.keyHash P (st "_law_chunk")) (Value.str (st "_law_chunk") 494) (Value.ref 222), DictEntry.mk (PyData.keyHash P (st "_law_acked")) (Value.str (st "_law_acked") 507) (Value.ref 229), DictEntry.mk (PyData.keyHash P (st "_law_lost")) (Value.str (st "_law_lost") 520) (Value.ref 236), DictEntry.mk (PyData.keyHash P (st "_law_step")) (Value.str (st "_law_step") 526) (Value.ref 241), DictEntry.mk (PyData.keyHash P (st "_law_is_blocked")) (Value.str (st "_law_is_blocked") 535) (Value.ref 248), DictEntry.mk (PyData.keyHash P (st "_law_is_all")) (Value.str (st "_law_is_all") 542) (Value.ref 255), DictEntry.mk (PyData.keyHash P (st "law")) (Value.str (st "law") 554) (Value.ref 262)] 33) #[]) ::
  (nat_lit 15, Obj.mk (Value.type "tuple") none (Data.seq #[]) #[]) ::
  (nat_lit 17, Obj.mk (Value.type "tuple") none (Data.seq #[Value.str (st "k") 190]) #[]) ::
  (nat_lit 18, Obj.mk (Value.type "tuple") none (Data.seq #[]) #[]) ::
  (nat_lit 20, Obj.mk (Value.type "code") none (Data.fields #[Value.str (st "_wall") 187, Value.str (st "_wall") 188, Value.str (st "/claim/cut.py") 189, Value.int 1 0, Value.int 1 0, Value.int 0 0, Value.int 0 0, Value.int 3 0, Value.ref 15, Value.bool true, Value.int 181 0, Value.ref 16, Value.none, Value.ref 17, Value.ref 18, Value.ref 19, Value.int 191 0, Value.int 1 0, Value.str (st "/claim/cut.py") 192]) #[]) ::
  (nat_lit 21, fnA (stmtAt 0) (st "_wall") (3) ([]) (Value.none) (Value.none) (Value.none) (Value.str (st "__main__") 164) (none) (Value.ref 20) (Value.none) (0)) ::
  (nat_lit 22, Obj.mk (Value.type "tuple") none (Data.seq #[Value.type "Exception"]) #[]) ::
  (nat_lit 29, Obj.mk (Value.type "tuple") none (Data.seq #[]) #[]) ::
  (nat_lit 31, Obj.mk (Value.type "tuple") none (Data.seq #[Value.str (st "self") 213, Value.str (st "code") 214, Value.str (st "frame_type") 215, Value.str (st "text") 216]) #[]) ::
  (nat_lit 32, Obj.mk (Value.type "tuple") none (Data.seq #[]) #[]) ::
  (nat_lit 34, Obj.mk (Value.type "code") none (Data.fields #[Value.str (st "__init__") 210, Value.str (st "QuicError.__init__") 211, Value.str (st "/claim/cut.py") 212, Value.int 8 0, Value.int 4 0, Value.int 0 0, Value.int 0 0, Value.int 3 0, Value.ref 29, Value.bool true, Value.int 181 0, Value.ref 30, Value.none, Value.ref 31, Value.ref 32, Value.ref 33, Value.int 217 0, Value.int 8 0, Value.str (st "/claim/cut.py") 218]) #[]) ::
  (nat_lit 35, fnA (methAt 3 0) (st "QuicError.__init__") (3) ([]) (Value.none) (Value.none) (Value.none) (Value.str (st "quic.errors") 194) (none) (Value.ref 34) (Value.none) (0)) ::
  (nat_lit 36, Obj.mk (Value.type "tuple") none (Data.seq #[Value.str (st "code") 220, Value.str (st "frame_type") 221, Value.str (st "text") 222]) #[]) ::
  (nat_lit 37, Obj.mk (Value.type "dict") none (Data.dict #[DictEntry.mk (PyData.keyHash P (st "__module__")) (Value.str (st "__module__") 205) (Value.str (st "quic.errors") 194), DictEntry.mk (PyData.keyHash P (st "__firstlineno__")) (Value.str (st "__firstlineno__") 209) (Value.int 6 208), DictEntry.mk (PyData.keyHash P (st "__init__")) (Value.str (st "__init__") 219) (Value.ref 35), DictEntry.mk (PyData.keyHash P (st "__static_attributes__")) (Value.str (st "__static_attributes__") 223) (Value.ref 36), DictEntry.mk (PyData.keyHash P (st "__weakref__")) (Value.str (st "__weakref__") 225) (Value.ref 39), DictEntry.mk (PyData.keyHash P (st "__doc__")) (Value.str (st "__doc__") 226) Value.none] 3) #[]) ::
  (nat_lit 38, Obj.mk (Value.type "type") none (Data.cls (ClassData.mk (st "QuicError") [Value.type "Exception"] [Value.ref 38, Value.type "Exception", Value.type "BaseException", Value.type "object"] 37 (st "QuicError") true [] [] false none false)) #[some (Value.ref 22), none, some (Value.str (st "QuicError") 198), some (Value.str (st "QuicError") 206), some (Value.builtin "Exception.__new__"), some (Value.bool true)]) ::
  (nat_lit 39, Obj.mk (Value.type "getset_descriptor") none (Data.fields #[Value.str (st "__weakref__") 224, Value.ref 38, Value.builtin "ExceptionGroup.__weakref__", Value.none]) #[]) ::
  (nat_lit 42, Obj.mk (Value.type "tuple") none (Data.seq #[]) #[]) ::
  (nat_lit 44, Obj.mk (Value.type "tuple") none (Data.seq #[Value.str (st "spans") 236, Value.str (st "low") 237, Value.str (st "high") 238, Value.str (st "found") 239, Value.str (st "is_put") 240, Value.str (st "one") 241, Value.str (st "other") 242]) #[]) ::
  (nat_lit 45, Obj.mk (Value.type "tuple") none (Data.seq #[]) #[]) ::
  (nat_lit 47, Obj.mk (Value.type "code") none (Data.fields #[Value.str (st "add_span") 233, Value.str (st "add_span") 234, Value.str (st "/claim/cut.py") 235, Value.int 14 0, Value.int 3 0, Value.int 0 0, Value.int 0 0, Value.int 3 0, Value.ref 42, Value.bool true, Value.int 181 0, Value.ref 43, Value.none, Value.ref 44, Value.ref 45, Value.ref 46, Value.int 243 0, Value.int 14 0, Value.str (st "/claim/cut.py") 244]) #[]) ::
  (nat_lit 48, fnA (stmtAt 5) (st "add_span") (3) ([]) (Value.none) (Value.none) (Value.none) (Value.str (st "quic.spans") 231) (none) (Value.ref 47) (Value.none) (0)) ::
  (nat_lit 49, Obj.mk (Value.type "tuple") none (Data.seq #[]) #[]) ::
  (nat_lit 51, Obj.mk (Value.type "tuple") none (Data.seq #[Value.str (st "spans") 249, Value.str (st "low") 250, Value.str (st "high") 251, Value.str (st "found") 252, Value.str (st "one") 253, Value.str (st "other") 254]) #[]) ::
  (nat_lit 52, Obj.mk (Value.type "tuple") none (Data.seq #[]) #[]) ::
  (nat_lit 54, Obj.mk (Value.type "code") none (Data.fields #[Value.str (st "cut_span") 246, Value.str (st "cut_span") 247, Value.str (st "/claim/cut.py") 248, Value.int 29 0, Value.int 3 0, Value.int 0 0, Value.int 0 0, Value.int 3 0, Value.ref 49, Value.bool true, Value.int 181 0, Value.ref 50, Value.none, Value.ref 51, Value.ref 52, Value.ref 53, Value.int 255 0, Value.int 29 0, Value.str (st "/claim/cut.py") 256]) #[]) ::
  (nat_lit 55, fnA (stmtAt 6) (st "cut_span") (3) ([]) (Value.none) (Value.none) (Value.none) (Value.str (st "quic.spans") 231) (none) (Value.ref 54) (Value.none) (0)) ::
  (nat_lit 56, Obj.mk (Value.type "tuple") none (Data.seq #[]) #[]) ::
  (nat_lit 58, Obj.mk (Value.type "tuple") none (Data.seq #[Value.str (st "spans") 261, Value.str (st "low") 262, Value.str (st "high") 263, Value.str (st "one") 264, Value.str (st "other") 265]) #[]) ::
  (nat_lit 59, Obj.mk (Value.type "tuple") none (Data.seq #[]) #[]) ::
  (nat_lit 61, Obj.mk (Value.type "code") none (Data.fields #[Value.str (st "has_span") 258, Value.str (st "has_span") 259, Value.str (st "/claim/cut.py") 260, Value.int 37 0, Value.int 3 0, Value.int 0 0, Value.int 0 0, Value.int 3 0, Value.ref 56, Value.bool true, Value.int 181 0, Value.ref 57, Value.none, Value.ref 58, Value.ref 59, Value.ref 60, Value.int 266 0, Value.int 37 0, Value.str (st "/claim/cut.py") 267]) #[]) ::
  (nat_lit 62, fnA (stmtAt 7) (st "has_span") (3) ([]) (Value.none) (Value.none) (Value.none) (Value.str (st "quic.spans") 231) (none) (Value.ref 61) (Value.none) (0)) ::
  (nat_lit 63, Obj.mk (Value.type "tuple") none (Data.seq #[]) #[]) ::
  (nat_lit 65, Obj.mk (Value.type "tuple") none (Data.seq #[Value.str (st "spans") 272, Value.str (st "most") 273, Value.str (st "low") 274, Value.str (st "high") 275]) #[]) ::
  (nat_lit 66, Obj.mk (Value.type "tuple") none (Data.seq #[]) #[]) ::
  (nat_lit 68, Obj.mk (Value.type "code") none (Data.fields #[Value.str (st "first_span") 269, Value.str (st "first_span") 270, Value.str (st "/claim/cut.py") 271, Value.int 44 0, Value.int 2 0, Value.int 0 0, Value.int 0 0, Value.int 3 0, Value.ref 63, Value.bool true, Value.int 181 0, Value.ref 64, Value.none, Value.ref 65, Value.ref 66, Value.ref 67, Value.int 276 0, Value.int 44 0, Value.str (st "/claim/cut.py") 277]) #[]) ::
  (nat_lit 69, fnA (stmtAt 8) (st "first_span") (3) ([]) (Value.none) (Value.none) (Value.none) (Value.str (st "quic.spans") 231) (none) (Value.ref 68) (Value.none) (0)) ::
  (nat_lit 70, Obj.mk (Value.type "tuple") none (Data.seq #[]) #[]) ::
  (nat_lit 72, Obj.mk (Value.type "tuple") none (Data.seq #[Value.str (st "spans") 282, Value.str (st "others") 283, Value.str (st "found") 284, Value.str (st "low") 285, Value.str (st "high") 286]) #[]) ::
  (nat_lit 73, Obj.mk (Value.type "tuple") none (Data.seq #[]) #[]) ::
  (nat_lit 75, Obj.mk (Value.type "code") none (Data.fields #[Value.str (st "without_spans") 279, Value.str (st "without_spans") 280, Value.str (st "/claim/cut.py") 281, Value.int 49 0, Value.int 2 0, Value.int 0 0, Value.int 0 0, Value.int 3 0, Value.ref 70, Value.bool true, Value.int 181 0, Value.ref 71, Value.none, Value.ref 72, Value.ref 73, Value.ref 74, Value.int 287 0, Value.int 49 0, Value.str (st "/claim/cut.py") 288]) #[]) ::
  (nat_lit 76, fnA (stmtAt 9) (st "without_spans") (3) ([]) (Value.none) (Value.none) (Value.none) (Value.str (st "quic.spans") 231) (none) (Value.ref 75) (Value.none) (0)) ::
  (nat_lit 77, Obj.mk (Value.type "tuple") none (Data.seq #[Value.str (st "ready") 292, Value.str (st "send") 294]) #[]) ::
  (nat_lit 85, Obj.mk (Value.type "tuple") none (Data.seq #[]) #[]) ::
  (nat_lit 87, Obj.mk (Value.type "tuple") none (Data.seq #[Value.str (st "self") 318, Value.str (st "limit") 319]) #[]) ::
  (nat_lit 88, Obj.mk (Value.type "tuple") none (Data.seq #[]) #[]) ::
  (nat_lit 90, Obj.mk (Value.type "code") none (Data.fields #[Value.str (st "__init__") 315, Value.str (st "SendPart.__init__") 316, Value.str (st "/claim/cut.py") 317, Value.int 63 0, Value.int 2 0, Value.int 0 0, Value.int 0 0, Value.int 3 0, Value.ref 85, Value.bool true, Value.int 181 0, Value.ref 86, Value.none, Value.ref 87, Value.ref 88, Value.ref 89, Value.int 320 0, Value.int 63 0, Value.str (st "/claim/cut.py") 321]) #[]) ::
  (nat_lit 91, fnA (methAt 17 0) (st "SendPart.__init__") (3) ([]) (Value.none) (Value.none) (Value.none) (Value.str (st "quic.sendpart") 290) (none) (Value.ref 90) (Value.none) (0)) ::
  (nat_lit 92, Obj.mk (Value.type "tuple") none (Data.seq #[]) #[]) ::
  (nat_lit 94, Obj.mk (Value.type "tuple") none (Data.seq #[Value.str (st "self") 326, Value.str (st "data") 327]) #[]) ::
  (nat_lit 95, Obj.mk (Value.type "tuple") none (Data.seq #[]) #[]) ::
  (nat_lit 97, Obj.mk (Value.type "code") none (Data.fields #[Value.str (st "write") 323, Value.str (st "SendPart.write") 324, Value.str (st "/claim/cut.py") 325, Value.int 76 0, Value.int 2 0, Value.int 0 0, Value.int 0 0, Value.int 3 0, Value.ref 92, Value.bool true, Value.int 181 0, Value.ref 93, Value.none, Value.ref 94, Value.ref 95, Value.ref 96, Value.int 328 0, Value.int 76 0, Value.str (st "/claim/cut.py") 329]) #[]) ::
  (nat_lit 98, fnA (methAt 17 1) (st "SendPart.write") (3) ([]) (Value.none) (Value.none) (Value.none) (Value.str (st "quic.sendpart") 290) (none) (Value.ref 97) (Value.none) (0)) ::
  (nat_lit 99, Obj.mk (Value.type "tuple") none (Data.seq #[]) #[]) ::
  (nat_lit 101, Obj.mk (Value.type "tuple") none (Data.seq #[Value.str (st "self") 334]) #[]) ::
  (nat_lit 102, Obj.mk (Value.type "tuple") none (Data.seq #[]) #[]) ::
  (nat_lit 104, Obj.mk (Value.type "code") none (Data.fields #[Value.str (st "finish") 331, Value.str (st "SendPart.finish") 332, Value.str (st "/claim/cut.py") 333, Value.int 81 0, Value.int 1 0, Value.int 0 0, Value.int 0 0, Value.int 3 0, Value.ref 99, Value.bool true, Value.int 181 0, Value.ref 100, Value.none, Value.ref 101, Value.ref 102, Value.ref 103, Value.int 335 0, Value.int 81 0, Value.str (st "/claim/cut.py") 336]) #[]) ::
  (nat_lit 105, fnA (methAt 17 2) (st "SendPart.finish") (3) ([]) (Value.none) (Value.none) (Value.none) (Value.str (st "quic.sendpart") 290) (none) (Value.ref 104) (Value.none) (0)) ::
  (nat_lit 106, Obj.mk (Value.type "tuple") none (Data.seq #[]) #[]) ::
  (nat_lit 108, Obj.mk (Value.type "tuple") none (Data.seq #[Value.str (st "self") 341, Value.str (st "code") 342]) #[]) ::
  (nat_lit 109, Obj.mk (Value.type "tuple") none (Data.seq #[]) #[]) ::
  (nat_lit 111, Obj.mk (Value.type "code") none (Data.fields #[Value.str (st "reset") 338, Value.str (st "SendPart.reset") 339, Value.str (st "/claim/cut.py") 340, Value.int 88 0, Value.int 2 0, Value.int 0 0, Value.int 0 0, Value.int 3 0, Value.ref 106, Value.bool true, Value.int 181 0, Value.ref 107, Value.none, Value.ref 108, Value.ref 109, Value.ref 110, Value.int 343 0, Value.int 88 0, Value.str (st "/claim/cut.py") 344]) #[]) ::
  (nat_lit 112, fnA (methAt 17 3) (st "SendPart.reset") (3) ([]) (Value.none) (Value.none) (Value.none) (Value.str (st "quic.sendpart") 290) (none) (Value.ref 111) (Value.none) (0)) ::
  (nat_lit 113, Obj.mk (Value.type "tuple") none (Data.seq #[]) #[]) ::
  (nat_lit 115, Obj.mk (Value.type "tuple") none (Data.seq #[Value.str (st "self") 349, Value.str (st "code") 350]) #[]) ::
  (nat_lit 116, Obj.mk (Value.type "tuple") none (Data.seq #[]) #[]) ::
  (nat_lit 118, Obj.mk (Value.type "code") none (Data.fields #[Value.str (st "on_stop") 346, Value.str (st "SendPart.on_stop") 347, Value.str (st "/claim/cut.py") 348, Value.int 91 0, Value.int 2 0, Value.int 0 0, Value.int 0 0, Value.int 3 0, Value.ref 113, Value.bool true, Value.int 181 0, Value.ref 114, Value.none, Value.ref 115, Value.ref 116, Value.ref 117, Value.int 351 0, Value.int 91 0, Value.str (st "/claim/cut.py") 352]) #[]) ::
  (nat_lit 119, fnA (methAt 17 4) (st "SendPart.on_stop") (3) ([]) (Value.none) (Value.none) (Value.none) (Value.str (st "quic.sendpart") 290) (none) (Value.ref 118) (Value.none) (0)) ::
  (nat_lit 120, Obj.mk (Value.type "tuple") none (Data.seq #[]) #[]) ::
  (nat_lit 122, Obj.mk (Value.type "tuple") none (Data.seq #[Value.str (st "self") 357, Value.str (st "limit") 358]) #[]) ::
  (nat_lit 123, Obj.mk (Value.type "tuple") none (Data.seq #[]) #[]) ::
  (nat_lit 125, Obj.mk (Value.type "code") none (Data.fields #[Value.str (st "raise_limit") 354, Value.str (st "SendPart.raise_limit") 355, Value.str (st "/claim/cut.py") 356, Value.int 94 0, Value.int 2 0, Value.int 0 0, Value.int 0 0, Value.int 3 0, Value.ref 120, Value.bool true, Value.int 181 0, Value.ref 121, Value.none, Value.ref 122, Value.ref 123, Value.ref 124, Value.int 359 0, Value.int 94 0, Value.str (st "/claim/cut.py") 360]) #[]) ::
  (nat_lit 126, fnA (methAt 17 5) (st "SendPart.raise_limit") (3) ([]) (Value.none) (Value.none) (Value.none) (Value.str (st "quic.sendpart") 290) (none) (Value.ref 125) (Value.none) (0)) ::
  (nat_lit 127, Obj.mk (Value.type "tuple") none (Data.seq #[]) #[]) ::
  (nat_lit 129, Obj.mk (Value.type "tuple") none (Data.seq #[Value.str (st "self") 365, Value.str (st "most_new") 366, Value.str (st "room") 367]) #[]) ::
  (nat_lit 130, Obj.mk (Value.type "tuple") none (Data.seq #[]) #[]) ::
  (nat_lit 132, Obj.mk (Value.type "code") none (Data.fields #[Value.str (st "new_room") 362, Value.str (st "SendPart.new_room") 363, Value.str (st "/claim/cut.py") 364, Value.int 97 0, Value.int 2 0, Value.int 0 0, Value.int 0 0, Value.int 3 0, Value.ref 127, Value.bool true, Value.int 181 0, Value.ref 128, Value.none, Value.ref 129, Value.ref 130, Value.ref 131, Value.int 368 0, Value.int 97 0, Value.str (st "/claim/cut.py") 369]) #[]) ::
  (nat_lit 133, fnA (methAt 17 6) (st "SendPart.new_room") (3) ([]) (Value.none) (Value.none) (Value.none) (Value.str (st "quic.sendpart") 290) (none) (Value.ref 132) (Value.none) (0)) ::
  (nat_lit 134, Obj.mk (Value.type "tuple") none (Data.seq #[]) #[]) ::
  (nat_lit 136, Obj.mk (Value.type "tuple") none (Data.seq #[Value.str (st "self") 374, Value.str (st "is_blocked") 375]) #[]) ::
  (nat_lit 137, Obj.mk (Value.type "tuple") none (Data.seq #[]) #[]) ::
  (nat_lit 139, Obj.mk (Value.type "code") none (Data.fields #[Value.str (st "blocked_at") 371, Value.str (st "SendPart.blocked_at") 372, Value.str (st "/claim/cut.py") 373, Value.int 103 0, Value.int 1 0, Value.int 0 0, Value.int 0 0, Value.int 3 0, Value.ref 134, Value.bool true, Value.int 181 0, Value.ref 135, Value.none, Value.ref 136, Value.ref 137, Value.ref 138, Value.int 376 0, Value.int 103 0, Value.str (st "/claim/cut.py") 377]) #[]) ::
  (nat_lit 140, fnA (methAt 17 7) (st "SendPart.blocked_at") (3) ([]) (Value.none) (Value.none) (Value.none) (Value.str (st "quic.sendpart") 290) (none) (Value.ref 139) (Value.none) (0)) ::
  (nat_lit 141, Obj.mk (Value.type "tuple") none (Data.seq #[]) #[]) ::
  (nat_lit 143, Obj.mk (Value.type "tuple") none (Data.seq #[Value.str (st "self") 382, Value.str (st "most_new") 383]) #[]) ::
  (nat_lit 144, Obj.mk (Value.type "tuple") none (Data.seq #[]) #[]) ::
  (nat_lit 146, Obj.mk (Value.type "code") none (Data.fields #[Value.str (st "has_to_send") 379, Value.str (st "SendPart.has_to_send") 380, Value.str (st "/claim/cut.py") 381, Value.int 107 0, Value.int 2 0, Value.int 0 0, Value.int 0 0, Value.int 3 0, Value.ref 141, Value.bool true, Value.int 181 0, Value.ref 142, Value.none, Value.ref 143, Value.ref 144, Value.ref 145, Value.int 384 0, Value.int 107 0, Value.str (st "/claim/cut.py") 385]) #[]) ::
  (nat_lit 147, fnA (methAt 17 8) (st "SendPart.has_to_send") (3) ([]) (Value.none) (Value.none) (Value.none) (Value.str (st "quic.sendpart") 290) (none) (Value.ref 146) (Value.none) (0)) ::
  (nat_lit 148, Obj.mk (Value.type "tuple") none (Data.seq #[]) #[]) ::
  (nat_lit 150, Obj.mk (Value.type "tuple") none (Data.seq #[Value.str (st "self") 390, Value.str (st "most") 391, Value.str (st "most_new") 392, Value.str (st "span") 393, Value.str (st "room") 394, Value.str (st "low") 395, Value.str (st "high") 396, Value.str (st "is_end") 397]) #[]) ::
  (nat_lit 151, Obj.mk (Value.type "tuple") none (Data.seq #[]) #[]) ::
  (nat_lit 153, Obj.mk (Value.type "code") none (Data.fields #[Value.str (st "next_chunk") 387, Value.str (st "SendPart.next_chunk") 388, Value.str (st "/claim/cut.py") 389, Value.int 112 0, Value.int 3 0, Value.int 0 0, Value.int 0 0, Value.int 3 0, Value.ref 148, Value.bool true, Value.int 181 0, Value.ref 149, Value.none, Value.ref 150, Value.ref 151, Value.ref 152, Value.int 398 0, Value.int 112 0, Value.str (st "/claim/cut.py") 399]) #[]) ::
  (nat_lit 154, fnA (methAt 17 9) (st "SendPart.next_chunk") (3) ([]) (Value.none) (Value.none) (Value.none) (Value.str (st "quic.sendpart") 290) (none) (Value.ref 153) (Value.none) (0)) ::
  (nat_lit 155, Obj.mk (Value.type "tuple") none (Data.seq #[]) #[]) ::
  (nat_lit 157, Obj.mk (Value.type "tuple") none (Data.seq #[Value.str (st "self") 404]) #[]) ::
  (nat_lit 158, Obj.mk (Value.type "tuple") none (Data.seq #[]) #[]) ::
  (nat_lit 160, Obj.mk (Value.type "code") none (Data.fields #[Value.str (st "next_reset") 401, Value.str (st "SendPart.next_reset") 402, Value.str (st "/claim/cut.py") 403, Value.int 130 0, Value.int 1 0, Value.int 0 0, Value.int 0 0, Value.int 3 0, Value.ref 155, Value.bool true, Value.int 181 0, Value.ref 156, Value.none, Value.ref 157, Value.ref 158, Value.ref 159, Value.int 405 0, Value.int 130 0, Value.str (st "/claim/cut.py") 406]) #[]) ::
  (nat_lit 161, fnA (methAt 17 10) (st "SendPart.next_reset") (3) ([]) (Value.none) (Value.none) (Value.none) (Value.str (st "quic.sendpart") 290) (none) (Value.ref 160) (Value.none) (0)) ::
  (nat_lit 162, Obj.mk (Value.type "tuple") none (Data.seq #[]) #[]) ::
  (nat_lit 164, Obj.mk (Value.type "tuple") none (Data.seq #[Value.str (st "self") 411, Value.str (st "offset") 412, Value.str (st "size") 413, Value.str (st "is_end") 414]) #[]) ::
  (nat_lit 165, Obj.mk (Value.type "tuple") none (Data.seq #[]) #[]) ::
  (nat_lit 167, Obj.mk (Value.type "code") none (Data.fields #[Value.str (st "on_acked") 408, Value.str (st "SendPart.on_acked") 409, Value.str (st "/claim/cut.py") 410, Value.int 133 0, Value.int 4 0, Value.int 0 0, Value.int 0 0, Value.int 3 0, Value.ref 162, Value.bool true, Value.int 181 0, Value.ref 163, Value.none, Value.ref 164, Value.ref 165, Value.ref 166, Value.int 415 0, Value.int 133 0, Value.str (st "/claim/cut.py") 416]) #[]) ::
  (nat_lit 168, fnA (methAt 17 11) (st "SendPart.on_acked") (3) ([]) (Value.none) (Value.none) (Value.none) (Value.str (st "quic.sendpart") 290) (none) (Value.ref 167) (Value.none) (0)) ::
  (nat_lit 169, Obj.mk (Value.type "tuple") none (Data.seq #[]) #[]) ::
  (nat_lit 171, Obj.mk (Value.type "tuple") none (Data.seq #[Value.str (st "self") 421, Value.str (st "offset") 422, Value.str (st "size") 423, Value.str (st "is_end") 424, Value.str (st "low") 425, Value.str (st "high") 426]) #[]) ::
  (nat_lit 172, Obj.mk (Value.type "tuple") none (Data.seq #[]) #[]) ::
  (nat_lit 174, Obj.mk (Value.type "code") none (Data.fields #[Value.str (st "on_lost") 418, Value.str (st "SendPart.on_lost") 419, Value.str (st "/claim/cut.py") 420, Value.int 142 0, Value.int 4 0, Value.int 0 0, Value.int 0 0, Value.int 3 0, Value.ref 169, Value.bool true, Value.int 181 0, Value.ref 170, Value.none, Value.ref 171, Value.ref 172, Value.ref 173, Value.int 427 0, Value.int 142 0, Value.str (st "/claim/cut.py") 428]) #[]) ::
  (nat_lit 175, fnA (methAt 17 12) (st "SendPart.on_lost") (3) ([]) (Value.none) (Value.none) (Value.none) (Value.str (st "quic.sendpart") 290) (none) (Value.ref 174) (Value.none) (0)) ::
  (nat_lit 176, Obj.mk (Value.type "tuple") none (Data.seq #[]) #[]) ::
  (nat_lit 178, Obj.mk (Value.type "tuple") none (Data.seq #[Value.str (st "self") 433]) #[]) ::
  (nat_lit 179, Obj.mk (Value.type "tuple") none (Data.seq #[]) #[]) ::
  (nat_lit 181, Obj.mk (Value.type "code") none (Data.fields #[Value.str (st "on_reset_acked") 430, Value.str (st "SendPart.on_reset_acked") 431, Value.str (st "/claim/cut.py") 432, Value.int 150 0, Value.int 1 0, Value.int 0 0, Value.int 0 0, Value.int 3 0, Value.ref 176, Value.bool true, Value.int 181 0, Value.ref 177, Value.none, Value.ref 178, Value.ref 179, Value.ref 180, Value.int 434 0, Value.int 150 0, Value.str (st "/claim/cut.py") 435]) #[]) ::
  (nat_lit 182, fnA (methAt 17 13) (st "SendPart.on_reset_acked") (3) ([]) (Value.none) (Value.none) (Value.none) (Value.str (st "quic.sendpart") 290) (none) (Value.ref 181) (Value.none) (0)) ::
  (nat_lit 183, Obj.mk (Value.type "tuple") none (Data.seq #[]) #[]) ::
  (nat_lit 185, Obj.mk (Value.type "tuple") none (Data.seq #[Value.str (st "self") 440]) #[]) ::
  (nat_lit 186, Obj.mk (Value.type "tuple") none (Data.seq #[]) #[]) ::
  (nat_lit 188, Obj.mk (Value.type "code") none (Data.fields #[Value.str (st "on_reset_lost") 437, Value.str (st "SendPart.on_reset_lost") 438, Value.str (st "/claim/cut.py") 439, Value.int 153 0, Value.int 1 0, Value.int 0 0, Value.int 0 0, Value.int 3 0, Value.ref 183, Value.bool true, Value.int 181 0, Value.ref 184, Value.none, Value.ref 185, Value.ref 186, Value.ref 187, Value.int 441 0, Value.int 153 0, Value.str (st "/claim/cut.py") 442]) #[]) ::
  (nat_lit 189, fnA (methAt 17 14) (st "SendPart.on_reset_lost") (3) ([]) (Value.none) (Value.none) (Value.none) (Value.str (st "quic.sendpart") 290) (none) (Value.ref 188) (Value.none) (0)) ::
  (nat_lit 190, Obj.mk (Value.type "tuple") none (Data.seq #[]) #[]) ::
  (nat_lit 192, Obj.mk (Value.type "tuple") none (Data.seq #[Value.str (st "self") 447]) #[]) ::
  (nat_lit 193, Obj.mk (Value.type "tuple") none (Data.seq #[]) #[]) ::
  (nat_lit 195, Obj.mk (Value.type "code") none (Data.fields #[Value.str (st "is_over") 444, Value.str (st "SendPart.is_over") 445, Value.str (st "/claim/cut.py") 446, Value.int 156 0, Value.int 1 0, Value.int 0 0, Value.int 0 0, Value.int 3 0, Value.ref 190, Value.bool true, Value.int 181 0, Value.ref 191, Value.none, Value.ref 192, Value.ref 193, Value.ref 194, Value.int 448 0, Value.int 156 0, Value.str (st "/claim/cut.py") 449]) #[]) ::
  (nat_lit 196, fnA (methAt 17 15) (st "SendPart.is_over") (3) ([]) (Value.none) (Value.none) (Value.none) (Value.str (st "quic.sendpart") 290) (none) (Value.ref 195) (Value.none) (0)) ::
  (nat_lit 197, Obj.mk (Value.type "tuple") none (Data.seq #[Value.str (st "acked") 451, Value.str (st "is_end_acked") 452, Value.str (st "is_finished") 453, Value.str (st "limit") 454, Value.str (st "lost") 455, Value.str (st "owes_end") 456, Value.str (st "owes_reset") 457, Value.str (st "reset_code") 458, Value.str (st "sent_to") 459, Value.str (st "state") 460, Value.str (st "written") 461]) #[]) ::
  (nat_lit 198, Obj.mk (Value.type "dict") none (Data.dict #[DictEntry.mk (PyData.keyHash P (st "__module__")) (Value.str (st "__module__") 310) (Value.str (st "quic.sendpart") 290), DictEntry.mk (PyData.keyHash P (st "__firstlineno__")) (Value.str (st "__firstlineno__") 314) (Value.int 61 313), DictEntry.mk (PyData.keyHash P (st "__init__")) (Value.str (st "__init__") 322) (Value.ref 91), DictEntry.mk (PyData.keyHash P (st "write")) (Value.str (st "write") 330) (Value.ref 98), DictEntry.mk (PyData.keyHash P (st "finish")) (Value.str (st "finish") 337) (Value.ref 105), DictEntry.mk (PyData.keyHash P (st "reset")) (Value.str (st "reset") 345) (Value.ref 112), DictEntry.mk (PyData.keyHash P (st "on_stop")) (Value.str (st "on_stop") 353) (Value.ref 119), DictEntry.mk (PyData.keyHash P (st "raise_limit")) (Value.str (st "raise_limit") 361) (Value.ref 126), DictEntry.mk (PyData.keyHash P (st "new_room")) (Value.str (st "new_room") 370) (Value.ref 133), DictEntry.mk (PyData.keyHash P (st "blocked_at")) (Value.str (st "blocked_at") 378) (Value.ref 140), DictEntry.mk (PyData.keyHash P (st "has_to_send")) (Value.str (st "has_to_send") 386) (Value.ref 147), DictEntry.mk (PyData.keyHash P (st "next_chunk")) (Value.str (st "next_chunk") 400) (Value.ref 154), DictEntry.mk (PyData.keyHash P (st "next_reset")) (Value.str (st "next_reset") 407) (Value.ref 161), DictEntry.mk (PyData.keyHash P (st "on_acked")) (Value.str (st "on_acked") 417) (Value.ref 168), DictEntry.mk (PyData.keyHash P (st "on_lost")) (Value.str (st "on_lost") 429) (Value.ref 175), DictEntry.mk (PyData.keyHash P (st "on_reset_acked")) (Value.str (st "on_reset_acked") 436) (Value.ref 182), DictEntry.mk (PyData.keyHash P (st "on_reset_lost")) (Value.str (st "on_reset_lost") 443) (Value.ref 189), DictEntry.mk (PyData.keyHash P (st "is_over")) (Value.str (st "is_over") 450) (Value.ref 196), DictEntry.mk (PyData.keyHash P (st "__static_attributes__")) (Value.str (st "__static_attributes__") 462) (Value.ref 197), DictEntry.mk (PyData.keyHash P (st "__dict__")) (Value.str (st "__dict__") 464) (Value.ref 200), DictEntry.mk (PyData.keyHash P (st "__weakref__")) (Value.str (st "__weakref__") 466) (Value.ref 201), DictEntry.mk (PyData.keyHash P (st "__doc__")) (Value.str (st "__doc__") 467) Value.none] 4) #[]) ::
  (nat_lit 199, Obj.mk (Value.type "type") none (Data.cls (ClassData.mk (st "SendPart") [Value.type "object"] [Value.ref 199, Value.type "object"] 198 (st "SendPart") true [] [] false none false)) #[none, none, some (Value.str (st "SendPart") 303), some (Value.str (st "SendPart") 311), some (Value.builtin "object.__new__"), some (Value.bool true)]) ::
  (nat_lit 200, Obj.mk (Value.type "getset_descriptor") none (Data.fields #[Value.str (st "__dict__") 463, Value.ref 199, Value.builtin "function.__dict__", Value.builtin "function.__dict__#set"]) #[]) ::
  (nat_lit 201, Obj.mk (Value.type "getset_descriptor") none (Data.fields #[Value.str (st "__weakref__") 465, Value.ref 199, Value.builtin "ExceptionGroup.__weakref__", Value.none]) #[]) ::
  (nat_lit 204, Obj.mk (Value.type "tuple") none (Data.seq #[]) #[]) ::
  (nat_lit 206, Obj.mk (Value.type "tuple") none (Data.seq #[Value.str (st "script") 475, Value.str (st "seed_here") 476, Value.str (st "one") 477]) #[]) ::
  (nat_lit 207, Obj.mk (Value.type "tuple") none (Data.seq #[]) #[]) ::
  (nat_lit 209, Obj.mk (Value.type "code") none (Data.fields #[Value.str (st "_law_box") 472, Value.str (st "_law_box") 473, Value.str (st "/claim/cut.py") 474, Value.int 159 0, Value.int 2 0, Value.int 0 0, Value.int 0 0, Value.int 3 0, Value.ref 204, Value.bool true, Value.int 181 0, Value.ref 205, Value.none, Value.ref 206, Value.ref 207, Value.ref 208, Value.int 478 0, Value.int 159 0, Value.str (st "/claim/cut.py") 479]) #[]) ::
  (nat_lit 210, fnA (stmtAt 19) (st "_law_box") (3) ([]) (Value.none) (Value.none) (Value.none) (Value.str (st "law_no0075_01") 470) (none) (Value.ref 209) (Value.none) (0)) ::
  (nat_lit 211, Obj.mk (Value.type "tuple") none (Data.seq #[]) #[]) ::
  (nat_lit 213, Obj.mk (Value.type "tuple") none (Data.seq #[Value.str (st "box") 484, Value.str (st "wide") 485]) #[]) ::
  (nat_lit 214, Obj.mk (Value.type "tuple") none (Data.seq #[]) #[]) ::
  (nat_lit 216, Obj.mk (Value.type "code") none (Data.fields #[Value.str (st "_law_take") 481, Value.str (st "_law_take") 482, Value.str (st "/claim/cut.py") 483, Value.int 163 0, Value.int 2 0, Value.int 0 0, Value.int 0 0, Value.int 3 0, Value.ref 211, Value.bool true, Value.int 181 0, Value.ref 212, Value.none, Value.ref 213, Value.ref 214, Value.ref 215, Value.int 486 0, Value.int 163 0, Value.str (st "/claim/cut.py") 487]) #[]) ::
  (nat_lit 217, fnA (stmtAt 20) (st "_law_take") (3) ([]) (Value.none) (Value.none) (Value.none) (Value.str (st "law_no0075_01") 470) (none) (Value.ref 216) (Value.none) (0)) ::
  (nat_lit 218, Obj.mk (Value.type "tuple") none (Data.seq #[]) #[]) ::
  (nat_lit 221, Obj.mk (Value.type "code") none (Data.fields #[Value.str (st "_law_chunk") 489, Value.str (st "_law_chunk") 490, Value.str (st "/claim/cut.py") 491, Value.int 168 0, Value.int 4 0, Value.int 0 0, Value.int 0 0, Value.int 3 0, Value.ref 218, Value.bool true, Value.int 181 0, Value.ref 219, Value.none, Value.none, Value.none, Value.ref 220, Value.int 492 0, Value.int 168 0, Value.str (st "/claim/cut.py") 493]) #[]) ::
  (nat_lit 222, fnA (stmtAt 21) (st "_law_chunk") (3) ([]) (Value.none) (Value.none) (Value.none) (Value.str (st "law_no0075_01") 470) (none) (Value.ref 221) (Value.none) (0)) ::
  (nat_lit 223, Obj.mk (Value.type "tuple") none (Data.seq #[]) #[]) ::
  (nat_lit 225, Obj.mk (Value.type "tuple") none (Data.seq #[Value.str (st "part") 498, Value.str (st "here") 499, Value.str (st "chunk") 500, Value.str (st "offset") 501, Value.str (st "data") 502, Value.str (st "is_end") 503, Value.str (st "at") 504]) #[]) ::
  (nat_lit 226, Obj.mk (Value.type "tuple") none (Data.seq #[]) #[]) ::
  (nat_lit 228, Obj.mk (Value.type "code") none (Data.fields #[Value.str (st "_law_acked") 495, Value.str (st "_law_acked") 496, Value.str (st "/claim/cut.py") 497, Value.int 187 0, Value.int 3 0, Value.int 0 0, Value.int 0 0, Value.int 3 0, Value.ref 223, Value.bool true, Value.int 181 0, Value.ref 224, Value.none, Value.ref 225, Value.ref 226, Value.ref 227, Value.int 505 0, Value.int 187 0, Value.str (st "/claim/cut.py") 506]) #[]) ::
  (nat_lit 229, fnA (stmtAt 22) (st "_law_acked") (3) ([]) (Value.none) (Value.none) (Value.none) (Value.str (st "law_no0075_01") 470) (none) (Value.ref 228) (Value.none) (0)) ::
  (nat_lit 230, Obj.mk (Value.type "tuple") none (Data.seq #[]) #[]) ::
  (nat_lit 232, Obj.mk (Value.type "tuple") none (Data.seq #[Value.str (st "part") 511, Value.str (st "here") 512, Value.str (st "chunk") 513, Value.str (st "offset") 514, Value.str (st "data") 515, Value.str (st "is_end") 516, Value.str (st "at") 517]) #[]) ::
  (nat_lit 233, Obj.mk (Value.type "tuple") none (Data.seq #[]) #[]) ::
  (nat_lit 235, Obj.mk (Value.type "code") none (Data.fields #[Value.str (st "_law_lost") 508, Value.str (st "_law_lost") 509, Value.str (st "/claim/cut.py") 510, Value.int 195 0, Value.int 3 0, Value.int 0 0, Value.int 0 0, Value.int 3 0, Value.ref 230, Value.bool true, Value.int 181 0, Value.ref 231, Value.none, Value.ref 232, Value.ref 233, Value.ref 234, Value.int 518 0, Value.int 195 0, Value.str (st "/claim/cut.py") 519]) #[]) ::
  (nat_lit 236, fnA (stmtAt 23) (st "_law_lost") (3) ([]) (Value.none) (Value.none) (Value.none) (Value.str (st "law_no0075_01") 470) (none) (Value.ref 235) (Value.none) (0)) ::
  (nat_lit 237, Obj.mk (Value.type "tuple") none (Data.seq #[]) #[]) ::
  (nat_lit 240, Obj.mk (Value.type "code") none (Data.fields #[Value.str (st "_law_step") 521, Value.str (st "_law_step") 522, Value.str (st "/claim/cut.py") 523, Value.int 201 0, Value.int 3 0, Value.int 0 0, Value.int 0 0, Value.int 3 0, Value.ref 237, Value.bool true, Value.int 181 0, Value.ref 238, Value.none, Value.none, Value.none, Value.ref 239, Value.int 524 0, Value.int 201 0, Value.str (st "/claim/cut.py") 525]) #[]) ::
  (nat_lit 241, fnA (stmtAt 24) (st "_law_step") (3) ([]) (Value.none) (Value.none) (Value.none) (Value.str (st "law_no0075_01") 470) (none) (Value.ref 240) (Value.none) (0)) ::
  (nat_lit 242, Obj.mk (Value.type "tuple") none (Data.seq #[]) #[]) ::
  (nat_lit 244, Obj.mk (Value.type "tuple") none (Data.seq #[Value.str (st "part") 530, Value.str (st "written") 531, Value.str (st "is_held") 532]) #[]) ::
  (nat_lit 245, Obj.mk (Value.type "tuple") none (Data.seq #[]) #[]) ::
  (nat_lit 247, Obj.mk (Value.type "code") none (Data.fields #[Value.str (st "_law_is_blocked") 527, Value.str (st "_law_is_blocked") 528, Value.str (st "/claim/cut.py") 529, Value.int 218 0, Value.int 2 0, Value.int 0 0, Value.int 0 0, Value.int 3 0, Value.ref 242, Value.bool true, Value.int 181 0, Value.ref 243, Value.none, Value.ref 244, Value.ref 245, Value.ref 246, Value.int 533 0, Value.int 218 0, Value.str (st "/claim/cut.py") 534]) #[]) ::
  (nat_lit 248, fnA (stmtAt 25) (st "_law_is_blocked") (3) ([]) (Value.none) (Value.none) (Value.none) (Value.str (st "law_no0075_01") 470) (none) (Value.ref 247) (Value.none) (0)) ::
  (nat_lit 249, Obj.mk (Value.type "tuple") none (Data.seq #[]) #[]) ::
  (nat_lit 251, Obj.mk (Value.type "tuple") none (Data.seq #[Value.str (st "here") 539]) #[]) ::
  (nat_lit 252, Obj.mk (Value.type "tuple") none (Data.seq #[]) #[]) ::
  (nat_lit 254, Obj.mk (Value.type "code") none (Data.fields #[Value.str (st "_law_is_all") 536, Value.str (st "_law_is_all") 537, Value.str (st "/claim/cut.py") 538, Value.int 221 0, Value.int 1 0, Value.int 0 0, Value.int 0 0, Value.int 3 0, Value.ref 249, Value.bool true, Value.int 181 0, Value.ref 250, Value.none, Value.ref 251, Value.ref 252, Value.ref 253, Value.int 540 0, Value.int 221 0, Value.str (st "/claim/cut.py") 541]) #[]) ::
  (nat_lit 255, fnA (stmtAt 26) (st "_law_is_all") (3) ([]) (Value.none) (Value.none) (Value.none) (Value.str (st "law_no0075_01") 470) (none) (Value.ref 254) (Value.none) (0)) ::
  (nat_lit 256, Obj.mk (Value.type "tuple") none (Data.seq #[]) #[]) ::
  (nat_lit 258, Obj.mk (Value.type "tuple") none (Data.seq #[Value.str (st "script") 546, Value.str (st "box") 547, Value.str (st "part") 548, Value.str (st "here") 549, Value.str (st "turn") 550, Value.str (st "chunk") 551]) #[]) ::
  (nat_lit 259, Obj.mk (Value.type "tuple") none (Data.seq #[]) #[]) ::
  (nat_lit 261, Obj.mk (Value.type "code") none (Data.fields #[Value.str (st "law") 543, Value.str (st "law") 544, Value.str (st "/claim/cut.py") 545, Value.int 223 0, Value.int 1 0, Value.int 0 0, Value.int 0 0, Value.int 3 0, Value.ref 256, Value.bool true, Value.int 181 0, Value.ref 257, Value.none, Value.ref 258, Value.ref 259, Value.ref 260, Value.int 552 0, Value.int 223 0, Value.str (st "/claim/cut.py") 553]) #[]) ::
  (nat_lit 262, fnA (stmtAt 27) (st "law") (3) ([]) (Value.none) (Value.none) (Value.none) (Value.str (st "law_no0075_01") 470) (none) (Value.ref 261) (Value.none) (0)) ::
  []
noncomputable def adr : List Nat := [2, 3, 15, 17, 18, 20, 21, 22, 29, 31, 32, 34, 35, 36, 37, 38, 39, 42, 44, 45, 47, 48, 49, 51, 52, 54, 55, 56, 58, 59, 61, 62, 63, 65, 66, 68, 69, 70, 72, 73, 75, 76, 77, 85, 87, 88, 90, 91, 92, 94, 95, 97, 98, 99, 101, 102, 104, 105, 106, 108, 109, 111, 112, 113, 115, 116, 118, 119, 120, 122, 123, 125, 126, 127, 129, 130, 132, 133, 134, 136, 137, 139, 140, 141, 143, 144, 146, 147, 148, 150, 151, 153, 154, 155, 157, 158, 160, 161, 162, 164, 165, 167, 168, 169, 171, 172, 174, 175, 176, 178, 179, 181, 182, 183, 185, 186, 188, 189, 190, 192, 193, 195, 196, 197, 198, 199, 200, 201, 204, 206, 207, 209, 210, 211, 213, 214, 216, 217, 218, 221, 222, 223, 225, 226, 228, 229, 230, 232, 233, 235, 236, 237, 240, 241, 242, 244, 245, 247, 248, 249, 251, 252, 254, 255, 256, 258, 259, 261, 262]
theorem adr_ok : ∀ P, adr = (heap_39 P).map (·.1) := fun _ => by kernel_rfl
noncomputable def hook : Hook := kHook heap_39 adr adr_ok
noncomputable def pick {α : Type} : List Nat → List α → List α
  | [], _ => []
  | i :: is, l => match l[i]? with | some x => x :: pick is l | none => pick is l
noncomputable def view_39 : Program := { Challenge.pw_no0075_01 with main := { Challenge.pw_no0075_01.main with body := pick [0, 2, 3, 5, 6, 7, 8, 9, 11, 12, 13, 14, 15, 16, 17, 19, 20, 21, 22, 23, 24, 25, 26, 27] Challenge.pw_no0075_01.main.body } }
abbrev loose : List Str := [Str.ofString "OPEN_STATES"]
abbrev lv : List (Str × WData) := [(Str.ofString "OPEN_STATES", WData.tuple [WData.str { cps := #[114, 101, 97, 100, 121] }, WData.str { cps := #[115, 101, 110, 100] }])]
noncomputable def ko (P : Params) (a : Nat) : Obj := match (heap_39 P).find? (fun x => Nat.beq x.1 a) with | some x => x.2 | none => default
noncomputable def x0 (P : Params) : Obj := Obj.mk (Value.type "tuple") none (Data.seq #[]) #[]
noncomputable def x1 (P : Params) : Obj := Obj.mk Value.none none (Data.fields #[]) #[]
noncomputable def x2 (P : Params) : Obj := Obj.mk (Value.type "code") none (Data.fields #[Value.str (st "<module>") 182, Value.str (st "<module>") 183, Value.str (st "/claim/cut.py") 184, Value.int 1 0, Value.int 0 0, Value.int 0 0, Value.int 0 0, Value.int 0 0, Value.ref 11, Value.bool false, Value.int 181 0, Value.ref 12, Value.none, Value.none, Value.none, Value.none, Value.int 185 0, Value.int 1 0, Value.str (st "/claim/cut.py") 186]) #[]
noncomputable def x3 (P : Params) : Obj := Obj.mk (Value.type "frame") none Data.plain #[some (Value.ref 13), some (Value.ref 3), some (Value.ref 3), none, some (Value.str (st "__main__") 164), none, some (Value.ref 0)]
noncomputable def x4 (P : Params) : Obj := Obj.mk (Value.type "dict") none (Data.dict #[DictEntry.mk (PyData.keyHash P (st "__name__")) (Value.str (st "__name__") 165) (Value.str (st "quic.sendpart") 290), DictEntry.mk (PyData.keyHash P (st "__doc__")) (Value.str (st "__doc__") 166) Value.none, DictEntry.mk (PyData.keyHash P (st "__package__")) (Value.str (st "__package__") 167) Value.none, DictEntry.mk (PyData.keyHash P (st "__loader__")) (Value.str (st "__loader__") 168) (Value.builtin "__main__.__loader__#opaque"), DictEntry.mk (PyData.keyHash P (st "__spec__")) (Value.str (st "__spec__") 169) Value.none, DictEntry.mk (PyData.keyHash P (st "__annotations__")) (Value.str (st "__annotations__") 170) (Value.ref 6), DictEntry.mk (PyData.keyHash P (st "__builtins__")) (Value.str (st "__builtins__") 171) (Value.ref 4), DictEntry.mk (PyData.keyHash P (st "__file__")) (Value.str (st "__file__") 173) (Value.str (st "/claim/cut.py") 172), DictEntry.mk (PyData.keyHash P (st "__cached__")) (Value.str (st "__cached__") 174) Value.none, DictEntry.mk (PyData.keyHash P (st "_wall")) (Value.str (st "_wall") 193) (Value.ref 21), DictEntry.mk (PyData.keyHash P (st "STREAM_STATE_ERROR")) (Value.str (st "STREAM_STATE_ERROR") 197) (Value.int 5 196), DictEntry.mk (PyData.keyHash P (st "QuicError")) (Value.str (st "QuicError") 230) (Value.ref 38), DictEntry.mk (PyData.keyHash P (st "add_span")) (Value.str (st "add_span") 245) (Value.ref 48), DictEntry.mk (PyData.keyHash P (st "cut_span")) (Value.str (st "cut_span") 257) (Value.ref 55), DictEntry.mk (PyData.keyHash P (st "has_span")) (Value.str (st "has_span") 268) (Value.ref 62), DictEntry.mk (PyData.keyHash P (st "first_span")) (Value.str (st "first_span") 278) (Value.ref 69), DictEntry.mk (PyData.keyHash P (st "without_spans")) (Value.str (st "without_spans") 289) (Value.ref 76), DictEntry.mk (PyData.keyHash P (st "READY")) (Value.str (st "READY") 293) (Value.str (st "ready") 292), DictEntry.mk (PyData.keyHash P (st "SENDING")) (Value.str (st "SENDING") 295) (Value.str (st "send") 294), DictEntry.mk (PyData.keyHash P (st "DATA_SENT")) (Value.str (st "DATA_SENT") 297) (Value.str (st "data_sent") 296), DictEntry.mk (PyData.keyHash P (st "DATA_RECEIVED")) (Value.str (st "DATA_RECEIVED") 299) (Value.str (st "data_recvd") 298), DictEntry.mk (PyData.keyHash P (st "RESET_RECEIVED")) (Value.str (st "RESET_RECEIVED") 301) (Value.str (st "reset_recvd") 300), DictEntry.mk (PyData.keyHash P (st "OPEN_STATES")) (Value.str (st "OPEN_STATES") 302) (Value.ref 77)] 23) #[]
noncomputable def x5 (P : Params) : Obj := Obj.mk Value.none none (Data.fields #[Value.int 1 0, Value.int 0 0, Value.ref 20, Value.int 6 0, Value.int 0 0, Value.ref 27, Value.int 14 0, Value.int 0 0, Value.ref 47, Value.int 29 0, Value.int 0 0, Value.ref 54, Value.int 37 0, Value.int 0 0, Value.ref 61, Value.int 44 0, Value.int 0 0, Value.ref 68, Value.int 49 0, Value.int 0 0, Value.ref 75]) #[]
noncomputable def x6 (P : Params) : Obj := Obj.mk Value.none none (Data.func (FuncData.mk (st "_wall") (st "_wall") (Arguments.mk [] [Arg.mk (st "k") none (Pos.mk 1 10 1 11)] none [] [] none []) (FuncBody.stmts [Stmt.While (Expr.Constant (Const.bool true) 0 (Pos.mk 2 10 2 14)) [Stmt.Pass (Pos.mk 3 8 3 12)] [] (Pos.mk 2 4 3 12)]) (Scope.mk ScopeKind.function [(st "k", NameKind.local)] false false []) 0 [] Value.none Value.none Value.none Value.none none Value.none Value.none 0)) #[]
noncomputable def x7 (P : Params) : Obj := Obj.mk (Value.type "builtin_function_or_method") none (Data.fields #[Value.builtin "type.__prepare__", Value.type "type"]) #[]
noncomputable def x8 (P : Params) : Obj := Obj.mk (Value.type "dict") none (Data.dict #[DictEntry.mk (PyData.keyHash P (st "__module__")) (Value.str (st "__module__") 205) (Value.str (st "quic.errors") 194), DictEntry.mk (PyData.keyHash P (st "__qualname__")) (Value.str (st "__qualname__") 207) (Value.str (st "QuicError") 206), DictEntry.mk (PyData.keyHash P (st "__firstlineno__")) (Value.str (st "__firstlineno__") 209) (Value.int 6 208), DictEntry.mk (PyData.keyHash P (st "__init__")) (Value.str (st "__init__") 219) (Value.ref 35), DictEntry.mk (PyData.keyHash P (st "__static_attributes__")) (Value.str (st "__static_attributes__") 223) (Value.ref 36)] 5) #[]
noncomputable def x9 (P : Params) : Obj := Obj.mk Value.none none (Data.fields #[Value.int 8 0, Value.int 4 0, Value.ref 34]) #[]
noncomputable def x10 (P : Params) : Obj := Obj.mk (Value.type "code") none (Data.fields #[Value.str (st "QuicError") 200, Value.str (st "QuicError") 201, Value.str (st "/claim/cut.py") 202, Value.int 6 0, Value.int 0 0, Value.int 0 0, Value.int 0 0, Value.int 0 0, Value.ref 25, Value.bool false, Value.int 181 0, Value.ref 26, Value.none, Value.none, Value.none, Value.none, Value.int 203 0, Value.int 6 0, Value.str (st "/claim/cut.py") 204]) #[]
noncomputable def x11 (P : Params) : Obj := Obj.mk (Value.type "frame") none Data.plain #[some (Value.ref 27), some (Value.ref 3), some (Value.ref 24), none, some (Value.str (st "quic.errors") 194), none, some (Value.ref 0)]
noncomputable def x12 (P : Params) : Obj := Obj.mk Value.none none (Data.func (FuncData.mk (st "__init__") (st "QuicError.__init__") (Arguments.mk [] [Arg.mk (st "self") none (Pos.mk 8 17 8 21), Arg.mk (st "code") none (Pos.mk 8 23 8 27), Arg.mk (st "frame_type") none (Pos.mk 8 29 8 39), Arg.mk (st "text") none (Pos.mk 8 41 8 45)] none [] [] none []) (FuncBody.stmts [Stmt.Expr (Expr.Call (Expr.Attribute (Expr.Name (st "Exception") (Pos.mk 9 8 9 17)) (st "__init__") (Pos.mk 9 8 9 26)) [Expr.Name (st "self") (Pos.mk 9 27 9 31), Expr.BinOp (Expr.BinOp (Expr.Call (Expr.Name (st "str") (Pos.mk 9 33 9 36)) [Expr.Name (st "code") (Pos.mk 9 37 9 41)] [] (Pos.mk 9 33 9 42)) Operator.Add (Expr.Constant (Const.str (st ": ")) 0 (Pos.mk 9 45 9 49)) (Pos.mk 9 33 9 49)) Operator.Add (Expr.Name (st "text") (Pos.mk 9 52 9 56)) (Pos.mk 9 33 9 56)] [] (Pos.mk 9 8 9 57)) (Pos.mk 9 8 9 57), Stmt.Assign [Expr.Attribute (Expr.Name (st "self") (Pos.mk 10 8 10 12)) (st "code") (Pos.mk 10 8 10 17)] (Expr.Name (st "code") (Pos.mk 10 20 10 24)) (Pos.mk 10 8 10 24), Stmt.Assign [Expr.Attribute (Expr.Name (st "self") (Pos.mk 11 8 11 12)) (st "frame_type") (Pos.mk 11 8 11 23)] (Expr.Name (st "frame_type") (Pos.mk 11 26 11 36)) (Pos.mk 11 8 11 36), Stmt.Assign [Expr.Attribute (Expr.Name (st "self") (Pos.mk 12 8 12 12)) (st "text") (Pos.mk 12 8 12 17)] (Expr.Name (st "text") (Pos.mk 12 20 12 24)) (Pos.mk 12 8 12 24)]) (Scope.mk ScopeKind.function [(st "self", NameKind.local), (st "code", NameKind.local), (st "frame_type", NameKind.local), (st "text", NameKind.local), (st "Exception", NameKind.globalImplicit), (st "str", NameKind.globalImplicit)] false false []) 0 [] Value.none Value.none Value.none Value.none none Value.none Value.none 0)) #[]
noncomputable def x13 (P : Params) : Obj := Obj.mk (Value.type "super") none (Data.fields #[Value.ref 38, Value.ref 38, Value.ref 38]) #[]
noncomputable def x14 (P : Params) : Obj := Obj.mk (Value.type "builtin_function_or_method") none (Data.fields #[Value.builtin "object.__init_subclass__", Value.ref 38]) #[]
noncomputable def x15 (P : Params) : Obj := Obj.mk Value.none none (Data.func (FuncData.mk (st "add_span") (st "add_span") (Arguments.mk [] [Arg.mk (st "spans") none (Pos.mk 14 13 14 18), Arg.mk (st "low") none (Pos.mk 14 20 14 23), Arg.mk (st "high") none (Pos.mk 14 25 14 29)] none [] [] none []) (FuncBody.stmts [Stmt.If (Expr.Compare (Expr.Name (st "low") (Pos.mk 15 7 15 10)) [CmpOp.GtE] [Expr.Name (st "high") (Pos.mk 15 14 15 18)] (Pos.mk 15 7 15 18)) [Stmt.Return (some (Expr.Call (Expr.Name (st "list") (Pos.mk 16 15 16 19)) [Expr.Name (st "spans") (Pos.mk 16 20 16 25)] [] (Pos.mk 16 15 16 26))) (Pos.mk 16 8 16 26)] [] (Pos.mk 15 4 16 26), Stmt.Assign [Expr.Tuple [Expr.Name (st "found") (Pos.mk 17 4 17 9), Expr.Name (st "is_put") (Pos.mk 17 11 17 17)] 0 (Pos.mk 17 4 17 17)] (Expr.Tuple [Expr.List [] (Pos.mk 17 21 17 23), Expr.Constant (Const.bool false) 0 (Pos.mk 17 25 17 30)] 0 (Pos.mk 17 20 17 31)) (Pos.mk 17 4 17 31), Stmt.For (Expr.Tuple [Expr.Name (st "one") (Pos.mk 18 8 18 11), Expr.Name (st "other") (Pos.mk 18 13 18 18)] 0 (Pos.mk 18 8 18 18)) (Expr.Name (st "spans") (Pos.mk 18 22 18 27)) [Stmt.If (Expr.Compare (Expr.Name (st "other") (Pos.mk 19 11 19 16)) [CmpOp.Lt] [Expr.Name (st "low") (Pos.mk 19 19 19 22)] (Pos.mk 19 11 19 22)) [Stmt.Expr (Expr.Call (Expr.Attribute (Expr.Name (st "found") (Pos.mk 20 12 20 17)) (st "append") (Pos.mk 20 12 20 24)) [Expr.Tuple [Expr.Name (st "one") (Pos.mk 20 26 20 29), Expr.Name (st "other") (Pos.mk 20 31 20 36)] 0 (Pos.mk 20 25 20 37)] [] (Pos.mk 20 12 20 38)) (Pos.mk 20 12 20 38)] [Stmt.If (Expr.Compare (Expr.Name (st "high") (Pos.mk 21 13 21 17)) [CmpOp.Lt] [Expr.Name (st "one") (Pos.mk 21 20 21 23)] (Pos.mk 21 13 21 23)) [Stmt.If (Expr.UnaryOp UnaryOp.Not (Expr.Name (st "is_put") (Pos.mk 22 19 22 25)) (Pos.mk 22 15 22 25)) [Stmt.Expr (Expr.Call (Expr.Attribute (Expr.Name (st "found") (Pos.mk 23 16 23 21)) (st "append") (Pos.mk 23 16 23 28)) [Expr.Tuple [Expr.Name (st "low") (Pos.mk 23 30 23 33), Expr.Name (st "high") (Pos.mk 23 35 23 39)] 0 (Pos.mk 23 29 23 40)] [] (Pos.mk 23 16 23 41)) (Pos.mk 23 16 23 41), Stmt.Assign [Expr.Name (st "is_put") (Pos.mk 24 16 24 22)] (Expr.Constant (Const.bool true) 0 (Pos.mk 24 25 24 29)) (Pos.mk 24 16 24 29)] [] (Pos.mk 22 12 24 29), Stmt.Expr (Expr.Call (Expr.Attribute (Expr.Name (st "found") (Pos.mk 25 12 25 17)) (st "append") (Pos.mk 25 12 25 24)) [Expr.Tuple [Expr.Name (st "one") (Pos.mk 25 26 25 29), Expr.Name (st "other") (Pos.mk 25 31 25 36)] 0 (Pos.mk 25 25 25 37)] [] (Pos.mk 25 12 25 38)) (Pos.mk 25 12 25 38)] [Stmt.Assign [Expr.Tuple [Expr.Name (st "low") (Pos.mk 27 12 27 15), Expr.Name (st "high") (Pos.mk 27 17 27 21)] 0 (Pos.mk 27 12 27 21)] (Expr.Tuple [Expr.Call (Expr.Name (st "min") (Pos.mk 27 25 27 28)) [Expr.Name (st "low") (Pos.mk 27 29 27 32), Expr.Name (st "one") (Pos.mk 27 34 27 37)] [] (Pos.mk 27 25 27 38), Expr.Call (Expr.Name (st "max") (Pos.mk 27 40 27 43)) [Expr.Name (st "high") (Pos.mk 27 44 27 48), Expr.Name (st "other") (Pos.mk 27 50 27 55)] [] (Pos.mk 27 40 27 56)] 0 (Pos.mk 27 24 27 57)) (Pos.mk 27 12 27 57)] (Pos.mk 21 8 27 57)] (Pos.mk 19 8 27 57)] [] (Pos.mk 18 4 27 57), Stmt.Return (some (Expr.IfExp (Expr.Name (st "is_put") (Pos.mk 28 20 28 26)) (Expr.Name (st "found") (Pos.mk 28 11 28 16)) (Expr.BinOp (Expr.Name (st "found") (Pos.mk 28 32 28 37)) Operator.Add (Expr.List [Expr.Tuple [Expr.Name (st "low") (Pos.mk 28 42 28 45), Expr.Name (st "high") (Pos.mk 28 47 28 51)] 0 (Pos.mk 28 41 28 52)] (Pos.mk 28 40 28 53)) (Pos.mk 28 32 28 53)) (Pos.mk 28 11 28 53))) (Pos.mk 28 4 28 53)]) (Scope.mk ScopeKind.function [(st "spans", NameKind.local), (st "low", NameKind.local), (st "high", NameKind.local), (st "found", NameKind.local), (st "is_put", NameKind.local), (st "one", NameKind.local), (st "other", NameKind.local), (st "list", NameKind.globalImplicit), (st "min", NameKind.globalImplicit), (st "max", NameKind.globalImplicit)] false false []) 0 [] Value.none Value.none Value.none Value.none none Value.none Value.none 0)) #[]
noncomputable def x16 (P : Params) : Obj := Obj.mk Value.none none (Data.func (FuncData.mk (st "cut_span") (st "cut_span") (Arguments.mk [] [Arg.mk (st "spans") none (Pos.mk 29 13 29 18), Arg.mk (st "low") none (Pos.mk 29 20 29 23), Arg.mk (st "high") none (Pos.mk 29 25 29 29)] none [] [] none []) (FuncBody.stmts [Stmt.Assign [Expr.Name (st "found") (Pos.mk 30 4 30 9)] (Expr.List [] (Pos.mk 30 12 30 14)) (Pos.mk 30 4 30 14), Stmt.For (Expr.Tuple [Expr.Name (st "one") (Pos.mk 31 8 31 11), Expr.Name (st "other") (Pos.mk 31 13 31 18)] 0 (Pos.mk 31 8 31 18)) (Expr.Name (st "spans") (Pos.mk 31 22 31 27)) [Stmt.If (Expr.Compare (Expr.Name (st "one") (Pos.mk 32 11 32 14)) [CmpOp.Lt] [Expr.Call (Expr.Name (st "min") (Pos.mk 32 17 32 20)) [Expr.Name (st "other") (Pos.mk 32 21 32 26), Expr.Name (st "low") (Pos.mk 32 28 32 31)] [] (Pos.mk 32 17 32 32)] (Pos.mk 32 11 32 32)) [Stmt.Expr (Expr.Call (Expr.Attribute (Expr.Name (st "found") (Pos.mk 33 12 33 17)) (st "append") (Pos.mk 33 12 33 24)) [Expr.Tuple [Expr.Name (st "one") (Pos.mk 33 26 33 29), Expr.Call (Expr.Name (st "min") (Pos.mk 33 31 33 34)) [Expr.Name (st "other") (Pos.mk 33 35 33 40), Expr.Name (st "low") (Pos.mk 33 42 33 45)] [] (Pos.mk 33 31 33 46)] 0 (Pos.mk 33 25 33 47)] [] (Pos.mk 33 12 33 48)) (Pos.mk 33 12 33 48)] [] (Pos.mk 32 8 33 48), Stmt.If (Expr.Compare (Expr.Call (Expr.Name (st "max") (Pos.mk 34 11 34 14)) [Expr.Name (st "one") (Pos.mk 34 15 34 18), Expr.Name (st "high") (Pos.mk 34 20 34 24)] [] (Pos.mk 34 11 34 25)) [CmpOp.Lt] [Expr.Name (st "other") (Pos.mk 34 28 34 33)] (Pos.mk 34 11 34 33)) [Stmt.Expr (Expr.Call (Expr.Attribute (Expr.Name (st "found") (Pos.mk 35 12 35 17)) (st "append") (Pos.mk 35 12 35 24)) [Expr.Tuple [Expr.Call (Expr.Name (st "max") (Pos.mk 35 26 35 29)) [Expr.Name (st "one") (Pos.mk 35 30 35 33), Expr.Name (st "high") (Pos.mk 35 35 35 39)] [] (Pos.mk 35 26 35 40), Expr.Name (st "other") (Pos.mk 35 42 35 47)] 0 (Pos.mk 35 25 35 48)] [] (Pos.mk 35 12 35 49)) (Pos.mk 35 12 35 49)] [] (Pos.mk 34 8 35 49)] [] (Pos.mk 31 4 35 49), Stmt.Return (some (Expr.IfExp (Expr.Compare (Expr.Name (st "low") (Pos.mk 36 20 36 23)) [CmpOp.Lt] [Expr.Name (st "high") (Pos.mk 36 26 36 30)] (Pos.mk 36 20 36 30)) (Expr.Name (st "found") (Pos.mk 36 11 36 16)) (Expr.Call (Expr.Name (st "list") (Pos.mk 36 36 36 40)) [Expr.Name (st "spans") (Pos.mk 36 41 36 46)] [] (Pos.mk 36 36 36 47)) (Pos.mk 36 11 36 47))) (Pos.mk 36 4 36 47)]) (Scope.mk ScopeKind.function [(st "spans", NameKind.local), (st "low", NameKind.local), (st "high", NameKind.local), (st "found", NameKind.local), (st "one", NameKind.local), (st "other", NameKind.local), (st "min", NameKind.globalImplicit), (st "max", NameKind.globalImplicit), (st "list", NameKind.globalImplicit)] false false []) 0 [] Value.none Value.none Value.none Value.none none Value.none Value.none 0)) #[]
noncomputable def x17 (P : Params) : Obj := Obj.mk Value.none none (Data.func (FuncData.mk (st "has_span") (st "has_span") (Arguments.mk [] [Arg.mk (st "spans") none (Pos.mk 37 13 37 18), Arg.mk (st "low") none (Pos.mk 37 20 37 23), Arg.mk (st "high") none (Pos.mk 37 25 37 29)] none [] [] none []) (FuncBody.stmts [Stmt.If (Expr.Compare (Expr.Name (st "low") (Pos.mk 38 7 38 10)) [CmpOp.GtE] [Expr.Name (st "high") (Pos.mk 38 14 38 18)] (Pos.mk 38 7 38 18)) [Stmt.Return (some (Expr.Constant (Const.bool true) 0 (Pos.mk 39 15 39 19))) (Pos.mk 39 8 39 19)] [] (Pos.mk 38 4 39 19), Stmt.For (Expr.Tuple [Expr.Name (st "one") (Pos.mk 40 8 40 11), Expr.Name (st "other") (Pos.mk 40 13 40 18)] 0 (Pos.mk 40 8 40 18)) (Expr.Name (st "spans") (Pos.mk 40 22 40 27)) [Stmt.If (Expr.BoolOp BoolOp.And [Expr.Compare (Expr.Name (st "one") (Pos.mk 41 11 41 14)) [CmpOp.LtE] [Expr.Name (st "low") (Pos.mk 41 18 41 21)] (Pos.mk 41 11 41 21), Expr.Compare (Expr.Name (st "high") (Pos.mk 41 26 41 30)) [CmpOp.LtE] [Expr.Name (st "other") (Pos.mk 41 34 41 39)] (Pos.mk 41 26 41 39)] (Pos.mk 41 11 41 39)) [Stmt.Return (some (Expr.Constant (Const.bool true) 0 (Pos.mk 42 19 42 23))) (Pos.mk 42 12 42 23)] [] (Pos.mk 41 8 42 23)] [] (Pos.mk 40 4 42 23), Stmt.Return (some (Expr.Constant (Const.bool false) 0 (Pos.mk 43 11 43 16))) (Pos.mk 43 4 43 16)]) (Scope.mk ScopeKind.function [(st "spans", NameKind.local), (st "low", NameKind.local), (st "high", NameKind.local), (st "one", NameKind.local), (st "other", NameKind.local)] false false []) 0 [] Value.none Value.none Value.none Value.none none Value.none Value.none 0)) #[]
noncomputable def x18 (P : Params) : Obj := Obj.mk Value.none none (Data.func (FuncData.mk (st "first_span") (st "first_span") (Arguments.mk [] [Arg.mk (st "spans") none (Pos.mk 44 15 44 20), Arg.mk (st "most") none (Pos.mk 44 22 44 26)] none [] [] none []) (FuncBody.stmts [Stmt.If (Expr.BoolOp BoolOp.Or [Expr.Compare (Expr.Call (Expr.Name (st "len") (Pos.mk 45 7 45 10)) [Expr.Name (st "spans") (Pos.mk 45 11 45 16)] [] (Pos.mk 45 7 45 17)) [CmpOp.Eq] [Expr.Constant (Const.int 0) 0 (Pos.mk 45 21 45 22)] (Pos.mk 45 7 45 22), Expr.Compare (Expr.Name (st "most") (Pos.mk 45 26 45 30)) [CmpOp.LtE] [Expr.Constant (Const.int 0) 0 (Pos.mk 45 34 45 35)] (Pos.mk 45 26 45 35)] (Pos.mk 45 7 45 35)) [Stmt.Return (some (Expr.Constant Const.none 0 (Pos.mk 46 15 46 19))) (Pos.mk 46 8 46 19)] [] (Pos.mk 45 4 46 19), Stmt.Assign [Expr.Tuple [Expr.Name (st "low") (Pos.mk 47 4 47 7), Expr.Name (st "high") (Pos.mk 47 9 47 13)] 0 (Pos.mk 47 4 47 13)] (Expr.Subscript (Expr.Name (st "spans") (Pos.mk 47 16 47 21)) (Expr.Constant (Const.int 0) 0 (Pos.mk 47 22 47 23)) (Pos.mk 47 16 47 24)) (Pos.mk 47 4 47 24), Stmt.Return (some (Expr.Tuple [Expr.Name (st "low") (Pos.mk 48 12 48 15), Expr.Call (Expr.Name (st "min") (Pos.mk 48 17 48 20)) [Expr.Name (st "high") (Pos.mk 48 21 48 25), Expr.BinOp (Expr.Name (st "low") (Pos.mk 48 27 48 30)) Operator.Add (Expr.Name (st "most") (Pos.mk 48 33 48 37)) (Pos.mk 48 27 48 37)] [] (Pos.mk 48 17 48 38)] 0 (Pos.mk 48 11 48 39))) (Pos.mk 48 4 48 39)]) (Scope.mk ScopeKind.function [(st "spans", NameKind.local), (st "most", NameKind.local), (st "low", NameKind.local), (st "high", NameKind.local), (st "len", NameKind.globalImplicit), (st "min", NameKind.globalImplicit)] false false []) 0 [] Value.none Value.none Value.none Value.none none Value.none Value.none 0)) #[]
noncomputable def x19 (P : Params) : Obj := Obj.mk Value.none none (Data.func (FuncData.mk (st "without_spans") (st "without_spans") (Arguments.mk [] [Arg.mk (st "spans") none (Pos.mk 49 18 49 23), Arg.mk (st "others") none (Pos.mk 49 25 49 31)] none [] [] none []) (FuncBody.stmts [Stmt.Assign [Expr.Name (st "found") (Pos.mk 50 4 50 9)] (Expr.Call (Expr.Name (st "list") (Pos.mk 50 12 50 16)) [Expr.Name (st "spans") (Pos.mk 50 17 50 22)] [] (Pos.mk 50 12 50 23)) (Pos.mk 50 4 50 23), Stmt.For (Expr.Tuple [Expr.Name (st "low") (Pos.mk 51 8 51 11), Expr.Name (st "high") (Pos.mk 51 13 51 17)] 0 (Pos.mk 51 8 51 17)) (Expr.Name (st "others") (Pos.mk 51 21 51 27)) [Stmt.Assign [Expr.Name (st "found") (Pos.mk 52 8 52 13)] (Expr.Call (Expr.Name (st "cut_span") (Pos.mk 52 16 52 24)) [Expr.Name (st "found") (Pos.mk 52 25 52 30), Expr.Name (st "low") (Pos.mk 52 32 52 35), Expr.Name (st "high") (Pos.mk 52 37 52 41)] [] (Pos.mk 52 16 52 42)) (Pos.mk 52 8 52 42)] [] (Pos.mk 51 4 52 42), Stmt.Return (some (Expr.Name (st "found") (Pos.mk 53 11 53 16))) (Pos.mk 53 4 53 16)]) (Scope.mk ScopeKind.function [(st "spans", NameKind.local), (st "others", NameKind.local), (st "found", NameKind.local), (st "low", NameKind.local), (st "high", NameKind.local), (st "list", NameKind.globalImplicit), (st "cut_span", NameKind.globalImplicit)] false false []) 0 [] Value.none Value.none Value.none Value.none none Value.none Value.none 0)) #[]
noncomputable def x20 (P : Params) : Obj := Obj.mk (Value.type "dict") none (Data.dict #[DictEntry.mk (PyData.keyHash P (st "__name__")) (Value.str (st "__name__") 165) (Value.str (st "quic.sendpart") 290), DictEntry.mk (PyData.keyHash P (st "__doc__")) (Value.str (st "__doc__") 166) Value.none, DictEntry.mk (PyData.keyHash P (st "__package__")) (Value.str (st "__package__") 167) Value.none, DictEntry.mk (PyData.keyHash P (st "__loader__")) (Value.str (st "__loader__") 168) (Value.builtin "__main__.__loader__#opaque"), DictEntry.mk (PyData.keyHash P (st "__spec__")) (Value.str (st "__spec__") 169) Value.none, DictEntry.mk (PyData.keyHash P (st "__annotations__")) (Value.str (st "__annotations__") 170) (Value.ref 6), DictEntry.mk (PyData.keyHash P (st "__builtins__")) (Value.str (st "__builtins__") 171) (Value.ref 4), DictEntry.mk (PyData.keyHash P (st "__file__")) (Value.str (st "__file__") 173) (Value.str (st "/claim/cut.py") 172), DictEntry.mk (PyData.keyHash P (st "__cached__")) (Value.str (st "__cached__") 174) Value.none, DictEntry.mk (PyData.keyHash P (st "_wall")) (Value.str (st "_wall") 193) (Value.ref 21), DictEntry.mk (PyData.keyHash P (st "STREAM_STATE_ERROR")) (Value.str (st "STREAM_STATE_ERROR") 197) (Value.int 5 196), DictEntry.mk (PyData.keyHash P (st "QuicError")) (Value.str (st "QuicError") 230) (Value.ref 38), DictEntry.mk (PyData.keyHash P (st "add_span")) (Value.str (st "add_span") 245) (Value.ref 48), DictEntry.mk (PyData.keyHash P (st "cut_span")) (Value.str (st "cut_span") 257) (Value.ref 55), DictEntry.mk (PyData.keyHash P (st "has_span")) (Value.str (st "has_span") 268) (Value.ref 62), DictEntry.mk (PyData.keyHash P (st "first_span")) (Value.str (st "first_span") 278) (Value.ref 69), DictEntry.mk (PyData.keyHash P (st "without_spans")) (Value.str (st "without_spans") 289) (Value.ref 76), DictEntry.mk (PyData.keyHash P (st "READY")) (Value.str (st "READY") 293) (Value.str (st "ready") 292), DictEntry.mk (PyData.keyHash P (st "SENDING")) (Value.str (st "SENDING") 295) (Value.str (st "send") 294), DictEntry.mk (PyData.keyHash P (st "DATA_SENT")) (Value.str (st "DATA_SENT") 297) (Value.str (st "data_sent") 296), DictEntry.mk (PyData.keyHash P (st "DATA_RECEIVED")) (Value.str (st "DATA_RECEIVED") 299) (Value.str (st "data_recvd") 298), DictEntry.mk (PyData.keyHash P (st "RESET_RECEIVED")) (Value.str (st "RESET_RECEIVED") 301) (Value.str (st "reset_recvd") 300), DictEntry.mk (PyData.keyHash P (st "OPEN_STATES")) (Value.str (st "OPEN_STATES") 302) (Value.ref 77), DictEntry.mk (PyData.keyHash P (st "SendPart")) (Value.str (st "SendPart") 469) (Value.ref 199)] 24) #[]
noncomputable def x21 (P : Params) : Obj := Obj.mk Value.none none (Data.fields #[Value.int 1 0, Value.int 0 0, Value.ref 20, Value.int 6 0, Value.int 0 0, Value.ref 27, Value.int 14 0, Value.int 0 0, Value.ref 47, Value.int 29 0, Value.int 0 0, Value.ref 54, Value.int 37 0, Value.int 0 0, Value.ref 61, Value.int 44 0, Value.int 0 0, Value.ref 68, Value.int 49 0, Value.int 0 0, Value.ref 75, Value.int 61 0, Value.int 0 0, Value.ref 83]) #[]
noncomputable def x22 (P : Params) : Obj := Obj.mk (Value.type "dict") none (Data.dict #[DictEntry.mk (PyData.keyHash P (st "__module__")) (Value.str (st "__module__") 310) (Value.str (st "quic.sendpart") 290), DictEntry.mk (PyData.keyHash P (st "__qualname__")) (Value.str (st "__qualname__") 312) (Value.str (st "SendPart") 311), DictEntry.mk (PyData.keyHash P (st "__firstlineno__")) (Value.str (st "__firstlineno__") 314) (Value.int 61 313), DictEntry.mk (PyData.keyHash P (st "__init__")) (Value.str (st "__init__") 322) (Value.ref 91), DictEntry.mk (PyData.keyHash P (st "write")) (Value.str (st "write") 330) (Value.ref 98), DictEntry.mk (PyData.keyHash P (st "finish")) (Value.str (st "finish") 337) (Value.ref 105), DictEntry.mk (PyData.keyHash P (st "reset")) (Value.str (st "reset") 345) (Value.ref 112), DictEntry.mk (PyData.keyHash P (st "on_stop")) (Value.str (st "on_stop") 353) (Value.ref 119), DictEntry.mk (PyData.keyHash P (st "raise_limit")) (Value.str (st "raise_limit") 361) (Value.ref 126), DictEntry.mk (PyData.keyHash P (st "new_room")) (Value.str (st "new_room") 370) (Value.ref 133), DictEntry.mk (PyData.keyHash P (st "blocked_at")) (Value.str (st "blocked_at") 378) (Value.ref 140), DictEntry.mk (PyData.keyHash P (st "has_to_send")) (Value.str (st "has_to_send") 386) (Value.ref 147), DictEntry.mk (PyData.keyHash P (st "next_chunk")) (Value.str (st "next_chunk") 400) (Value.ref 154), DictEntry.mk (PyData.keyHash P (st "next_reset")) (Value.str (st "next_reset") 407) (Value.ref 161), DictEntry.mk (PyData.keyHash P (st "on_acked")) (Value.str (st "on_acked") 417) (Value.ref 168), DictEntry.mk (PyData.keyHash P (st "on_lost")) (Value.str (st "on_lost") 429) (Value.ref 175), DictEntry.mk (PyData.keyHash P (st "on_reset_acked")) (Value.str (st "on_reset_acked") 436) (Value.ref 182), DictEntry.mk (PyData.keyHash P (st "on_reset_lost")) (Value.str (st "on_reset_lost") 443) (Value.ref 189), DictEntry.mk (PyData.keyHash P (st "is_over")) (Value.str (st "is_over") 450) (Value.ref 196), DictEntry.mk (PyData.keyHash P (st "__static_attributes__")) (Value.str (st "__static_attributes__") 462) (Value.ref 197)] 20) #[]
noncomputable def x23 (P : Params) : Obj := Obj.mk Value.none none (Data.fields #[Value.int 63 0, Value.int 4 0, Value.ref 90, Value.int 76 0, Value.int 4 0, Value.ref 97, Value.int 81 0, Value.int 4 0, Value.ref 104, Value.int 88 0, Value.int 4 0, Value.ref 111, Value.int 91 0, Value.int 4 0, Value.ref 118, Value.int 94 0, Value.int 4 0, Value.ref 125, Value.int 97 0, Value.int 4 0, Value.ref 132, Value.int 103 0, Value.int 4 0, Value.ref 139, Value.int 107 0, Value.int 4 0, Value.ref 146, Value.int 112 0, Value.int 4 0, Value.ref 153, Value.int 130 0, Value.int 4 0, Value.ref 160, Value.int 133 0, Value.int 4 0, Value.ref 167, Value.int 142 0, Value.int 4 0, Value.ref 174, Value.int 150 0, Value.int 4 0, Value.ref 181, Value.int 153 0, Value.int 4 0, Value.ref 188, Value.int 156 0, Value.int 4 0, Value.ref 195]) #[]
noncomputable def x24 (P : Params) : Obj := Obj.mk (Value.type "code") none (Data.fields #[Value.str (st "SendPart") 305, Value.str (st "SendPart") 306, Value.str (st "/claim/cut.py") 307, Value.int 61 0, Value.int 0 0, Value.int 0 0, Value.int 0 0, Value.int 0 0, Value.ref 81, Value.bool false, Value.int 181 0, Value.ref 82, Value.none, Value.none, Value.none, Value.none, Value.int 308 0, Value.int 61 0, Value.str (st "/claim/cut.py") 309]) #[]
noncomputable def x25 (P : Params) : Obj := Obj.mk (Value.type "frame") none Data.plain #[some (Value.ref 83), some (Value.ref 3), some (Value.ref 80), none, some (Value.str (st "quic.sendpart") 290), none, some (Value.ref 0)]
noncomputable def x26 (P : Params) : Obj := Obj.mk Value.none none (Data.func (FuncData.mk (st "__init__") (st "SendPart.__init__") (Arguments.mk [] [Arg.mk (st "self") none (Pos.mk 63 17 63 21), Arg.mk (st "limit") none (Pos.mk 63 23 63 28)] none [] [] none []) (FuncBody.stmts [Stmt.Assign [Expr.Attribute (Expr.Name (st "self") (Pos.mk 64 8 64 12)) (st "limit") (Pos.mk 64 8 64 18)] (Expr.Name (st "limit") (Pos.mk 64 21 64 26)) (Pos.mk 64 8 64 26), Stmt.Assign [Expr.Attribute (Expr.Name (st "self") (Pos.mk 65 8 65 12)) (st "state") (Pos.mk 65 8 65 18)] (Expr.Name (st "READY") (Pos.mk 65 21 65 26)) (Pos.mk 65 8 65 26), Stmt.Assign [Expr.Attribute (Expr.Name (st "self") (Pos.mk 66 8 66 12)) (st "written") (Pos.mk 66 8 66 20)] (Expr.Constant (Const.bytes []) 0 (Pos.mk 66 23 66 26)) (Pos.mk 66 8 66 26), Stmt.Assign [Expr.Attribute (Expr.Name (st "self") (Pos.mk 67 8 67 12)) (st "sent_to") (Pos.mk 67 8 67 20)] (Expr.Constant (Const.int 0) 0 (Pos.mk 67 23 67 24)) (Pos.mk 67 8 67 24), Stmt.Assign [Expr.Attribute (Expr.Name (st "self") (Pos.mk 68 8 68 12)) (st "acked") (Pos.mk 68 8 68 18)] (Expr.List [] (Pos.mk 68 21 68 23)) (Pos.mk 68 8 68 23), Stmt.Assign [Expr.Attribute (Expr.Name (st "self") (Pos.mk 69 8 69 12)) (st "lost") (Pos.mk 69 8 69 17)] (Expr.List [] (Pos.mk 69 20 69 22)) (Pos.mk 69 8 69 22), Stmt.Assign [Expr.Attribute (Expr.Name (st "self") (Pos.mk 70 8 70 12)) (st "is_finished") (Pos.mk 70 8 70 24)] (Expr.Constant (Const.bool false) 0 (Pos.mk 70 27 70 32)) (Pos.mk 70 8 70 32), Stmt.Assign [Expr.Attribute (Expr.Name (st "self") (Pos.mk 71 8 71 12)) (st "owes_end") (Pos.mk 71 8 71 21)] (Expr.Constant (Const.bool false) 0 (Pos.mk 71 24 71 29)) (Pos.mk 71 8 71 29), Stmt.Assign [Expr.Attribute (Expr.Name (st "self") (Pos.mk 72 8 72 12)) (st "is_end_acked") (Pos.mk 72 8 72 25)] (Expr.Constant (Const.bool false) 0 (Pos.mk 72 28 72 33)) (Pos.mk 72 8 72 33), Stmt.Assign [Expr.Attribute (Expr.Name (st "self") (Pos.mk 73 8 73 12)) (st "reset_code") (Pos.mk 73 8 73 23)] (Expr.Constant Const.none 0 (Pos.mk 73 26 73 30)) (Pos.mk 73 8 73 30), Stmt.Assign [Expr.Attribute (Expr.Name (st "self") (Pos.mk 74 8 74 12)) (st "owes_reset") (Pos.mk 74 8 74 23)] (Expr.Constant (Const.bool false) 0 (Pos.mk 74 26 74 31)) (Pos.mk 74 8 74 31)]) (Scope.mk ScopeKind.function [(st "self", NameKind.local), (st "limit", NameKind.local), (st "READY", NameKind.globalImplicit)] false false []) 0 [] Value.none Value.none Value.none Value.none none Value.none Value.none 0)) #[]
noncomputable def x27 (P : Params) : Obj := Obj.mk Value.none none (Data.func (FuncData.mk (st "write") (st "SendPart.write") (Arguments.mk [] [Arg.mk (st "self") none (Pos.mk 76 14 76 18), Arg.mk (st "data") none (Pos.mk 76 20 76 24)] none [] [] none []) (FuncBody.stmts [Stmt.If (Expr.BoolOp BoolOp.Or [Expr.Compare (Expr.Attribute (Expr.Name (st "self") (Pos.mk 77 11 77 15)) (st "state") (Pos.mk 77 11 77 21)) [CmpOp.NotIn] [Expr.Name (st "OPEN_STATES") (Pos.mk 77 29 77 40)] (Pos.mk 77 11 77 40), Expr.Attribute (Expr.Name (st "self") (Pos.mk 77 44 77 48)) (st "is_finished") (Pos.mk 77 44 77 60)] (Pos.mk 77 11 77 60)) [Stmt.Raise (some (Expr.Call (Expr.Name (st "QuicError") (Pos.mk 78 18 78 27)) [Expr.Name (st "STREAM_STATE_ERROR") (Pos.mk 78 28 78 46), Expr.Constant Const.none 0 (Pos.mk 78 48 78 52), Expr.Constant (Const.str (st "no more can be written")) 0 (Pos.mk 78 54 78 78)] [] (Pos.mk 78 18 78 79))) none (Pos.mk 78 12 78 79)] [] (Pos.mk 77 8 78 79), Stmt.Assign [Expr.Attribute (Expr.Name (st "self") (Pos.mk 79 8 79 12)) (st "written") (Pos.mk 79 8 79 20)] (Expr.BinOp (Expr.Attribute (Expr.Name (st "self") (Pos.mk 79 23 79 27)) (st "written") (Pos.mk 79 23 79 35)) Operator.Add (Expr.Call (Expr.Name (st "bytes") (Pos.mk 79 38 79 43)) [Expr.Name (st "data") (Pos.mk 79 44 79 48)] [] (Pos.mk 79 38 79 49)) (Pos.mk 79 23 79 49)) (Pos.mk 79 8 79 49)]) (Scope.mk ScopeKind.function [(st "self", NameKind.local), (st "data", NameKind.local), (st "OPEN_STATES", NameKind.globalImplicit), (st "QuicError", NameKind.globalImplicit), (st "STREAM_STATE_ERROR", NameKind.globalImplicit), (st "bytes", NameKind.globalImplicit)] false false []) 0 [] Value.none Value.none Value.none Value.none none Value.none Value.none 0)) #[]
noncomputable def x28 (P : Params) : Obj := Obj.mk Value.none none (Data.func (FuncData.mk (st "finish") (st "SendPart.finish") (Arguments.mk [] [Arg.mk (st "self") none (Pos.mk 81 15 81 19)] none [] [] none []) (FuncBody.stmts [Stmt.If (Expr.Compare (Expr.Attribute (Expr.Name (st "self") (Pos.mk 82 11 82 15)) (st "state") (Pos.mk 82 11 82 21)) [CmpOp.NotIn] [Expr.Name (st "OPEN_STATES") (Pos.mk 82 29 82 40)] (Pos.mk 82 11 82 40)) [Stmt.Raise (some (Expr.Call (Expr.Name (st "QuicError") (Pos.mk 83 18 83 27)) [Expr.Name (st "STREAM_STATE_ERROR") (Pos.mk 83 28 83 46), Expr.Constant Const.none 0 (Pos.mk 83 48 83 52), Expr.Constant (Const.str (st "no end can be written")) 0 (Pos.mk 83 54 83 77)] [] (Pos.mk 83 18 83 78))) none (Pos.mk 83 12 83 78)] [] (Pos.mk 82 8 83 78), Stmt.If (Expr.UnaryOp UnaryOp.Not (Expr.Attribute (Expr.Name (st "self") (Pos.mk 84 15 84 19)) (st "is_finished") (Pos.mk 84 15 84 31)) (Pos.mk 84 11 84 31)) [Stmt.Assign [Expr.Attribute (Expr.Name (st "self") (Pos.mk 85 12 85 16)) (st "is_finished") (Pos.mk 85 12 85 28)] (Expr.Constant (Const.bool true) 0 (Pos.mk 85 31 85 35)) (Pos.mk 85 12 85 35), Stmt.Assign [Expr.Attribute (Expr.Name (st "self") (Pos.mk 86 12 86 16)) (st "owes_end") (Pos.mk 86 12 86 25)] (Expr.Constant (Const.bool true) 0 (Pos.mk 86 28 86 32)) (Pos.mk 86 12 86 32)] [] (Pos.mk 84 8 86 32)]) (Scope.mk ScopeKind.function [(st "self", NameKind.local), (st "OPEN_STATES", NameKind.globalImplicit), (st "QuicError", NameKind.globalImplicit), (st "STREAM_STATE_ERROR", NameKind.globalImplicit)] false false []) 0 [] Value.none Value.none Value.none Value.none none Value.none Value.none 0)) #[]
noncomputable def x29 (P : Params) : Obj := Obj.mk Value.none none (Data.func (FuncData.mk (st "reset") (st "SendPart.reset") (Arguments.mk [] [Arg.mk (st "self") none (Pos.mk 88 14 88 18), Arg.mk (st "code") none (Pos.mk 88 20 88 24)] none [] [] none []) (FuncBody.stmts [Stmt.Expr (Expr.Call (Expr.Name (st "_wall") (Pos.mk 89 8 89 13)) [Expr.Constant (Const.int 0) 0 (Pos.mk 89 14 89 15)] [] (Pos.mk 89 8 89 16)) (Pos.mk 89 8 89 16)]) (Scope.mk ScopeKind.function [(st "self", NameKind.local), (st "code", NameKind.local), (st "_wall", NameKind.globalImplicit)] false false []) 0 [] Value.none Value.none Value.none Value.none none Value.none Value.none 0)) #[]
noncomputable def x30 (P : Params) : Obj := Obj.mk Value.none none (Data.func (FuncData.mk (st "on_stop") (st "SendPart.on_stop") (Arguments.mk [] [Arg.mk (st "self") none (Pos.mk 91 16 91 20), Arg.mk (st "code") none (Pos.mk 91 22 91 26)] none [] [] none []) (FuncBody.stmts [Stmt.Expr (Expr.Call (Expr.Name (st "_wall") (Pos.mk 92 8 92 13)) [Expr.Constant (Const.int 1) 0 (Pos.mk 92 14 92 15)] [] (Pos.mk 92 8 92 16)) (Pos.mk 92 8 92 16)]) (Scope.mk ScopeKind.function [(st "self", NameKind.local), (st "code", NameKind.local), (st "_wall", NameKind.globalImplicit)] false false []) 0 [] Value.none Value.none Value.none Value.none none Value.none Value.none 0)) #[]
noncomputable def x31 (P : Params) : Obj := Obj.mk Value.none none (Data.func (FuncData.mk (st "raise_limit") (st "SendPart.raise_limit") (Arguments.mk [] [Arg.mk (st "self") none (Pos.mk 94 20 94 24), Arg.mk (st "limit") none (Pos.mk 94 26 94 31)] none [] [] none []) (FuncBody.stmts [Stmt.Assign [Expr.Attribute (Expr.Name (st "self") (Pos.mk 95 8 95 12)) (st "limit") (Pos.mk 95 8 95 18)] (Expr.Call (Expr.Name (st "max") (Pos.mk 95 21 95 24)) [Expr.Attribute (Expr.Name (st "self") (Pos.mk 95 25 95 29)) (st "limit") (Pos.mk 95 25 95 35), Expr.Name (st "limit") (Pos.mk 95 37 95 42)] [] (Pos.mk 95 21 95 43)) (Pos.mk 95 8 95 43)]) (Scope.mk ScopeKind.function [(st "self", NameKind.local), (st "limit", NameKind.local), (st "max", NameKind.globalImplicit)] false false []) 0 [] Value.none Value.none Value.none Value.none none Value.none Value.none 0)) #[]
noncomputable def x32 (P : Params) : Obj := Obj.mk Value.none none (Data.func (FuncData.mk (st "new_room") (st "SendPart.new_room") (Arguments.mk [] [Arg.mk (st "self") none (Pos.mk 97 17 97 21), Arg.mk (st "most_new") none (Pos.mk 97 23 97 31)] none [] [] none []) (FuncBody.stmts [Stmt.If (Expr.Compare (Expr.Attribute (Expr.Name (st "self") (Pos.mk 98 11 98 15)) (st "state") (Pos.mk 98 11 98 21)) [CmpOp.NotIn] [Expr.Name (st "OPEN_STATES") (Pos.mk 98 29 98 40)] (Pos.mk 98 11 98 40)) [Stmt.Return (some (Expr.Constant (Const.int 0) 0 (Pos.mk 99 19 99 20))) (Pos.mk 99 12 99 20)] [] (Pos.mk 98 8 99 20), Stmt.Assign [Expr.Name (st "room") (Pos.mk 100 8 100 12)] (Expr.BinOp (Expr.Call (Expr.Name (st "min") (Pos.mk 100 15 100 18)) [Expr.Call (Expr.Name (st "len") (Pos.mk 100 19 100 22)) [Expr.Attribute (Expr.Name (st "self") (Pos.mk 100 23 100 27)) (st "written") (Pos.mk 100 23 100 35)] [] (Pos.mk 100 19 100 36), Expr.Attribute (Expr.Name (st "self") (Pos.mk 100 38 100 42)) (st "limit") (Pos.mk 100 38 100 48)] [] (Pos.mk 100 15 100 49)) Operator.Sub (Expr.Attribute (Expr.Name (st "self") (Pos.mk 100 52 100 56)) (st "sent_to") (Pos.mk 100 52 100 64)) (Pos.mk 100 15 100 64)) (Pos.mk 100 8 100 64), Stmt.Return (some (Expr.Call (Expr.Name (st "max") (Pos.mk 101 15 101 18)) [Expr.Constant (Const.int 0) 0 (Pos.mk 101 19 101 20), Expr.IfExp (Expr.Compare (Expr.Name (st "most_new") (Pos.mk 101 30 101 38)) [CmpOp.Is] [Expr.Constant Const.none 0 (Pos.mk 101 42 101 46)] (Pos.mk 101 30 101 46)) (Expr.Name (st "room") (Pos.mk 101 22 101 26)) (Expr.Call (Expr.Name (st "min") (Pos.mk 101 52 101 55)) [Expr.Name (st "room") (Pos.mk 101 56 101 60), Expr.Name (st "most_new") (Pos.mk 101 62 101 70)] [] (Pos.mk 101 52 101 71)) (Pos.mk 101 22 101 71)] [] (Pos.mk 101 15 101 72))) (Pos.mk 101 8 101 72)]) (Scope.mk ScopeKind.function [(st "self", NameKind.local), (st "most_new", NameKind.local), (st "room", NameKind.local), (st "OPEN_STATES", NameKind.globalImplicit), (st "min", NameKind.globalImplicit), (st "len", NameKind.globalImplicit), (st "max", NameKind.globalImplicit)] false false []) 0 [] Value.none Value.none Value.none Value.none none Value.none Value.none 0)) #[]
noncomputable def x33 (P : Params) : Obj := Obj.mk Value.none none (Data.func (FuncData.mk (st "blocked_at") (st "SendPart.blocked_at") (Arguments.mk [] [Arg.mk (st "self") none (Pos.mk 103 19 103 23)] none [] [] none []) (FuncBody.stmts [Stmt.Assign [Expr.Name (st "is_blocked") (Pos.mk 104 8 104 18)] (Expr.BoolOp BoolOp.And [Expr.Compare (Expr.Attribute (Expr.Name (st "self") (Pos.mk 104 21 104 25)) (st "state") (Pos.mk 104 21 104 31)) [CmpOp.In] [Expr.Name (st "OPEN_STATES") (Pos.mk 104 35 104 46)] (Pos.mk 104 21 104 46), Expr.Compare (Expr.Attribute (Expr.Name (st "self") (Pos.mk 104 51 104 55)) (st "sent_to") (Pos.mk 104 51 104 63)) [CmpOp.GtE] [Expr.Attribute (Expr.Name (st "self") (Pos.mk 104 67 104 71)) (st "limit") (Pos.mk 104 67 104 77)] (Pos.mk 104 51 104 77), Expr.Compare (Expr.Call (Expr.Name (st "len") (Pos.mk 104 83 104 86)) [Expr.Attribute (Expr.Name (st "self") (Pos.mk 104 87 104 91)) (st "written") (Pos.mk 104 87 104 99)] [] (Pos.mk 104 83 104 100)) [CmpOp.Gt] [Expr.Attribute (Expr.Name (st "self") (Pos.mk 104 103 104 107)) (st "sent_to") (Pos.mk 104 103 104 115)] (Pos.mk 104 83 104 115)] (Pos.mk 104 21 104 116)) (Pos.mk 104 8 104 116), Stmt.Return (some (Expr.IfExp (Expr.Name (st "is_blocked") (Pos.mk 105 29 105 39)) (Expr.Attribute (Expr.Name (st "self") (Pos.mk 105 15 105 19)) (st "limit") (Pos.mk 105 15 105 25)) (Expr.Constant Const.none 0 (Pos.mk 105 45 105 49)) (Pos.mk 105 15 105 49))) (Pos.mk 105 8 105 49)]) (Scope.mk ScopeKind.function [(st "self", NameKind.local), (st "is_blocked", NameKind.local), (st "OPEN_STATES", NameKind.globalImplicit), (st "len", NameKind.globalImplicit)] false false []) 0 [] Value.none Value.none Value.none Value.none none Value.none Value.none 0)) #[]
noncomputable def x34 (P : Params) : Obj := Obj.mk Value.none none (Data.func (FuncData.mk (st "has_to_send") (st "SendPart.has_to_send") (Arguments.mk [] [Arg.mk (st "self") none (Pos.mk 107 20 107 24), Arg.mk (st "most_new") none (Pos.mk 107 26 107 34)] none [] [] none []) (FuncBody.stmts [Stmt.If (Expr.BoolOp BoolOp.Or [Expr.Attribute (Expr.Name (st "self") (Pos.mk 108 11 108 15)) (st "owes_reset") (Pos.mk 108 11 108 26), Expr.Compare (Expr.Call (Expr.Name (st "len") (Pos.mk 108 30 108 33)) [Expr.Attribute (Expr.Name (st "self") (Pos.mk 108 34 108 38)) (st "lost") (Pos.mk 108 34 108 43)] [] (Pos.mk 108 30 108 44)) [CmpOp.Gt] [Expr.Constant (Const.int 0) 0 (Pos.mk 108 47 108 48)] (Pos.mk 108 30 108 48), Expr.Compare (Expr.Call (Expr.Attribute (Expr.Name (st "self") (Pos.mk 108 52 108 56)) (st "new_room") (Pos.mk 108 52 108 65)) [Expr.Name (st "most_new") (Pos.mk 108 66 108 74)] [] (Pos.mk 108 52 108 75)) [CmpOp.Gt] [Expr.Constant (Const.int 0) 0 (Pos.mk 108 78 108 79)] (Pos.mk 108 52 108 79)] (Pos.mk 108 11 108 79)) [Stmt.Return (some (Expr.Constant (Const.bool true) 0 (Pos.mk 109 19 109 23))) (Pos.mk 109 12 109 23)] [] (Pos.mk 108 8 109 23), Stmt.Return (some (Expr.BoolOp BoolOp.And [Expr.Attribute (Expr.Name (st "self") (Pos.mk 110 15 110 19)) (st "owes_end") (Pos.mk 110 15 110 28), Expr.Compare (Expr.Attribute (Expr.Name (st "self") (Pos.mk 110 33 110 37)) (st "sent_to") (Pos.mk 110 33 110 45)) [CmpOp.Eq] [Expr.Call (Expr.Name (st "len") (Pos.mk 110 49 110 52)) [Expr.Attribute (Expr.Name (st "self") (Pos.mk 110 53 110 57)) (st "written") (Pos.mk 110 53 110 65)] [] (Pos.mk 110 49 110 66)] (Pos.mk 110 33 110 66)] (Pos.mk 110 15 110 66))) (Pos.mk 110 8 110 66)]) (Scope.mk ScopeKind.function [(st "self", NameKind.local), (st "most_new", NameKind.local), (st "len", NameKind.globalImplicit)] false false []) 0 [] Value.none Value.none Value.none Value.none none Value.none Value.none 0)) #[]
noncomputable def x35 (P : Params) : Obj := Obj.mk Value.none none (Data.func (FuncData.mk (st "next_chunk") (st "SendPart.next_chunk") (Arguments.mk [] [Arg.mk (st "self") none (Pos.mk 112 19 112 23), Arg.mk (st "most") none (Pos.mk 112 25 112 29), Arg.mk (st "most_new") none (Pos.mk 112 31 112 39)] none [] [] none []) (FuncBody.stmts [Stmt.If (Expr.BoolOp BoolOp.And [Expr.Compare (Expr.Attribute (Expr.Name (st "self") (Pos.mk 113 11 113 15)) (st "state") (Pos.mk 113 11 113 21)) [CmpOp.NotIn] [Expr.Name (st "OPEN_STATES") (Pos.mk 113 29 113 40)] (Pos.mk 113 11 113 40), Expr.Compare (Expr.Attribute (Expr.Name (st "self") (Pos.mk 113 45 113 49)) (st "state") (Pos.mk 113 45 113 55)) [CmpOp.NotEq] [Expr.Name (st "DATA_SENT") (Pos.mk 113 59 113 68)] (Pos.mk 113 45 113 68)] (Pos.mk 113 11 113 68)) [Stmt.Return (some (Expr.Constant Const.none 0 (Pos.mk 114 19 114 23))) (Pos.mk 114 12 114 23)] [] (Pos.mk 113 8 114 23), Stmt.Assign [Expr.Name (st "span") (Pos.mk 115 8 115 12)] (Expr.Call (Expr.Name (st "first_span") (Pos.mk 115 15 115 25)) [Expr.Attribute (Expr.Name (st "self") (Pos.mk 115 26 115 30)) (st "lost") (Pos.mk 115 26 115 35), Expr.Name (st "most") (Pos.mk 115 37 115 41)] [] (Pos.mk 115 15 115 42)) (Pos.mk 115 8 115 42), Stmt.If (Expr.Compare (Expr.Name (st "span") (Pos.mk 116 11 116 15)) [CmpOp.Is] [Expr.Constant Const.none 0 (Pos.mk 116 19 116 23)] (Pos.mk 116 11 116 23)) [Stmt.Assign [Expr.Name (st "room") (Pos.mk 117 12 117 16)] (Expr.Call (Expr.Name (st "min") (Pos.mk 117 19 117 22)) [Expr.Name (st "most") (Pos.mk 117 23 117 27), Expr.Call (Expr.Attribute (Expr.Name (st "self") (Pos.mk 117 29 117 33)) (st "new_room") (Pos.mk 117 29 117 42)) [Expr.Name (st "most_new") (Pos.mk 117 43 117 51)] [] (Pos.mk 117 29 117 52)] [] (Pos.mk 117 19 117 53)) (Pos.mk 117 12 117 53), Stmt.Assign [Expr.Name (st "span") (Pos.mk 118 12 118 16)] (Expr.Tuple [Expr.Attribute (Expr.Name (st "self") (Pos.mk 118 20 118 24)) (st "sent_to") (Pos.mk 118 20 118 32), Expr.BinOp (Expr.Attribute (Expr.Name (st "self") (Pos.mk 118 34 118 38)) (st "sent_to") (Pos.mk 118 34 118 46)) Operator.Add (Expr.Call (Expr.Name (st "max") (Pos.mk 118 49 118 52)) [Expr.Constant (Const.int 0) 0 (Pos.mk 118 53 118 54), Expr.Name (st "room") (Pos.mk 118 56 118 60)] [] (Pos.mk 118 49 118 61)) (Pos.mk 118 34 118 61)] 0 (Pos.mk 118 19 118 62)) (Pos.mk 118 12 118 62)] [] (Pos.mk 116 8 118 62), Stmt.Assign [Expr.Tuple [Expr.Name (st "low") (Pos.mk 119 8 119 11), Expr.Name (st "high") (Pos.mk 119 13 119 17)] 0 (Pos.mk 119 8 119 17)] (Expr.Name (st "span") (Pos.mk 119 20 119 24)) (Pos.mk 119 8 119 24), Stmt.Assign [Expr.Name (st "is_end") (Pos.mk 120 8 120 14)] (Expr.BoolOp BoolOp.And [Expr.Attribute (Expr.Name (st "self") (Pos.mk 120 17 120 21)) (st "is_finished") (Pos.mk 120 17 120 33), Expr.Compare (Expr.Name (st "high") (Pos.mk 120 38 120 42)) [CmpOp.Eq] [Expr.Call (Expr.Name (st "len") (Pos.mk 120 46 120 49)) [Expr.Attribute (Expr.Name (st "self") (Pos.mk 120 50 120 54)) (st "written") (Pos.mk 120 50 120 62)] [] (Pos.mk 120 46 120 63)] (Pos.mk 120 38 120 63), Expr.BoolOp BoolOp.Or [Expr.Attribute (Expr.Name (st "self") (Pos.mk 120 69 120 73)) (st "owes_end") (Pos.mk 120 69 120 82), Expr.Compare (Expr.Name (st "low") (Pos.mk 120 86 120 89)) [CmpOp.Lt] [Expr.Name (st "high") (Pos.mk 120 92 120 96)] (Pos.mk 120 86 120 96)] (Pos.mk 120 69 120 96)] (Pos.mk 120 17 120 97)) (Pos.mk 120 8 120 97), Stmt.If (Expr.BoolOp BoolOp.And [Expr.Compare (Expr.Name (st "low") (Pos.mk 121 11 121 14)) [CmpOp.Eq] [Expr.Name (st "high") (Pos.mk 121 18 121 22)] (Pos.mk 121 11 121 22), Expr.UnaryOp UnaryOp.Not (Expr.Name (st "is_end") (Pos.mk 121 32 121 38)) (Pos.mk 121 28 121 38)] (Pos.mk 121 11 121 39)) [Stmt.Return (some (Expr.Constant Const.none 0 (Pos.mk 122 19 122 23))) (Pos.mk 122 12 122 23)] [] (Pos.mk 121 8 122 23), Stmt.Assign [Expr.Attribute (Expr.Name (st "self") (Pos.mk 123 8 123 12)) (st "lost") (Pos.mk 123 8 123 17)] (Expr.Call (Expr.Name (st "cut_span") (Pos.mk 123 20 123 28)) [Expr.Attribute (Expr.Name (st "self") (Pos.mk 123 29 123 33)) (st "lost") (Pos.mk 123 29 123 38), Expr.Name (st "low") (Pos.mk 123 40 123 43), Expr.Name (st "high") (Pos.mk 123 45 123 49)] [] (Pos.mk 123 20 123 50)) (Pos.mk 123 8 123 50), Stmt.Assign [Expr.Attribute (Expr.Name (st "self") (Pos.mk 124 8 124 12)) (st "sent_to") (Pos.mk 124 8 124 20)] (Expr.Call (Expr.Name (st "max") (Pos.mk 124 23 124 26)) [Expr.Attribute (Expr.Name (st "self") (Pos.mk 124 27 124 31)) (st "sent_to") (Pos.mk 124 27 124 39), Expr.Name (st "high") (Pos.mk 124 41 124 45)] [] (Pos.mk 124 23 124 46)) (Pos.mk 124 8 124 46), Stmt.If (Expr.Name (st "is_end") (Pos.mk 125 11 125 17)) [Stmt.Assign [Expr.Attribute (Expr.Name (st "self") (Pos.mk 126 12 126 16)) (st "owes_end") (Pos.mk 126 12 126 25)] (Expr.Constant (Const.bool false) 0 (Pos.mk 126 28 126 33)) (Pos.mk 126 12 126 33)] [] (Pos.mk 125 8 126 33), Stmt.Assign [Expr.Attribute (Expr.Name (st "self") (Pos.mk 127 8 127 12)) (st "state") (Pos.mk 127 8 127 18)] (Expr.IfExp (Expr.BoolOp BoolOp.Or [Expr.Name (st "is_end") (Pos.mk 127 34 127 40), Expr.Compare (Expr.Attribute (Expr.Name (st "self") (Pos.mk 127 44 127 48)) (st "state") (Pos.mk 127 44 127 54)) [CmpOp.Eq] [Expr.Name (st "DATA_SENT") (Pos.mk 127 58 127 67)] (Pos.mk 127 44 127 67)] (Pos.mk 127 34 127 67)) (Expr.Name (st "DATA_SENT") (Pos.mk 127 21 127 30)) (Expr.Name (st "SENDING") (Pos.mk 127 73 127 80)) (Pos.mk 127 21 127 80)) (Pos.mk 127 8 127 80), Stmt.Return (some (Expr.Tuple [Expr.Name (st "low") (Pos.mk 128 16 128 19), Expr.Subscript (Expr.Attribute (Expr.Name (st "self") (Pos.mk 128 21 128 25)) (st "written") (Pos.mk 128 21 128 33)) (Expr.Slice (some (Expr.Name (st "low") (Pos.mk 128 34 128 37))) (some (Expr.Name (st "high") (Pos.mk 128 38 128 42))) none (Pos.mk 128 34 128 42)) (Pos.mk 128 21 128 43), Expr.Name (st "is_end") (Pos.mk 128 45 128 51)] 0 (Pos.mk 128 15 128 52))) (Pos.mk 128 8 128 52)]) (Scope.mk ScopeKind.function [(st "self", NameKind.local), (st "most", NameKind.local), (st "most_new", NameKind.local), (st "span", NameKind.local), (st "room", NameKind.local), (st "low", NameKind.local), (st "high", NameKind.local), (st "is_end", NameKind.local), (st "OPEN_STATES", NameKind.globalImplicit), (st "DATA_SENT", NameKind.globalImplicit), (st "first_span", NameKind.globalImplicit), (st "min", NameKind.globalImplicit), (st "max", NameKind.globalImplicit), (st "len", NameKind.globalImplicit), (st "cut_span", NameKind.globalImplicit), (st "SENDING", NameKind.globalImplicit)] false false []) 0 [] Value.none Value.none Value.none Value.none none Value.none Value.none 0)) #[]
noncomputable def x36 (P : Params) : Obj := Obj.mk Value.none none (Data.func (FuncData.mk (st "next_reset") (st "SendPart.next_reset") (Arguments.mk [] [Arg.mk (st "self") none (Pos.mk 130 19 130 23)] none [] [] none []) (FuncBody.stmts [Stmt.Expr (Expr.Call (Expr.Name (st "_wall") (Pos.mk 131 8 131 13)) [Expr.Constant (Const.int 2) 0 (Pos.mk 131 14 131 15)] [] (Pos.mk 131 8 131 16)) (Pos.mk 131 8 131 16)]) (Scope.mk ScopeKind.function [(st "self", NameKind.local), (st "_wall", NameKind.globalImplicit)] false false []) 0 [] Value.none Value.none Value.none Value.none none Value.none Value.none 0)) #[]
noncomputable def x37 (P : Params) : Obj := Obj.mk Value.none none (Data.func (FuncData.mk (st "on_acked") (st "SendPart.on_acked") (Arguments.mk [] [Arg.mk (st "self") none (Pos.mk 133 17 133 21), Arg.mk (st "offset") none (Pos.mk 133 23 133 29), Arg.mk (st "size") none (Pos.mk 133 31 133 35), Arg.mk (st "is_end") none (Pos.mk 133 37 133 43)] none [] [] none []) (FuncBody.stmts [Stmt.Assign [Expr.Attribute (Expr.Name (st "self") (Pos.mk 134 8 134 12)) (st "acked") (Pos.mk 134 8 134 18)] (Expr.Call (Expr.Name (st "add_span") (Pos.mk 134 21 134 29)) [Expr.Attribute (Expr.Name (st "self") (Pos.mk 134 30 134 34)) (st "acked") (Pos.mk 134 30 134 40), Expr.Name (st "offset") (Pos.mk 134 42 134 48), Expr.BinOp (Expr.Name (st "offset") (Pos.mk 134 50 134 56)) Operator.Add (Expr.Name (st "size") (Pos.mk 134 59 134 63)) (Pos.mk 134 50 134 63)] [] (Pos.mk 134 21 134 64)) (Pos.mk 134 8 134 64), Stmt.Assign [Expr.Attribute (Expr.Name (st "self") (Pos.mk 135 8 135 12)) (st "lost") (Pos.mk 135 8 135 17)] (Expr.Call (Expr.Name (st "cut_span") (Pos.mk 135 20 135 28)) [Expr.Attribute (Expr.Name (st "self") (Pos.mk 135 29 135 33)) (st "lost") (Pos.mk 135 29 135 38), Expr.Name (st "offset") (Pos.mk 135 40 135 46), Expr.BinOp (Expr.Name (st "offset") (Pos.mk 135 48 135 54)) Operator.Add (Expr.Name (st "size") (Pos.mk 135 57 135 61)) (Pos.mk 135 48 135 61)] [] (Pos.mk 135 20 135 62)) (Pos.mk 135 8 135 62), Stmt.If (Expr.Name (st "is_end") (Pos.mk 136 11 136 17)) [Stmt.Assign [Expr.Attribute (Expr.Name (st "self") (Pos.mk 137 12 137 16)) (st "is_end_acked") (Pos.mk 137 12 137 29)] (Expr.Constant (Const.bool true) 0 (Pos.mk 137 32 137 36)) (Pos.mk 137 12 137 36), Stmt.Assign [Expr.Attribute (Expr.Name (st "self") (Pos.mk 138 12 138 16)) (st "owes_end") (Pos.mk 138 12 138 25)] (Expr.Constant (Const.bool false) 0 (Pos.mk 138 28 138 33)) (Pos.mk 138 12 138 33)] [] (Pos.mk 136 8 138 33), Stmt.If (Expr.BoolOp BoolOp.And [Expr.Compare (Expr.Attribute (Expr.Name (st "self") (Pos.mk 139 11 139 15)) (st "state") (Pos.mk 139 11 139 21)) [CmpOp.Eq] [Expr.Name (st "DATA_SENT") (Pos.mk 139 25 139 34)] (Pos.mk 139 11 139 34), Expr.Attribute (Expr.Name (st "self") (Pos.mk 139 39 139 43)) (st "is_end_acked") (Pos.mk 139 39 139 56), Expr.Call (Expr.Name (st "has_span") (Pos.mk 139 61 139 69)) [Expr.Attribute (Expr.Name (st "self") (Pos.mk 139 70 139 74)) (st "acked") (Pos.mk 139 70 139 80), Expr.Constant (Const.int 0) 0 (Pos.mk 139 82 139 83), Expr.Call (Expr.Name (st "len") (Pos.mk 139 85 139 88)) [Expr.Attribute (Expr.Name (st "self") (Pos.mk 139 89 139 93)) (st "written") (Pos.mk 139 89 139 101)] [] (Pos.mk 139 85 139 102)] [] (Pos.mk 139 61 139 103)] (Pos.mk 139 11 139 103)) [Stmt.Assign [Expr.Attribute (Expr.Name (st "self") (Pos.mk 140 12 140 16)) (st "state") (Pos.mk 140 12 140 22)] (Expr.Name (st "DATA_RECEIVED") (Pos.mk 140 25 140 38)) (Pos.mk 140 12 140 38)] [] (Pos.mk 139 8 140 38)]) (Scope.mk ScopeKind.function [(st "self", NameKind.local), (st "offset", NameKind.local), (st "size", NameKind.local), (st "is_end", NameKind.local), (st "add_span", NameKind.globalImplicit), (st "cut_span", NameKind.globalImplicit), (st "DATA_SENT", NameKind.globalImplicit), (st "has_span", NameKind.globalImplicit), (st "len", NameKind.globalImplicit), (st "DATA_RECEIVED", NameKind.globalImplicit)] false false []) 0 [] Value.none Value.none Value.none Value.none none Value.none Value.none 0)) #[]
noncomputable def x38 (P : Params) : Obj := Obj.mk Value.none none (Data.func (FuncData.mk (st "on_lost") (st "SendPart.on_lost") (Arguments.mk [] [Arg.mk (st "self") none (Pos.mk 142 16 142 20), Arg.mk (st "offset") none (Pos.mk 142 22 142 28), Arg.mk (st "size") none (Pos.mk 142 30 142 34), Arg.mk (st "is_end") none (Pos.mk 142 36 142 42)] none [] [] none []) (FuncBody.stmts [Stmt.If (Expr.Compare (Expr.Attribute (Expr.Name (st "self") (Pos.mk 143 11 143 15)) (st "state") (Pos.mk 143 11 143 21)) [CmpOp.NotIn] [Expr.Tuple [Expr.Name (st "SENDING") (Pos.mk 143 30 143 37), Expr.Name (st "DATA_SENT") (Pos.mk 143 39 143 48)] 0 (Pos.mk 143 29 143 49)] (Pos.mk 143 11 143 49)) [Stmt.Return none (Pos.mk 144 12 144 18)] [] (Pos.mk 143 8 144 18), Stmt.For (Expr.Tuple [Expr.Name (st "low") (Pos.mk 145 12 145 15), Expr.Name (st "high") (Pos.mk 145 17 145 21)] 0 (Pos.mk 145 12 145 21)) (Expr.Call (Expr.Name (st "without_spans") (Pos.mk 145 25 145 38)) [Expr.IfExp (Expr.Compare (Expr.Name (st "size") (Pos.mk 145 68 145 72)) [CmpOp.Gt] [Expr.Constant (Const.int 0) 0 (Pos.mk 145 75 145 76)] (Pos.mk 145 68 145 76)) (Expr.List [Expr.Tuple [Expr.Name (st "offset") (Pos.mk 145 41 145 47), Expr.BinOp (Expr.Name (st "offset") (Pos.mk 145 49 145 55)) Operator.Add (Expr.Name (st "size") (Pos.mk 145 58 145 62)) (Pos.mk 145 49 145 62)] 0 (Pos.mk 145 40 145 63)] (Pos.mk 145 39 145 64)) (Expr.List [] (Pos.mk 145 82 145 84)) (Pos.mk 145 39 145 84), Expr.Attribute (Expr.Name (st "self") (Pos.mk 145 86 145 90)) (st "acked") (Pos.mk 145 86 145 96)] [] (Pos.mk 145 25 145 97)) [Stmt.Assign [Expr.Attribute (Expr.Name (st "self") (Pos.mk 146 12 146 16)) (st "lost") (Pos.mk 146 12 146 21)] (Expr.Call (Expr.Name (st "add_span") (Pos.mk 146 24 146 32)) [Expr.Attribute (Expr.Name (st "self") (Pos.mk 146 33 146 37)) (st "lost") (Pos.mk 146 33 146 42), Expr.Name (st "low") (Pos.mk 146 44 146 47), Expr.Name (st "high") (Pos.mk 146 49 146 53)] [] (Pos.mk 146 24 146 54)) (Pos.mk 146 12 146 54)] [] (Pos.mk 145 8 146 54), Stmt.If (Expr.BoolOp BoolOp.And [Expr.Name (st "is_end") (Pos.mk 147 11 147 17), Expr.UnaryOp UnaryOp.Not (Expr.Attribute (Expr.Name (st "self") (Pos.mk 147 27 147 31)) (st "is_end_acked") (Pos.mk 147 27 147 44)) (Pos.mk 147 23 147 44)] (Pos.mk 147 11 147 45)) [Stmt.Assign [Expr.Attribute (Expr.Name (st "self") (Pos.mk 148 12 148 16)) (st "owes_end") (Pos.mk 148 12 148 25)] (Expr.Constant (Const.bool true) 0 (Pos.mk 148 28 148 32)) (Pos.mk 148 12 148 32)] [] (Pos.mk 147 8 148 32)]) (Scope.mk ScopeKind.function [(st "self", NameKind.local), (st "offset", NameKind.local), (st "size", NameKind.local), (st "is_end", NameKind.local), (st "low", NameKind.local), (st "high", NameKind.local), (st "SENDING", NameKind.globalImplicit), (st "DATA_SENT", NameKind.globalImplicit), (st "without_spans", NameKind.globalImplicit), (st "add_span", NameKind.globalImplicit)] false false []) 0 [] Value.none Value.none Value.none Value.none none Value.none Value.none 0)) #[]
noncomputable def x39 (P : Params) : Obj := Obj.mk Value.none none (Data.func (FuncData.mk (st "on_reset_acked") (st "SendPart.on_reset_acked") (Arguments.mk [] [Arg.mk (st "self") none (Pos.mk 150 23 150 27)] none [] [] none []) (FuncBody.stmts [Stmt.Expr (Expr.Call (Expr.Name (st "_wall") (Pos.mk 151 8 151 13)) [Expr.Constant (Const.int 3) 0 (Pos.mk 151 14 151 15)] [] (Pos.mk 151 8 151 16)) (Pos.mk 151 8 151 16)]) (Scope.mk ScopeKind.function [(st "self", NameKind.local), (st "_wall", NameKind.globalImplicit)] false false []) 0 [] Value.none Value.none Value.none Value.none none Value.none Value.none 0)) #[]
noncomputable def x40 (P : Params) : Obj := Obj.mk Value.none none (Data.func (FuncData.mk (st "on_reset_lost") (st "SendPart.on_reset_lost") (Arguments.mk [] [Arg.mk (st "self") none (Pos.mk 153 22 153 26)] none [] [] none []) (FuncBody.stmts [Stmt.Expr (Expr.Call (Expr.Name (st "_wall") (Pos.mk 154 8 154 13)) [Expr.Constant (Const.int 4) 0 (Pos.mk 154 14 154 15)] [] (Pos.mk 154 8 154 16)) (Pos.mk 154 8 154 16)]) (Scope.mk ScopeKind.function [(st "self", NameKind.local), (st "_wall", NameKind.globalImplicit)] false false []) 0 [] Value.none Value.none Value.none Value.none none Value.none Value.none 0)) #[]
noncomputable def x41 (P : Params) : Obj := Obj.mk Value.none none (Data.func (FuncData.mk (st "is_over") (st "SendPart.is_over") (Arguments.mk [] [Arg.mk (st "self") none (Pos.mk 156 16 156 20)] none [] [] none []) (FuncBody.stmts [Stmt.Return (some (Expr.Compare (Expr.Attribute (Expr.Name (st "self") (Pos.mk 157 15 157 19)) (st "state") (Pos.mk 157 15 157 25)) [CmpOp.In] [Expr.Tuple [Expr.Name (st "DATA_RECEIVED") (Pos.mk 157 30 157 43), Expr.Name (st "RESET_RECEIVED") (Pos.mk 157 45 157 59)] 0 (Pos.mk 157 29 157 60)] (Pos.mk 157 15 157 60))) (Pos.mk 157 8 157 60)]) (Scope.mk ScopeKind.function [(st "self", NameKind.local), (st "DATA_RECEIVED", NameKind.globalImplicit), (st "RESET_RECEIVED", NameKind.globalImplicit)] false false []) 0 [] Value.none Value.none Value.none Value.none none Value.none Value.none 0)) #[]
noncomputable def x42 (P : Params) : Obj := Obj.mk (Value.type "super") none (Data.fields #[Value.ref 199, Value.ref 199, Value.ref 199]) #[]
noncomputable def x43 (P : Params) : Obj := Obj.mk (Value.type "builtin_function_or_method") none (Data.fields #[Value.builtin "object.__init_subclass__", Value.ref 199]) #[]
noncomputable def x44 (P : Params) : Obj := Obj.mk Value.none none (Data.fields #[Value.int 1 0, Value.int 0 0, Value.ref 20, Value.int 6 0, Value.int 0 0, Value.ref 27, Value.int 14 0, Value.int 0 0, Value.ref 47, Value.int 29 0, Value.int 0 0, Value.ref 54, Value.int 37 0, Value.int 0 0, Value.ref 61, Value.int 44 0, Value.int 0 0, Value.ref 68, Value.int 49 0, Value.int 0 0, Value.ref 75, Value.int 61 0, Value.int 0 0, Value.ref 83, Value.int 159 0, Value.int 0 0, Value.ref 209, Value.int 163 0, Value.int 0 0, Value.ref 216, Value.int 168 0, Value.int 0 0, Value.ref 221, Value.int 187 0, Value.int 0 0, Value.ref 228, Value.int 195 0, Value.int 0 0, Value.ref 235, Value.int 201 0, Value.int 0 0, Value.ref 240, Value.int 218 0, Value.int 0 0, Value.ref 247, Value.int 221 0, Value.int 0 0, Value.ref 254, Value.int 223 0, Value.int 0 0, Value.ref 261]) #[]
noncomputable def x45 (P : Params) : Obj := Obj.mk Value.none none (Data.func (FuncData.mk (st "_law_box") (st "_law_box") (Arguments.mk [] [Arg.mk (st "script") none (Pos.mk 159 13 159 19), Arg.mk (st "seed_here") none (Pos.mk 159 21 159 30)] none [] [] none []) (FuncBody.stmts [Stmt.For (Expr.Name (st "one") (Pos.mk 160 8 160 11)) (Expr.Subscript (Expr.Name (st "script") (Pos.mk 160 15 160 21)) (Expr.Slice none (some (Expr.Constant (Const.int 40) 0 (Pos.mk 160 23 160 25))) none (Pos.mk 160 22 160 25)) (Pos.mk 160 15 160 26)) [Stmt.Assign [Expr.Name (st "seed_here") (Pos.mk 161 8 161 17)] (Expr.BinOp (Expr.BinOp (Expr.BinOp (Expr.Name (st "seed_here") (Pos.mk 161 21 161 30)) Operator.Mult (Expr.Constant (Const.int 31) 0 (Pos.mk 161 33 161 35)) (Pos.mk 161 21 161 35)) Operator.Add (Expr.Name (st "one") (Pos.mk 161 38 161 41)) (Pos.mk 161 21 161 41)) Operator.Mod (Expr.Constant (Const.int 2147483647) 0 (Pos.mk 161 45 161 55)) (Pos.mk 161 20 161 55)) (Pos.mk 161 8 161 55)] [] (Pos.mk 160 4 161 55), Stmt.Return (some (Expr.List [Expr.Call (Expr.Name (st "list") (Pos.mk 162 12 162 16)) [Expr.Subscript (Expr.Name (st "script") (Pos.mk 162 17 162 23)) (Expr.Slice none (some (Expr.Constant (Const.int 40) 0 (Pos.mk 162 25 162 27))) none (Pos.mk 162 24 162 27)) (Pos.mk 162 17 162 28)] [] (Pos.mk 162 12 162 29), Expr.Name (st "seed_here") (Pos.mk 162 31 162 40)] (Pos.mk 162 11 162 41))) (Pos.mk 162 4 162 41)]) (Scope.mk ScopeKind.function [(st "script", NameKind.local), (st "seed_here", NameKind.local), (st "one", NameKind.local), (st "list", NameKind.globalImplicit)] false false []) 0 [] Value.none Value.none Value.none Value.none none Value.none Value.none 0)) #[]
noncomputable def x46 (P : Params) : Obj := Obj.mk Value.none none (Data.func (FuncData.mk (st "_law_take") (st "_law_take") (Arguments.mk [] [Arg.mk (st "box") none (Pos.mk 163 14 163 17), Arg.mk (st "wide") none (Pos.mk 163 19 163 23)] none [] [] none []) (FuncBody.stmts [Stmt.If (Expr.Compare (Expr.Call (Expr.Name (st "len") (Pos.mk 164 7 164 10)) [Expr.Subscript (Expr.Name (st "box") (Pos.mk 164 11 164 14)) (Expr.Constant (Const.int 0) 0 (Pos.mk 164 15 164 16)) (Pos.mk 164 11 164 17)] [] (Pos.mk 164 7 164 18)) [CmpOp.Gt] [Expr.Constant (Const.int 0) 0 (Pos.mk 164 21 164 22)] (Pos.mk 164 7 164 22)) [Stmt.Return (some (Expr.BinOp (Expr.Call (Expr.Attribute (Expr.Subscript (Expr.Name (st "box") (Pos.mk 165 15 165 18)) (Expr.Constant (Const.int 0) 0 (Pos.mk 165 19 165 20)) (Pos.mk 165 15 165 21)) (st "pop") (Pos.mk 165 15 165 25)) [Expr.Constant (Const.int 0) 0 (Pos.mk 165 26 165 27)] [] (Pos.mk 165 15 165 28)) Operator.Mod (Expr.Name (st "wide") (Pos.mk 165 31 165 35)) (Pos.mk 165 15 165 35))) (Pos.mk 165 8 165 35)] [] (Pos.mk 164 4 165 35), Stmt.Assign [Expr.Subscript (Expr.Name (st "box") (Pos.mk 166 4 166 7)) (Expr.Constant (Const.int 1) 0 (Pos.mk 166 8 166 9)) (Pos.mk 166 4 166 10)] (Expr.BinOp (Expr.BinOp (Expr.BinOp (Expr.Subscript (Expr.Name (st "box") (Pos.mk 166 14 166 17)) (Expr.Constant (Const.int 1) 0 (Pos.mk 166 18 166 19)) (Pos.mk 166 14 166 20)) Operator.Mult (Expr.Constant (Const.int 48271) 0 (Pos.mk 166 23 166 28)) (Pos.mk 166 14 166 28)) Operator.Add (Expr.Constant (Const.int 11) 0 (Pos.mk 166 31 166 33)) (Pos.mk 166 14 166 33)) Operator.Mod (Expr.Constant (Const.int 2147483647) 0 (Pos.mk 166 37 166 47)) (Pos.mk 166 13 166 47)) (Pos.mk 166 4 166 47), Stmt.Return (some (Expr.BinOp (Expr.BinOp (Expr.Subscript (Expr.Name (st "box") (Pos.mk 167 11 167 14)) (Expr.Constant (Const.int 1) 0 (Pos.mk 167 15 167 16)) (Pos.mk 167 11 167 17)) Operator.FloorDiv (Expr.Constant (Const.int 97) 0 (Pos.mk 167 21 167 23)) (Pos.mk 167 11 167 23)) Operator.Mod (Expr.Name (st "wide") (Pos.mk 167 26 167 30)) (Pos.mk 167 11 167 30))) (Pos.mk 167 4 167 30)]) (Scope.mk ScopeKind.function [(st "box", NameKind.local), (st "wide", NameKind.local), (st "len", NameKind.globalImplicit)] false false []) 0 [] Value.none Value.none Value.none Value.none none Value.none Value.none 0)) #[]
noncomputable def x47 (P : Params) : Obj := Obj.mk Value.none none (Data.func (FuncData.mk (st "_law_chunk") (st "_law_chunk") (Arguments.mk [] [Arg.mk (st "box") none (Pos.mk 168 15 168 18), Arg.mk (st "part") none (Pos.mk 168 20 168 24), Arg.mk (st "here") none (Pos.mk 168 26 168 30), Arg.mk (st "is_free") none (Pos.mk 168 32 168 39)] none [] [] none []) (FuncBody.stmts [Stmt.Assign [Expr.Tuple [Expr.Name (st "most") (Pos.mk 169 4 169 8), Expr.Name (st "most_new") (Pos.mk 169 10 169 18)] 0 (Pos.mk 169 4 169 18)] (Expr.IfExp (Expr.Name (st "is_free") (Pos.mk 169 34 169 41)) (Expr.Tuple [Expr.Constant (Const.int 9) 0 (Pos.mk 169 22 169 23), Expr.Constant Const.none 0 (Pos.mk 169 25 169 29)] 0 (Pos.mk 169 21 169 30)) (Expr.Tuple [Expr.Call (Expr.Name (st "_law_take") (Pos.mk 169 48 169 57)) [Expr.Name (st "box") (Pos.mk 169 58 169 61), Expr.Constant (Const.int 9) 0 (Pos.mk 169 63 169 64)] [] (Pos.mk 169 48 169 65), Expr.Call (Expr.Name (st "_law_take") (Pos.mk 169 67 169 76)) [Expr.Name (st "box") (Pos.mk 169 77 169 80), Expr.Constant (Const.int 9) 0 (Pos.mk 169 82 169 83)] [] (Pos.mk 169 67 169 84)] 0 (Pos.mk 169 47 169 85)) (Pos.mk 169 21 169 85)) (Pos.mk 169 4 169 85), Stmt.Assign [Expr.Tuple [Expr.Name (st "ahead") (Pos.mk 170 4 170 9), Expr.Name (st "limit") (Pos.mk 170 11 170 16), Expr.Name (st "written") (Pos.mk 170 18 170 25), Expr.Name (st "again") (Pos.mk 170 27 170 32)] 0 (Pos.mk 170 4 170 32)] (Expr.Tuple [Expr.Attribute (Expr.Name (st "part") (Pos.mk 170 36 170 40)) (st "sent_to") (Pos.mk 170 36 170 48), Expr.Attribute (Expr.Name (st "part") (Pos.mk 170 50 170 54)) (st "limit") (Pos.mk 170 50 170 60), Expr.Subscript (Expr.Name (st "here") (Pos.mk 170 62 170 66)) (Expr.Constant (Const.str (st "written")) 0 (Pos.mk 170 67 170 76)) (Pos.mk 170 62 170 77), Expr.Subscript (Expr.Name (st "here") (Pos.mk 170 79 170 83)) (Expr.Constant (Const.str (st "again")) 0 (Pos.mk 170 84 170 91)) (Pos.mk 170 79 170 92)] 0 (Pos.mk 170 35 170 93)) (Pos.mk 170 4 170 93), Stmt.Assign [Expr.Tuple [Expr.Name (st "due") (Pos.mk 171 4 171 7), Expr.Name (st "told") (Pos.mk 171 9 171 13)] 0 (Pos.mk 171 4 171 13)] (Expr.Tuple [Expr.Call (Expr.Attribute (Expr.Name (st "part") (Pos.mk 171 17 171 21)) (st "has_to_send") (Pos.mk 171 17 171 33)) [Expr.Name (st "most_new") (Pos.mk 171 34 171 42)] [] (Pos.mk 171 17 171 43), Expr.Call (Expr.Attribute (Expr.Name (st "part") (Pos.mk 171 45 171 49)) (st "next_chunk") (Pos.mk 171 45 171 60)) [Expr.Name (st "most") (Pos.mk 171 61 171 65), Expr.Name (st "most_new") (Pos.mk 171 67 171 75)] [] (Pos.mk 171 45 171 76)] 0 (Pos.mk 171 16 171 77)) (Pos.mk 171 4 171 77), Stmt.If (Expr.Compare (Expr.Name (st "told") (Pos.mk 172 7 172 11)) [CmpOp.Is] [Expr.Constant Const.none 0 (Pos.mk 172 15 172 19)] (Pos.mk 172 7 172 19)) [Stmt.Return (some (Expr.BoolOp BoolOp.Or [Expr.Compare (Expr.Name (st "most") (Pos.mk 173 15 173 19)) [CmpOp.Eq] [Expr.Constant (Const.int 0) 0 (Pos.mk 173 23 173 24)] (Pos.mk 173 15 173 24), Expr.UnaryOp UnaryOp.Not (Expr.Name (st "due") (Pos.mk 173 32 173 35)) (Pos.mk 173 28 173 35)] (Pos.mk 173 15 173 35))) (Pos.mk 173 8 173 35)] [] (Pos.mk 172 4 173 35), Stmt.Assign [Expr.Tuple [Expr.Name (st "offset") (Pos.mk 174 4 174 10), Expr.Name (st "data") (Pos.mk 174 12 174 16), Expr.Name (st "is_end") (Pos.mk 174 18 174 24)] 0 (Pos.mk 174 4 174 24)] (Expr.Name (st "told") (Pos.mk 174 27 174 31)) (Pos.mk 174 4 174 31), Stmt.Assign [Expr.Name (st "end") (Pos.mk 175 4 175 7)] (Expr.BinOp (Expr.Name (st "offset") (Pos.mk 175 10 175 16)) Operator.Add (Expr.Call (Expr.Name (st "len") (Pos.mk 175 19 175 22)) [Expr.Name (st "data") (Pos.mk 175 23 175 27)] [] (Pos.mk 175 19 175 28)) (Pos.mk 175 10 175 28)) (Pos.mk 175 4 175 28), Stmt.Assign [Expr.Name (st "new") (Pos.mk 176 4 176 7)] (Expr.Call (Expr.Name (st "max") (Pos.mk 176 10 176 13)) [Expr.Constant (Const.int 0) 0 (Pos.mk 176 14 176 15), Expr.BinOp (Expr.Name (st "end") (Pos.mk 176 17 176 20)) Operator.Sub (Expr.Name (st "ahead") (Pos.mk 176 23 176 28)) (Pos.mk 176 17 176 28)] [] (Pos.mk 176 10 176 29)) (Pos.mk 176 4 176 29), Stmt.If (Expr.BoolOp BoolOp.Or [Expr.Compare (Expr.Name (st "data") (Pos.mk 177 7 177 11)) [CmpOp.NotEq] [Expr.Subscript (Expr.Name (st "written") (Pos.mk 177 15 177 22)) (Expr.Slice (some (Expr.Name (st "offset") (Pos.mk 177 23 177 29))) (some (Expr.Name (st "end") (Pos.mk 177 30 177 33))) none (Pos.mk 177 23 177 33)) (Pos.mk 177 15 177 34)] (Pos.mk 177 7 177 34), Expr.Compare (Expr.Call (Expr.Name (st "len") (Pos.mk 177 38 177 41)) [Expr.Name (st "data") (Pos.mk 177 42 177 46)] [] (Pos.mk 177 38 177 47)) [CmpOp.Gt] [Expr.Name (st "most") (Pos.mk 177 50 177 54)] (Pos.mk 177 38 177 54), Expr.BoolOp BoolOp.And [Expr.Compare (Expr.Name (st "end") (Pos.mk 177 59 177 62)) [CmpOp.Gt] [Expr.Name (st "limit") (Pos.mk 177 65 177 70)] (Pos.mk 177 59 177 70), Expr.Compare (Expr.Name (st "new") (Pos.mk 177 75 177 78)) [CmpOp.Gt] [Expr.Constant (Const.int 0) 0 (Pos.mk 177 81 177 82)] (Pos.mk 177 75 177 82)] (Pos.mk 177 59 177 82), Expr.Compare (Expr.Name (st "offset") (Pos.mk 177 88 177 94)) [CmpOp.Gt] [Expr.Name (st "ahead") (Pos.mk 177 97 177 102)] (Pos.mk 177 88 177 102)] (Pos.mk 177 7 177 103)) [Stmt.Return (some (Expr.Constant (Const.bool false) 0 (Pos.mk 178 15 178 20))) (Pos.mk 178 8 178 20)] [] (Pos.mk 177 4 178 20), Stmt.If (Expr.BoolOp BoolOp.Or [Expr.BoolOp BoolOp.And [Expr.Compare (Expr.Name (st "most_new") (Pos.mk 179 7 179 15)) [CmpOp.IsNot] [Expr.Constant Const.none 0 (Pos.mk 179 23 179 27)] (Pos.mk 179 7 179 27), Expr.Compare (Expr.Name (st "new") (Pos.mk 179 32 179 35)) [CmpOp.Gt] [Expr.Name (st "most_new") (Pos.mk 179 38 179 46)] (Pos.mk 179 32 179 46)] (Pos.mk 179 7 179 46), Expr.BoolOp BoolOp.And [Expr.Compare (Expr.Name (st "new") (Pos.mk 179 51 179 54)) [CmpOp.Gt] [Expr.Constant (Const.int 0) 0 (Pos.mk 179 57 179 58)] (Pos.mk 179 51 179 58), Expr.Compare (Expr.Call (Expr.Name (st "len") (Pos.mk 179 63 179 66)) [Expr.Name (st "again") (Pos.mk 179 67 179 72)] [] (Pos.mk 179 63 179 73)) [CmpOp.Gt] [Expr.Constant (Const.int 0) 0 (Pos.mk 179 76 179 77)] (Pos.mk 179 63 179 77)] (Pos.mk 179 51 179 77)] (Pos.mk 179 7 179 78)) [Stmt.Return (some (Expr.Constant (Const.bool false) 0 (Pos.mk 180 15 180 20))) (Pos.mk 180 8 180 20)] [] (Pos.mk 179 4 180 20), Stmt.If (Expr.Compare (Expr.ListComp (Expr.Name (st "at") (Pos.mk 181 8 181 10)) [Comprehension.mk (Expr.Name (st "at") (Pos.mk 181 15 181 17)) (Expr.Call (Expr.Name (st "range") (Pos.mk 181 21 181 26)) [Expr.Name (st "offset") (Pos.mk 181 27 181 33), Expr.Call (Expr.Name (st "min") (Pos.mk 181 35 181 38)) [Expr.Name (st "end") (Pos.mk 181 39 181 42), Expr.Name (st "ahead") (Pos.mk 181 44 181 49)] [] (Pos.mk 181 35 181 50)] [] (Pos.mk 181 21 181 51)) [Expr.Compare (Expr.Name (st "at") (Pos.mk 181 55 181 57)) [CmpOp.NotIn] [Expr.Name (st "again") (Pos.mk 181 65 181 70)] (Pos.mk 181 55 181 70)] 0] (Scope.mk ScopeKind.function [(st ".0", NameKind.local), (st "at", NameKind.local), (st "again", NameKind.free)] false false []) (Pos.mk 181 7 181 71)) [CmpOp.NotEq] [Expr.List [] (Pos.mk 181 75 181 77)] (Pos.mk 181 7 181 77)) [Stmt.Return (some (Expr.Constant (Const.bool false) 0 (Pos.mk 182 15 182 20))) (Pos.mk 182 8 182 20)] [] (Pos.mk 181 4 182 20), Stmt.For (Expr.Name (st "at") (Pos.mk 183 8 183 10)) (Expr.Call (Expr.Name (st "range") (Pos.mk 183 14 183 19)) [Expr.Name (st "offset") (Pos.mk 183 20 183 26), Expr.Name (st "end") (Pos.mk 183 28 183 31)] [] (Pos.mk 183 14 183 32)) [Stmt.Expr (Expr.Call (Expr.Attribute (Expr.Name (st "again") (Pos.mk 184 8 184 13)) (st "pop") (Pos.mk 184 8 184 17)) [Expr.Name (st "at") (Pos.mk 184 18 184 20), Expr.Constant Const.none 0 (Pos.mk 184 22 184 26)] [] (Pos.mk 184 8 184 27)) (Pos.mk 184 8 184 27)] [] (Pos.mk 183 4 184 27), Stmt.Expr (Expr.Call (Expr.Attribute (Expr.Subscript (Expr.Name (st "here") (Pos.mk 185 4 185 8)) (Expr.Constant (Const.str (st "flying")) 0 (Pos.mk 185 9 185 17)) (Pos.mk 185 4 185 18)) (st "append") (Pos.mk 185 4 185 25)) [Expr.Name (st "told") (Pos.mk 185 26 185 30)] [] (Pos.mk 185 4 185 31)) (Pos.mk 185 4 185 31), Stmt.Return (some (Expr.BoolOp BoolOp.Or [Expr.UnaryOp UnaryOp.Not (Expr.Name (st "is_end") (Pos.mk 186 15 186 21)) (Pos.mk 186 11 186 21), Expr.BoolOp BoolOp.And [Expr.Attribute (Expr.Name (st "part") (Pos.mk 186 26 186 30)) (st "is_finished") (Pos.mk 186 26 186 42), Expr.Compare (Expr.Name (st "end") (Pos.mk 186 47 186 50)) [CmpOp.Eq] [Expr.Call (Expr.Name (st "len") (Pos.mk 186 54 186 57)) [Expr.Name (st "written") (Pos.mk 186 58 186 65)] [] (Pos.mk 186 54 186 66)] (Pos.mk 186 47 186 66)] (Pos.mk 186 26 186 66)] (Pos.mk 186 11 186 67))) (Pos.mk 186 4 186 67)]) (Scope.mk ScopeKind.function [(st "box", NameKind.local), (st "part", NameKind.local), (st "here", NameKind.local), (st "is_free", NameKind.local), (st "most", NameKind.local), (st "most_new", NameKind.local), (st "ahead", NameKind.local), (st "limit", NameKind.local), (st "written", NameKind.local), (st "again", NameKind.cell), (st "due", NameKind.local), (st "told", NameKind.local), (st "offset", NameKind.local), (st "data", NameKind.local), (st "is_end", NameKind.local), (st "end", NameKind.local), (st "new", NameKind.local), (st "at", NameKind.local), (st "_law_take", NameKind.globalImplicit), (st "len", NameKind.globalImplicit), (st "max", NameKind.globalImplicit), (st "range", NameKind.globalImplicit), (st "min", NameKind.globalImplicit)] false false [(st "fast", Const.str (st "box")), (st "fast", Const.str (st "part")), (st "fast", Const.str (st "here")), (st "fast", Const.str (st "is_free")), (st "fast", Const.str (st "most")), (st "fast", Const.str (st "most_new")), (st "fast", Const.str (st "ahead")), (st "fast", Const.str (st "limit")), (st "fast", Const.str (st "written")), (st "fast", Const.str (st "again")), (st "fast", Const.str (st "due")), (st "fast", Const.str (st "told")), (st "fast", Const.str (st "offset")), (st "fast", Const.str (st "data")), (st "fast", Const.str (st "is_end")), (st "fast", Const.str (st "end")), (st "fast", Const.str (st "new")), (st "fast", Const.str (st "at"))]) 0 [] Value.none Value.none Value.none Value.none none Value.none Value.none 0)) #[]
noncomputable def x48 (P : Params) : Obj := Obj.mk Value.none none (Data.func (FuncData.mk (st "_law_acked") (st "_law_acked") (Arguments.mk [] [Arg.mk (st "part") none (Pos.mk 187 15 187 19), Arg.mk (st "here") none (Pos.mk 187 21 187 25), Arg.mk (st "chunk") none (Pos.mk 187 27 187 32)] none [] [] none []) (FuncBody.stmts [Stmt.Assign [Expr.Tuple [Expr.Name (st "offset") (Pos.mk 188 4 188 10), Expr.Name (st "data") (Pos.mk 188 12 188 16), Expr.Name (st "is_end") (Pos.mk 188 18 188 24)] 0 (Pos.mk 188 4 188 24)] (Expr.Name (st "chunk") (Pos.mk 188 27 188 32)) (Pos.mk 188 4 188 32), Stmt.Expr (Expr.Call (Expr.Attribute (Expr.Name (st "part") (Pos.mk 189 4 189 8)) (st "on_acked") (Pos.mk 189 4 189 17)) [Expr.Name (st "offset") (Pos.mk 189 18 189 24), Expr.Call (Expr.Name (st "len") (Pos.mk 189 26 189 29)) [Expr.Name (st "data") (Pos.mk 189 30 189 34)] [] (Pos.mk 189 26 189 35), Expr.Name (st "is_end") (Pos.mk 189 37 189 43)] [] (Pos.mk 189 4 189 44)) (Pos.mk 189 4 189 44), Stmt.For (Expr.Name (st "at") (Pos.mk 190 8 190 10)) (Expr.Call (Expr.Name (st "range") (Pos.mk 190 14 190 19)) [Expr.Name (st "offset") (Pos.mk 190 20 190 26), Expr.BinOp (Expr.Name (st "offset") (Pos.mk 190 28 190 34)) Operator.Add (Expr.Call (Expr.Name (st "len") (Pos.mk 190 37 190 40)) [Expr.Name (st "data") (Pos.mk 190 41 190 45)] [] (Pos.mk 190 37 190 46)) (Pos.mk 190 28 190 46)] [] (Pos.mk 190 14 190 47)) [Stmt.Assign [Expr.Subscript (Expr.Subscript (Expr.Name (st "here") (Pos.mk 191 8 191 12)) (Expr.Constant (Const.str (st "known")) 0 (Pos.mk 191 13 191 20)) (Pos.mk 191 8 191 21)) (Expr.Name (st "at") (Pos.mk 191 22 191 24)) (Pos.mk 191 8 191 25)] (Expr.Constant (Const.bool true) 0 (Pos.mk 191 28 191 32)) (Pos.mk 191 8 191 32), Stmt.Expr (Expr.Call (Expr.Attribute (Expr.Subscript (Expr.Name (st "here") (Pos.mk 192 8 192 12)) (Expr.Constant (Const.str (st "again")) 0 (Pos.mk 192 13 192 20)) (Pos.mk 192 8 192 21)) (st "pop") (Pos.mk 192 8 192 25)) [Expr.Name (st "at") (Pos.mk 192 26 192 28), Expr.Constant Const.none 0 (Pos.mk 192 30 192 34)] [] (Pos.mk 192 8 192 35)) (Pos.mk 192 8 192 35)] [] (Pos.mk 190 4 192 35), Stmt.If (Expr.Name (st "is_end") (Pos.mk 193 7 193 13)) [Stmt.Assign [Expr.Subscript (Expr.Subscript (Expr.Name (st "here") (Pos.mk 194 8 194 12)) (Expr.Constant (Const.str (st "known")) 0 (Pos.mk 194 13 194 20)) (Pos.mk 194 8 194 21)) (Expr.Constant (Const.str (st "end")) 0 (Pos.mk 194 22 194 27)) (Pos.mk 194 8 194 28)] (Expr.Constant (Const.bool true) 0 (Pos.mk 194 31 194 35)) (Pos.mk 194 8 194 35)] [] (Pos.mk 193 4 194 35)]) (Scope.mk ScopeKind.function [(st "part", NameKind.local), (st "here", NameKind.local), (st "chunk", NameKind.local), (st "offset", NameKind.local), (st "data", NameKind.local), (st "is_end", NameKind.local), (st "at", NameKind.local), (st "len", NameKind.globalImplicit), (st "range", NameKind.globalImplicit)] false false []) 0 [] Value.none Value.none Value.none Value.none none Value.none Value.none 0)) #[]
noncomputable def x49 (P : Params) : Obj := Obj.mk Value.none none (Data.func (FuncData.mk (st "_law_lost") (st "_law_lost") (Arguments.mk [] [Arg.mk (st "part") none (Pos.mk 195 14 195 18), Arg.mk (st "here") none (Pos.mk 195 20 195 24), Arg.mk (st "chunk") none (Pos.mk 195 26 195 31)] none [] [] none []) (FuncBody.stmts [Stmt.Assign [Expr.Tuple [Expr.Name (st "offset") (Pos.mk 196 4 196 10), Expr.Name (st "data") (Pos.mk 196 12 196 16), Expr.Name (st "is_end") (Pos.mk 196 18 196 24)] 0 (Pos.mk 196 4 196 24)] (Expr.Name (st "chunk") (Pos.mk 196 27 196 32)) (Pos.mk 196 4 196 32), Stmt.Expr (Expr.Call (Expr.Attribute (Expr.Name (st "part") (Pos.mk 197 4 197 8)) (st "on_lost") (Pos.mk 197 4 197 16)) [Expr.Name (st "offset") (Pos.mk 197 17 197 23), Expr.Call (Expr.Name (st "len") (Pos.mk 197 25 197 28)) [Expr.Name (st "data") (Pos.mk 197 29 197 33)] [] (Pos.mk 197 25 197 34), Expr.Name (st "is_end") (Pos.mk 197 36 197 42)] [] (Pos.mk 197 4 197 43)) (Pos.mk 197 4 197 43), Stmt.For (Expr.Name (st "at") (Pos.mk 198 8 198 10)) (Expr.Call (Expr.Name (st "range") (Pos.mk 198 14 198 19)) [Expr.Name (st "offset") (Pos.mk 198 20 198 26), Expr.BinOp (Expr.Name (st "offset") (Pos.mk 198 28 198 34)) Operator.Add (Expr.Call (Expr.Name (st "len") (Pos.mk 198 37 198 40)) [Expr.Name (st "data") (Pos.mk 198 41 198 45)] [] (Pos.mk 198 37 198 46)) (Pos.mk 198 28 198 46)] [] (Pos.mk 198 14 198 47)) [Stmt.If (Expr.Compare (Expr.Name (st "at") (Pos.mk 199 11 199 13)) [CmpOp.NotIn] [Expr.Subscript (Expr.Name (st "here") (Pos.mk 199 21 199 25)) (Expr.Constant (Const.str (st "known")) 0 (Pos.mk 199 26 199 33)) (Pos.mk 199 21 199 34)] (Pos.mk 199 11 199 34)) [Stmt.Assign [Expr.Subscript (Expr.Subscript (Expr.Name (st "here") (Pos.mk 200 12 200 16)) (Expr.Constant (Const.str (st "again")) 0 (Pos.mk 200 17 200 24)) (Pos.mk 200 12 200 25)) (Expr.Name (st "at") (Pos.mk 200 26 200 28)) (Pos.mk 200 12 200 29)] (Expr.Constant (Const.bool true) 0 (Pos.mk 200 32 200 36)) (Pos.mk 200 12 200 36)] [] (Pos.mk 199 8 200 36)] [] (Pos.mk 198 4 200 36)]) (Scope.mk ScopeKind.function [(st "part", NameKind.local), (st "here", NameKind.local), (st "chunk", NameKind.local), (st "offset", NameKind.local), (st "data", NameKind.local), (st "is_end", NameKind.local), (st "at", NameKind.local), (st "len", NameKind.globalImplicit), (st "range", NameKind.globalImplicit)] false false []) 0 [] Value.none Value.none Value.none Value.none none Value.none Value.none 0)) #[]
noncomputable def x50 (P : Params) : Obj := Obj.mk Value.none none (Data.func (FuncData.mk (st "_law_step") (st "_law_step") (Arguments.mk [] [Arg.mk (st "box") none (Pos.mk 201 14 201 17), Arg.mk (st "part") none (Pos.mk 201 19 201 23), Arg.mk (st "here") none (Pos.mk 201 25 201 29)] none [] [] none []) (FuncBody.stmts [Stmt.Assign [Expr.Tuple [Expr.Name (st "form") (Pos.mk 202 4 202 8), Expr.Name (st "flying") (Pos.mk 202 10 202 16)] 0 (Pos.mk 202 4 202 16)] (Expr.Tuple [Expr.Call (Expr.Name (st "_law_take") (Pos.mk 202 20 202 29)) [Expr.Name (st "box") (Pos.mk 202 30 202 33), Expr.Constant (Const.int 6) 0 (Pos.mk 202 35 202 36)] [] (Pos.mk 202 20 202 37), Expr.Subscript (Expr.Name (st "here") (Pos.mk 202 39 202 43)) (Expr.Constant (Const.str (st "flying")) 0 (Pos.mk 202 44 202 52)) (Pos.mk 202 39 202 53)] 0 (Pos.mk 202 19 202 54)) (Pos.mk 202 4 202 54), Stmt.If (Expr.BoolOp BoolOp.And [Expr.Compare (Expr.Name (st "form") (Pos.mk 203 7 203 11)) [CmpOp.Eq] [Expr.Constant (Const.int 1) 0 (Pos.mk 203 15 203 16)] (Pos.mk 203 7 203 16), Expr.UnaryOp UnaryOp.Not (Expr.Attribute (Expr.Name (st "part") (Pos.mk 203 26 203 30)) (st "is_finished") (Pos.mk 203 26 203 42)) (Pos.mk 203 22 203 42)] (Pos.mk 203 7 203 43)) [Stmt.Assign [Expr.Name (st "more") (Pos.mk 204 8 204 12)] (Expr.Call (Expr.Name (st "bytes") (Pos.mk 204 15 204 20)) [Expr.ListComp (Expr.BinOp (Expr.Constant (Const.int 65) 0 (Pos.mk 204 22 204 24)) Operator.Add (Expr.Call (Expr.Name (st "_law_take") (Pos.mk 204 27 204 36)) [Expr.Name (st "box") (Pos.mk 204 37 204 40), Expr.Constant (Const.int 26) 0 (Pos.mk 204 42 204 44)] [] (Pos.mk 204 27 204 45)) (Pos.mk 204 22 204 45)) [Comprehension.mk (Expr.Name (st "turn") (Pos.mk 204 50 204 54)) (Expr.Call (Expr.Name (st "range") (Pos.mk 204 58 204 63)) [Expr.Call (Expr.Name (st "_law_take") (Pos.mk 204 64 204 73)) [Expr.Name (st "box") (Pos.mk 204 74 204 77), Expr.Constant (Const.int 6) 0 (Pos.mk 204 79 204 80)] [] (Pos.mk 204 64 204 81)] [] (Pos.mk 204 58 204 82)) [] 0] (Scope.mk ScopeKind.function [(st ".0", NameKind.local), (st "turn", NameKind.local), (st "_law_take", NameKind.globalImplicit), (st "box", NameKind.free)] false false []) (Pos.mk 204 21 204 83)] [] (Pos.mk 204 15 204 84)) (Pos.mk 204 8 204 84), Stmt.Expr (Expr.Call (Expr.Attribute (Expr.Name (st "part") (Pos.mk 205 8 205 12)) (st "write") (Pos.mk 205 8 205 18)) [Expr.Name (st "more") (Pos.mk 205 19 205 23)] [] (Pos.mk 205 8 205 24)) (Pos.mk 205 8 205 24), Stmt.Assign [Expr.Subscript (Expr.Name (st "here") (Pos.mk 206 8 206 12)) (Expr.Constant (Const.str (st "written")) 0 (Pos.mk 206 13 206 22)) (Pos.mk 206 8 206 23)] (Expr.BinOp (Expr.Subscript (Expr.Name (st "here") (Pos.mk 206 26 206 30)) (Expr.Constant (Const.str (st "written")) 0 (Pos.mk 206 31 206 40)) (Pos.mk 206 26 206 41)) Operator.Add (Expr.Name (st "more") (Pos.mk 206 44 206 48)) (Pos.mk 206 26 206 48)) (Pos.mk 206 8 206 48)] [Stmt.If (Expr.Compare (Expr.Name (st "form") (Pos.mk 207 9 207 13)) [CmpOp.Eq] [Expr.Constant (Const.int 0) 0 (Pos.mk 207 17 207 18)] (Pos.mk 207 9 207 18)) [Stmt.Expr (Expr.Call (Expr.Attribute (Expr.Name (st "part") (Pos.mk 208 8 208 12)) (st "raise_limit") (Pos.mk 208 8 208 24)) [Expr.Call (Expr.Name (st "_law_take") (Pos.mk 208 25 208 34)) [Expr.Name (st "box") (Pos.mk 208 35 208 38), Expr.Constant (Const.int 30) 0 (Pos.mk 208 40 208 42)] [] (Pos.mk 208 25 208 43)] [] (Pos.mk 208 8 208 44)) (Pos.mk 208 8 208 44)] [Stmt.If (Expr.BoolOp BoolOp.And [Expr.Compare (Expr.Name (st "form") (Pos.mk 209 9 209 13)) [CmpOp.Eq] [Expr.Constant (Const.int 5) 0 (Pos.mk 209 17 209 18)] (Pos.mk 209 9 209 18), Expr.UnaryOp UnaryOp.Not (Expr.Attribute (Expr.Name (st "part") (Pos.mk 209 28 209 32)) (st "is_finished") (Pos.mk 209 28 209 44)) (Pos.mk 209 24 209 44), Expr.Compare (Expr.Call (Expr.Name (st "_law_take") (Pos.mk 209 51 209 60)) [Expr.Name (st "box") (Pos.mk 209 61 209 64), Expr.Constant (Const.int 3) 0 (Pos.mk 209 66 209 67)] [] (Pos.mk 209 51 209 68)) [CmpOp.Eq] [Expr.Constant (Const.int 0) 0 (Pos.mk 209 72 209 73)] (Pos.mk 209 51 209 73)] (Pos.mk 209 9 209 74)) [Stmt.Expr (Expr.Call (Expr.Attribute (Expr.Name (st "part") (Pos.mk 210 8 210 12)) (st "finish") (Pos.mk 210 8 210 19)) [] [] (Pos.mk 210 8 210 21)) (Pos.mk 210 8 210 21)] [Stmt.If (Expr.BoolOp BoolOp.And [Expr.Compare (Expr.Name (st "form") (Pos.mk 211 9 211 13)) [CmpOp.Eq] [Expr.Constant (Const.int 3) 0 (Pos.mk 211 17 211 18)] (Pos.mk 211 9 211 18), Expr.Compare (Expr.Name (st "flying") (Pos.mk 211 23 211 29)) [CmpOp.NotEq] [Expr.List [] (Pos.mk 211 33 211 35)] (Pos.mk 211 23 211 35)] (Pos.mk 211 9 211 35)) [Stmt.Expr (Expr.Call (Expr.Name (st "_law_acked") (Pos.mk 212 8 212 18)) [Expr.Name (st "part") (Pos.mk 212 19 212 23), Expr.Name (st "here") (Pos.mk 212 25 212 29), Expr.Call (Expr.Attribute (Expr.Name (st "flying") (Pos.mk 212 31 212 37)) (st "pop") (Pos.mk 212 31 212 41)) [Expr.Call (Expr.Name (st "_law_take") (Pos.mk 212 42 212 51)) [Expr.Name (st "box") (Pos.mk 212 52 212 55), Expr.Call (Expr.Name (st "len") (Pos.mk 212 57 212 60)) [Expr.Name (st "flying") (Pos.mk 212 61 212 67)] [] (Pos.mk 212 57 212 68)] [] (Pos.mk 212 42 212 69)] [] (Pos.mk 212 31 212 70)] [] (Pos.mk 212 8 212 71)) (Pos.mk 212 8 212 71)] [Stmt.If (Expr.BoolOp BoolOp.And [Expr.Compare (Expr.Name (st "form") (Pos.mk 213 9 213 13)) [CmpOp.Eq] [Expr.Constant (Const.int 4) 0 (Pos.mk 213 17 213 18)] (Pos.mk 213 9 213 18), Expr.Compare (Expr.Name (st "flying") (Pos.mk 213 23 213 29)) [CmpOp.NotEq] [Expr.List [] (Pos.mk 213 33 213 35)] (Pos.mk 213 23 213 35)] (Pos.mk 213 9 213 35)) [Stmt.Expr (Expr.Call (Expr.Name (st "_law_lost") (Pos.mk 214 8 214 17)) [Expr.Name (st "part") (Pos.mk 214 18 214 22), Expr.Name (st "here") (Pos.mk 214 24 214 28), Expr.Call (Expr.Attribute (Expr.Name (st "flying") (Pos.mk 214 30 214 36)) (st "pop") (Pos.mk 214 30 214 40)) [Expr.Call (Expr.Name (st "_law_take") (Pos.mk 214 41 214 50)) [Expr.Name (st "box") (Pos.mk 214 51 214 54), Expr.Call (Expr.Name (st "len") (Pos.mk 214 56 214 59)) [Expr.Name (st "flying") (Pos.mk 214 60 214 66)] [] (Pos.mk 214 56 214 67)] [] (Pos.mk 214 41 214 68)] [] (Pos.mk 214 30 214 69)] [] (Pos.mk 214 8 214 70)) (Pos.mk 214 8 214 70)] [Stmt.Return (some (Expr.Call (Expr.Name (st "_law_chunk") (Pos.mk 216 15 216 25)) [Expr.Name (st "box") (Pos.mk 216 26 216 29), Expr.Name (st "part") (Pos.mk 216 31 216 35), Expr.Name (st "here") (Pos.mk 216 37 216 41), Expr.Constant (Const.bool false) 0 (Pos.mk 216 43 216 48)] [] (Pos.mk 216 15 216 49))) (Pos.mk 216 8 216 49)] (Pos.mk 213 4 216 49)] (Pos.mk 211 4 216 49)] (Pos.mk 209 4 216 49)] (Pos.mk 207 4 216 49)] (Pos.mk 203 4 216 49), Stmt.Return (some (Expr.Constant (Const.bool true) 0 (Pos.mk 217 11 217 15))) (Pos.mk 217 4 217 15)]) (Scope.mk ScopeKind.function [(st "box", NameKind.cell), (st "part", NameKind.local), (st "here", NameKind.local), (st "form", NameKind.local), (st "flying", NameKind.local), (st "more", NameKind.local), (st "_law_take", NameKind.globalImplicit), (st "bytes", NameKind.globalImplicit), (st "range", NameKind.globalImplicit), (st "_law_acked", NameKind.globalImplicit), (st "len", NameKind.globalImplicit), (st "_law_lost", NameKind.globalImplicit), (st "_law_chunk", NameKind.globalImplicit)] false false [(st "fast", Const.str (st "box")), (st "fast", Const.str (st "part")), (st "fast", Const.str (st "here")), (st "fast", Const.str (st "form")), (st "fast", Const.str (st "flying")), (st "fast", Const.str (st "turn")), (st "fast", Const.str (st "more"))]) 0 [] Value.none Value.none Value.none Value.none none Value.none Value.none 0)) #[]
noncomputable def x51 (P : Params) : Obj := Obj.mk Value.none none (Data.func (FuncData.mk (st "_law_is_blocked") (st "_law_is_blocked") (Arguments.mk [] [Arg.mk (st "part") none (Pos.mk 218 20 218 24), Arg.mk (st "written") none (Pos.mk 218 26 218 33)] none [] [] none []) (FuncBody.stmts [Stmt.Assign [Expr.Name (st "is_held") (Pos.mk 219 4 219 11)] (Expr.BoolOp BoolOp.And [Expr.Compare (Expr.Attribute (Expr.Name (st "part") (Pos.mk 219 14 219 18)) (st "sent_to") (Pos.mk 219 14 219 26)) [CmpOp.GtE] [Expr.Attribute (Expr.Name (st "part") (Pos.mk 219 30 219 34)) (st "limit") (Pos.mk 219 30 219 40)] (Pos.mk 219 14 219 40), Expr.Compare (Expr.Call (Expr.Name (st "len") (Pos.mk 219 45 219 48)) [Expr.Name (st "written") (Pos.mk 219 49 219 56)] [] (Pos.mk 219 45 219 57)) [CmpOp.Gt] [Expr.Attribute (Expr.Name (st "part") (Pos.mk 219 60 219 64)) (st "sent_to") (Pos.mk 219 60 219 72)] (Pos.mk 219 45 219 72)] (Pos.mk 219 14 219 72)) (Pos.mk 219 4 219 72), Stmt.Return (some (Expr.Compare (Expr.Call (Expr.Attribute (Expr.Name (st "part") (Pos.mk 220 11 220 15)) (st "blocked_at") (Pos.mk 220 11 220 26)) [] [] (Pos.mk 220 11 220 28)) [CmpOp.Eq] [Expr.IfExp (Expr.Name (st "is_held") (Pos.mk 220 47 220 54)) (Expr.Attribute (Expr.Name (st "part") (Pos.mk 220 33 220 37)) (st "limit") (Pos.mk 220 33 220 43)) (Expr.Constant Const.none 0 (Pos.mk 220 60 220 64)) (Pos.mk 220 33 220 64)] (Pos.mk 220 11 220 65))) (Pos.mk 220 4 220 65)]) (Scope.mk ScopeKind.function [(st "part", NameKind.local), (st "written", NameKind.local), (st "is_held", NameKind.local), (st "len", NameKind.globalImplicit)] false false []) 0 [] Value.none Value.none Value.none Value.none none Value.none Value.none 0)) #[]
noncomputable def x52 (P : Params) : Obj := Obj.mk Value.none none (Data.func (FuncData.mk (st "_law_is_all") (st "_law_is_all") (Arguments.mk [] [Arg.mk (st "here") none (Pos.mk 221 16 221 20)] none [] [] none []) (FuncBody.stmts [Stmt.Return (some (Expr.BoolOp BoolOp.And [Expr.Compare (Expr.Constant (Const.str (st "end")) 0 (Pos.mk 222 11 222 16)) [CmpOp.In] [Expr.Subscript (Expr.Name (st "here") (Pos.mk 222 20 222 24)) (Expr.Constant (Const.str (st "known")) 0 (Pos.mk 222 25 222 32)) (Pos.mk 222 20 222 33)] (Pos.mk 222 11 222 33), Expr.Compare (Expr.Call (Expr.Name (st "len") (Pos.mk 222 38 222 41)) [Expr.Subscript (Expr.Name (st "here") (Pos.mk 222 42 222 46)) (Expr.Constant (Const.str (st "known")) 0 (Pos.mk 222 47 222 54)) (Pos.mk 222 42 222 55)] [] (Pos.mk 222 38 222 56)) [CmpOp.Eq] [Expr.BinOp (Expr.Call (Expr.Name (st "len") (Pos.mk 222 60 222 63)) [Expr.Subscript (Expr.Name (st "here") (Pos.mk 222 64 222 68)) (Expr.Constant (Const.str (st "written")) 0 (Pos.mk 222 69 222 78)) (Pos.mk 222 64 222 79)] [] (Pos.mk 222 60 222 80)) Operator.Add (Expr.Constant (Const.int 1) 0 (Pos.mk 222 83 222 84)) (Pos.mk 222 60 222 84)] (Pos.mk 222 38 222 84)] (Pos.mk 222 11 222 84))) (Pos.mk 222 4 222 84)]) (Scope.mk ScopeKind.function [(st "here", NameKind.local), (st "len", NameKind.globalImplicit)] false false []) 0 [] Value.none Value.none Value.none Value.none none Value.none Value.none 0)) #[]
noncomputable def x53 (P : Params) : Obj := Obj.mk Value.none none (Data.func (FuncData.mk (st "law") (st "law") (Arguments.mk [] [Arg.mk (st "script") none (Pos.mk 223 8 223 14)] none [] [] none []) (FuncBody.stmts [Stmt.Assign [Expr.Name (st "box") (Pos.mk 224 4 224 7)] (Expr.Call (Expr.Name (st "_law_box") (Pos.mk 224 10 224 18)) [Expr.Name (st "script") (Pos.mk 224 19 224 25), Expr.Constant (Const.int 61) 0 (Pos.mk 224 27 224 29)] [] (Pos.mk 224 10 224 30)) (Pos.mk 224 4 224 30), Stmt.Assign [Expr.Tuple [Expr.Name (st "part") (Pos.mk 225 4 225 8), Expr.Name (st "here") (Pos.mk 225 10 225 14)] 0 (Pos.mk 225 4 225 14)] (Expr.Tuple [Expr.Call (Expr.Name (st "SendPart") (Pos.mk 225 18 225 26)) [Expr.Call (Expr.Name (st "_law_take") (Pos.mk 225 27 225 36)) [Expr.Name (st "box") (Pos.mk 225 37 225 40), Expr.Constant (Const.int 20) 0 (Pos.mk 225 42 225 44)] [] (Pos.mk 225 27 225 45)] [] (Pos.mk 225 18 225 46), Expr.Dict [some (Expr.Constant (Const.str (st "written")) 0 (Pos.mk 225 49 225 58)), some (Expr.Constant (Const.str (st "flying")) 0 (Pos.mk 225 65 225 73)), some (Expr.Constant (Const.str (st "known")) 0 (Pos.mk 225 79 225 86)), some (Expr.Constant (Const.str (st "again")) 0 (Pos.mk 225 92 225 99))] [Expr.Constant (Const.bytes []) 0 (Pos.mk 225 60 225 63), Expr.List [] (Pos.mk 225 75 225 77), Expr.Dict [] [] (Pos.mk 225 88 225 90), Expr.Dict [] [] (Pos.mk 225 101 225 103)] (Pos.mk 225 48 225 104)] 0 (Pos.mk 225 17 225 105)) (Pos.mk 225 4 225 105), Stmt.For (Expr.Name (st "turn") (Pos.mk 226 8 226 12)) (Expr.Call (Expr.Name (st "range") (Pos.mk 226 16 226 21)) [Expr.BinOp (Expr.Constant (Const.int 8) 0 (Pos.mk 226 22 226 23)) Operator.Add (Expr.Call (Expr.Name (st "len") (Pos.mk 226 26 226 29)) [Expr.Subscript (Expr.Name (st "script") (Pos.mk 226 30 226 36)) (Expr.Slice none (some (Expr.Constant (Const.int 40) 0 (Pos.mk 226 38 226 40))) none (Pos.mk 226 37 226 40)) (Pos.mk 226 30 226 41)] [] (Pos.mk 226 26 226 42)) (Pos.mk 226 22 226 42)] [] (Pos.mk 226 16 226 43)) [Stmt.If (Expr.BoolOp BoolOp.Or [Expr.UnaryOp UnaryOp.Not (Expr.Call (Expr.Name (st "_law_step") (Pos.mk 227 15 227 24)) [Expr.Name (st "box") (Pos.mk 227 25 227 28), Expr.Name (st "part") (Pos.mk 227 30 227 34), Expr.Name (st "here") (Pos.mk 227 36 227 40)] [] (Pos.mk 227 15 227 41)) (Pos.mk 227 11 227 41), Expr.UnaryOp UnaryOp.Not (Expr.Call (Expr.Name (st "_law_is_blocked") (Pos.mk 227 49 227 64)) [Expr.Name (st "part") (Pos.mk 227 65 227 69), Expr.Subscript (Expr.Name (st "here") (Pos.mk 227 71 227 75)) (Expr.Constant (Const.str (st "written")) 0 (Pos.mk 227 76 227 85)) (Pos.mk 227 71 227 86)] [] (Pos.mk 227 49 227 87)) (Pos.mk 227 45 227 87)] (Pos.mk 227 11 227 87)) [Stmt.Return (some (Expr.Constant (Const.bool false) 0 (Pos.mk 228 19 228 24))) (Pos.mk 228 12 228 24)] [] (Pos.mk 227 8 228 24), Stmt.If (Expr.Compare (Expr.Call (Expr.Attribute (Expr.Name (st "part") (Pos.mk 229 11 229 15)) (st "is_over") (Pos.mk 229 11 229 23)) [] [] (Pos.mk 229 11 229 25)) [CmpOp.NotEq] [Expr.Call (Expr.Name (st "_law_is_all") (Pos.mk 229 29 229 40)) [Expr.Name (st "here") (Pos.mk 229 41 229 45)] [] (Pos.mk 229 29 229 46)] (Pos.mk 229 11 229 46)) [Stmt.Return (some (Expr.Constant (Const.bool false) 0 (Pos.mk 230 19 230 24))) (Pos.mk 230 12 230 24)] [] (Pos.mk 229 8 230 24), Stmt.If (Expr.Call (Expr.Attribute (Expr.Name (st "part") (Pos.mk 231 11 231 15)) (st "is_over") (Pos.mk 231 11 231 23)) [] [] (Pos.mk 231 11 231 25)) [Stmt.Return (some (Expr.BoolOp BoolOp.And [Expr.UnaryOp UnaryOp.Not (Expr.Call (Expr.Attribute (Expr.Name (st "part") (Pos.mk 232 23 232 27)) (st "has_to_send") (Pos.mk 232 23 232 39)) [Expr.Constant Const.none 0 (Pos.mk 232 40 232 44)] [] (Pos.mk 232 23 232 45)) (Pos.mk 232 19 232 45), Expr.Compare (Expr.Call (Expr.Attribute (Expr.Name (st "part") (Pos.mk 232 50 232 54)) (st "next_chunk") (Pos.mk 232 50 232 65)) [Expr.Constant (Const.int 9) 0 (Pos.mk 232 66 232 67), Expr.Constant Const.none 0 (Pos.mk 232 69 232 73)] [] (Pos.mk 232 50 232 74)) [CmpOp.Is] [Expr.Constant Const.none 0 (Pos.mk 232 78 232 82)] (Pos.mk 232 50 232 82)] (Pos.mk 232 19 232 82))) (Pos.mk 232 12 232 82)] [] (Pos.mk 231 8 232 82)] [] (Pos.mk 226 4 232 82), Stmt.Expr (Expr.Call (Expr.Attribute (Expr.Name (st "part") (Pos.mk 233 4 233 8)) (st "raise_limit") (Pos.mk 233 4 233 20)) [Expr.Constant (Const.int 500) 0 (Pos.mk 233 21 233 24)] [] (Pos.mk 233 4 233 25)) (Pos.mk 233 4 233 25), Stmt.If (Expr.UnaryOp UnaryOp.Not (Expr.Attribute (Expr.Name (st "part") (Pos.mk 234 11 234 15)) (st "is_finished") (Pos.mk 234 11 234 27)) (Pos.mk 234 7 234 27)) [Stmt.Expr (Expr.Call (Expr.Attribute (Expr.Name (st "part") (Pos.mk 235 8 235 12)) (st "finish") (Pos.mk 235 8 235 19)) [] [] (Pos.mk 235 8 235 21)) (Pos.mk 235 8 235 21)] [] (Pos.mk 234 4 235 21), Stmt.While (Expr.Call (Expr.Attribute (Expr.Name (st "part") (Pos.mk 236 10 236 14)) (st "has_to_send") (Pos.mk 236 10 236 26)) [Expr.Constant Const.none 0 (Pos.mk 236 27 236 31)] [] (Pos.mk 236 10 236 32)) [Stmt.If (Expr.UnaryOp UnaryOp.Not (Expr.Call (Expr.Name (st "_law_chunk") (Pos.mk 237 15 237 25)) [Expr.Name (st "box") (Pos.mk 237 26 237 29), Expr.Name (st "part") (Pos.mk 237 31 237 35), Expr.Name (st "here") (Pos.mk 237 37 237 41), Expr.Constant (Const.bool true) 0 (Pos.mk 237 43 237 47)] [] (Pos.mk 237 15 237 48)) (Pos.mk 237 11 237 48)) [Stmt.Return (some (Expr.Constant (Const.bool false) 0 (Pos.mk 238 19 238 24))) (Pos.mk 238 12 238 24)] [] (Pos.mk 237 8 238 24)] [] (Pos.mk 236 4 238 24), Stmt.For (Expr.Name (st "chunk") (Pos.mk 239 8 239 13)) (Expr.Subscript (Expr.Name (st "here") (Pos.mk 239 17 239 21)) (Expr.Constant (Const.str (st "flying")) 0 (Pos.mk 239 22 239 30)) (Pos.mk 239 17 239 31)) [Stmt.Expr (Expr.Call (Expr.Name (st "_law_acked") (Pos.mk 240 8 240 18)) [Expr.Name (st "part") (Pos.mk 240 19 240 23), Expr.Name (st "here") (Pos.mk 240 25 240 29), Expr.Name (st "chunk") (Pos.mk 240 31 240 36)] [] (Pos.mk 240 8 240 37)) (Pos.mk 240 8 240 37)] [] (Pos.mk 239 4 240 37), Stmt.Return (some (Expr.BoolOp BoolOp.And [Expr.Call (Expr.Name (st "_law_is_all") (Pos.mk 241 11 241 22)) [Expr.Name (st "here") (Pos.mk 241 23 241 27)] [] (Pos.mk 241 11 241 28), Expr.Call (Expr.Attribute (Expr.Name (st "part") (Pos.mk 241 33 241 37)) (st "is_over") (Pos.mk 241 33 241 45)) [] [] (Pos.mk 241 33 241 47), Expr.Compare (Expr.Attribute (Expr.Name (st "part") (Pos.mk 241 53 241 57)) (st "state") (Pos.mk 241 53 241 63)) [CmpOp.Eq] [Expr.Constant (Const.str (st "data_recvd")) 0 (Pos.mk 241 67 241 79)] (Pos.mk 241 53 241 79)] (Pos.mk 241 11 241 80))) (Pos.mk 241 4 241 80)]) (Scope.mk ScopeKind.function [(st "script", NameKind.local), (st "box", NameKind.local), (st "part", NameKind.local), (st "here", NameKind.local), (st "turn", NameKind.local), (st "chunk", NameKind.local), (st "_law_box", NameKind.globalImplicit), (st "SendPart", NameKind.globalImplicit), (st "_law_take", NameKind.globalImplicit), (st "range", NameKind.globalImplicit), (st "len", NameKind.globalImplicit), (st "_law_step", NameKind.globalImplicit), (st "_law_is_blocked", NameKind.globalImplicit), (st "_law_is_all", NameKind.globalImplicit), (st "_law_chunk", NameKind.globalImplicit), (st "_law_acked", NameKind.globalImplicit)] false false []) 0 [] Value.none Value.none Value.none Value.none none Value.none Value.none 0)) #[]
noncomputable def blockL (P : Params) : List Obj := [boot_o_0 P, boot_o_1 P, boot_o_2 P, boot_o_3 P, boot_o_4 P, boot_o_5 P, boot_o_6 P, boot_o_7 P, boot_o_8 P, boot_o_9 P, boot_o_10 P, x0 P, x1 P, x2 P, x3 P]
noncomputable def s16L (P : Params) : List Obj := [boot_o_0 P, boot_o_1 P, ko P 2, x4 P, boot_o_4 P, boot_o_5 P, boot_o_6 P, boot_o_7 P, boot_o_8 P, boot_o_9 P, boot_o_10 P, x0 P, x5 P, x2 P, x3 P, ko P 15, x1 P, ko P 17, ko P 18, x6 P, ko P 20, ko P 21, ko P 22, x7 P, x8 P, x0 P, x9 P, x10 P, x11 P, ko P 29, x1 P, ko P 31, ko P 32, x12 P, ko P 34, ko P 35, ko P 36, ko P 37, ko P 38, ko P 39, x13 P, x14 P, ko P 42, x1 P, ko P 44, ko P 45, x15 P, ko P 47, ko P 48, ko P 49, x1 P, ko P 51, ko P 52, x16 P, ko P 54, ko P 55, ko P 56, x1 P, ko P 58, ko P 59, x17 P, ko P 61, ko P 62, ko P 63, x1 P, ko P 65, ko P 66, x18 P, ko P 68, ko P 69, ko P 70, x1 P, ko P 72, ko P 73, x19 P, ko P 75, ko P 76, ko P 77]
noncomputable def s17L (P : Params) : List Obj := [boot_o_0 P, boot_o_1 P, ko P 2, x20 P, boot_o_4 P, boot_o_5 P, boot_o_6 P, boot_o_7 P, boot_o_8 P, boot_o_9 P, boot_o_10 P, x0 P, x21 P, x2 P, x3 P, ko P 15, x1 P, ko P 17, ko P 18, x6 P, ko P 20, ko P 21, ko P 22, x7 P, x8 P, x0 P, x9 P, x10 P, x11 P, ko P 29, x1 P, ko P 31, ko P 32, x12 P, ko P 34, ko P 35, ko P 36, ko P 37, ko P 38, ko P 39, x13 P, x14 P, ko P 42, x1 P, ko P 44, ko P 45, x15 P, ko P 47, ko P 48, ko P 49, x1 P, ko P 51, ko P 52, x16 P, ko P 54, ko P 55, ko P 56, x1 P, ko P 58, ko P 59, x17 P, ko P 61, ko P 62, ko P 63, x1 P, ko P 65, ko P 66, x18 P, ko P 68, ko P 69, ko P 70, x1 P, ko P 72, ko P 73, x19 P, ko P 75, ko P 76, ko P 77, x0 P, x7 P, x22 P, x0 P, x23 P, x24 P, x25 P, ko P 85, x1 P, ko P 87, ko P 88, x26 P, ko P 90, ko P 91, ko P 92, x1 P, ko P 94, ko P 95, x27 P, ko P 97, ko P 98, ko P 99, x1 P, ko P 101, ko P 102, x28 P, ko P 104, ko P 105, ko P 106, x1 P, ko P 108, ko P 109, x29 P, ko P 111, ko P 112, ko P 113, x1 P, ko P 115, ko P 116, x30 P, ko P 118, ko P 119, ko P 120, x1 P, ko P 122, ko P 123, x31 P, ko P 125, ko P 126, ko P 127, x1 P, ko P 129, ko P 130, x32 P, ko P 132, ko P 133, ko P 134, x1 P, ko P 136, ko P 137, x33 P, ko P 139, ko P 140, ko P 141, x1 P, ko P 143, ko P 144, x34 P, ko P 146, ko P 147, ko P 148, x1 P, ko P 150, ko P 151, x35 P, ko P 153, ko P 154, ko P 155, x1 P, ko P 157, ko P 158, x36 P, ko P 160, ko P 161, ko P 162, x1 P, ko P 164, ko P 165, x37 P, ko P 167, ko P 168, ko P 169, x1 P, ko P 171, ko P 172, x38 P, ko P 174, ko P 175, ko P 176, x1 P, ko P 178, ko P 179, x39 P, ko P 181, ko P 182, ko P 183, x1 P, ko P 185, ko P 186, x40 P, ko P 188, ko P 189, ko P 190, x1 P, ko P 192, ko P 193, x41 P, ko P 195, ko P 196, ko P 197, ko P 198, ko P 199, ko P 200, ko P 201, x42 P, x43 P]
noncomputable def s27L (P : Params) : List Obj := [boot_o_0 P, boot_o_1 P, ko P 2, ko P 3, boot_o_4 P, boot_o_5 P, boot_o_6 P, boot_o_7 P, boot_o_8 P, boot_o_9 P, boot_o_10 P, x0 P, x44 P, x2 P, x3 P, ko P 15, x1 P, ko P 17, ko P 18, x6 P, ko P 20, ko P 21, ko P 22, x7 P, x8 P, x0 P, x9 P, x10 P, x11 P, ko P 29, x1 P, ko P 31, ko P 32, x12 P, ko P 34, ko P 35, ko P 36, ko P 37, ko P 38, ko P 39, x13 P, x14 P, ko P 42, x1 P, ko P 44, ko P 45, x15 P, ko P 47, ko P 48, ko P 49, x1 P, ko P 51, ko P 52, x16 P, ko P 54, ko P 55, ko P 56, x1 P, ko P 58, ko P 59, x17 P, ko P 61, ko P 62, ko P 63, x1 P, ko P 65, ko P 66, x18 P, ko P 68, ko P 69, ko P 70, x1 P, ko P 72, ko P 73, x19 P, ko P 75, ko P 76, ko P 77, x0 P, x7 P, x22 P, x0 P, x23 P, x24 P, x25 P, ko P 85, x1 P, ko P 87, ko P 88, x26 P, ko P 90, ko P 91, ko P 92, x1 P, ko P 94, ko P 95, x27 P, ko P 97, ko P 98, ko P 99, x1 P, ko P 101, ko P 102, x28 P, ko P 104, ko P 105, ko P 106, x1 P, ko P 108, ko P 109, x29 P, ko P 111, ko P 112, ko P 113, x1 P, ko P 115, ko P 116, x30 P, ko P 118, ko P 119, ko P 120, x1 P, ko P 122, ko P 123, x31 P, ko P 125, ko P 126, ko P 127, x1 P, ko P 129, ko P 130, x32 P, ko P 132, ko P 133, ko P 134, x1 P, ko P 136, ko P 137, x33 P, ko P 139, ko P 140, ko P 141, x1 P, ko P 143, ko P 144, x34 P, ko P 146, ko P 147, ko P 148, x1 P, ko P 150, ko P 151, x35 P, ko P 153, ko P 154, ko P 155, x1 P, ko P 157, ko P 158, x36 P, ko P 160, ko P 161, ko P 162, x1 P, ko P 164, ko P 165, x37 P, ko P 167, ko P 168, ko P 169, x1 P, ko P 171, ko P 172, x38 P, ko P 174, ko P 175, ko P 176, x1 P, ko P 178, ko P 179, x39 P, ko P 181, ko P 182, ko P 183, x1 P, ko P 185, ko P 186, x40 P, ko P 188, ko P 189, ko P 190, x1 P, ko P 192, ko P 193, x41 P, ko P 195, ko P 196, ko P 197, ko P 198, ko P 199, ko P 200, ko P 201, x42 P, x43 P, ko P 204, x1 P, ko P 206, ko P 207, x45 P, ko P 209, ko P 210, ko P 211, x1 P, ko P 213, ko P 214, x46 P, ko P 216, ko P 217, ko P 218, x1 P, x47 P, ko P 221, ko P 222, ko P 223, x1 P, ko P 225, ko P 226, x48 P, ko P 228, ko P 229, ko P 230, x1 P, ko P 232, ko P 233, x49 P, ko P 235, ko P 236, ko P 237, x1 P, x50 P, ko P 240, ko P 241, ko P 242, x1 P, ko P 244, ko P 245, x51 P, ko P 247, ko P 248, ko P 249, x1 P, ko P 251, ko P 252, x52 P, ko P 254, ko P 255, ko P 256, x1 P, ko P 258, ko P 259, x53 P, ko P 261, ko P 262]
noncomputable def insAll : BT → Nat → List Obj → BT
  | t, _, [] => t
  | t, n, o :: r => insAll (t.ins n o) (n + 1) r
noncomputable def lf : Life := Life.mk [] [] [] 0 [] [] false #[] [] 0 false false false 0 [2000, 10, 10] false 0 true [] [] 0 false
noncomputable def dr : Drawn := Drawn.mk 0 0 0 0
noncomputable def stT (l : Params → List Obj) (n k : Nat) (w : World) (os : OsState) : SharedT := ⟨insAll .nil 0 (l w.params), n, lf, #[], dr, k, os⟩
noncomputable def prg : Program := Challenge.rw_no0075_01.row.prog
noncomputable def bE : List Stmt := behindTheImports prg
noncomputable def envE : Env := { scope := prg.main.scope, locals := mainNs, globals := mainNs, cells := [], code := .ref 13, frame := some 14 }
noncomputable def cE : Code := .body bE envE
noncomputable def sA : List Stmt := bE.take 17
noncomputable def sB : List Stmt := (bE.drop 17).take 1
noncomputable def sC : List Stmt := (bE.drop 17).drop 1
theorem bE_is : bE = sA ++ (sB ++ (sC ++ [])) := by
  unfold sA sB sC
  rw [List.append_nil, List.take_append_drop, List.take_append_drop]
abbrev p0 : Pos := Pos.mk 0 0 0 0
abbrev p1 : Pos := Pos.mk 60 0 60 11
abbrev p2 : Pos := Pos.mk 61 0 157 60
abbrev p3 : Pos := Pos.mk 223 0 241 80
abbrev an : Option Value := some (.ref 6)
theorem rest_is {p : Program} {w : World} {n₀ N : Nat} {ann : Option Value} {s r : Shared} {b l : List Stmt} {env : Env} {c : Code} {pos : Pos} {B : List Frame} (e : b = l) (k : topRun treeTable p w n₀ ann N s (restOf l env c pos B) = some r) : topRun treeTable p w n₀ ann N s (restOf b env c pos B) = some r := by
  subst e
  exact k
noncomputable def HE (P : Params) : Heap := absHeap (insAll .nil 0 (s27L P)) 263 lf
theorem r0 : ∀ (w : World) (os : OsState), topGo treeTable prg w 11 an 12 ⟨boot_heap w.params, #[], boot_drawn, boot_toks, os⟩ (topStub prg) = some ((stT blockL 15 187 w os).abs, ⟨denote treeTable cE, cE, p0, [topFrame p0]⟩) := fun w os => by kernel_rfl
theorem r1 : ∀ (w : World) (os : OsState), segRun treeTable prg w 11 an 1 1 (stT blockL 15 187 w os).abs (blockOf bE envE cE p0 [topFrame p0]) = some (.next, (stT blockL 15 187 w os).abs, cE, p0) := fun w os => by kernel_rfl
theorem rA : ∀ (w : World) (os : OsState), segRunT treeTable prg w 11 an 1 524 (stT blockL 15 187 w os) (piecesOf sA envE cE p0 [topFrame p0]) = some (.next, stT s16L 78 303 w os, cE, p1) := fun w os => by kernel_rfl
theorem rB : ∀ (w : World) (os : OsState), segRunT treeTable prg w 11 an 1 721 (stT s16L 78 303 w os) (piecesOf sB envE cE p1 [topFrame p0]) = some (.next, stT s17L 204 470 w os, cE, p2) := fun w os => by kernel_rfl
theorem rC : ∀ (w : World) (os : OsState), segRunT treeTable prg w 11 an 1 287 (stT s17L 204 470 w os) (piecesOf sC envE cE p2 [topFrame p0]) = some (.next, stT s27L 263 555 w os, cE, p3) := fun w os => by kernel_rfl
theorem r4 : ∀ (w : World) (os : OsState), topRun treeTable prg w 11 an 2 (stT s27L 263 555 w os).abs ⟨doneF .next, cE, p3, [topFrame p0]⟩ = some ⟨HE w.params, #[], dr, 555, os⟩ := fun w os => by kernel_rfl
theorem rAll (w : World) (os : OsState) : topRun treeTable prg w 11 an (12 + (1 + (524 + (721 + (287 + 2))))) ⟨boot_heap w.params, #[], boot_drawn, boot_toks, os⟩ (topStub prg) = some ⟨HE w.params, #[], dr, 555, os⟩ :=
  go_top (r0 w os) (piece_block (b := bE) (env := envE) (q := p0) (r1 w os) (rest_is bE_is (piece_app (segRun_of (rA w os)) (piece_app (segRun_of (rB w os)) (piece_app (segRun_of (rC w os)) (piece_nil (r4 w os)))))))
theorem boot0 : opening prg = plainProg prg.main.scope.names := by kernel_rfl
theorem fence0 : ∀ s, fenceModules? prg s = some s := fun _ => by kernel_rfl
theorem size0 : ∀ w : World, ((boot_heap w.params).isNs mainGlobals && (#[] : Array GenState).size == 0, (boot_heap w.params).objs.size, (boot_heap w.params).nsMap mainGlobals "__annotations__") = (true, 11, an) := fun w => by kernel_rfl
theorem looks : ∀ w : World, (fun os => ((staticsOk (importedModules prg.main.body) (boot_heap w.params) (HE w.params) && namesBound prg (HE w.params) && gensDone ⟨HE w.params, #[], dr, 555, os⟩ && laidKept (boot_heap w.params) (HE w.params)),
    openSeen view_39 loose (importedModules prg.main.body) (fun s => xlAt view_39 lv s && recOk (RowW.records Challenge.rw_no0075_01.row.toRowW) s) true ⟨HE w.params, #[], dr, 555, os⟩, Hook.obs (kHook heap_39 adr adr_ok) ⟨HE w.params, #[], dr, 555, os⟩)) = fun _ => (true, openGood view_39 loose, Hook.val (kHook heap_39 adr adr_ok) w) := fun w => by kernel_rfl
theorem left : LeftO Challenge.rw_no0075_01.row.prog view_39 loose (fun s => xlAt view_39 lv s && recOk (RowW.records Challenge.rw_no0075_01.row.toRowW) s) (Hook.obs (kHook heap_39 adr adr_ok)) (Hook.val (kHook heap_39 adr adr_ok)) 3184 :=
  LeftO.of_pieces (p := prg) (q := view_39) (loose := loose) (Yf := Hook.obs (kHook heap_39 adr adr_ok)) (Ya := Hook.val (kHook heap_39 adr adr_ok)) (N := 3184) (g0 := true) (H₀ := boot_heap) (H₁ := HE) (gs₀ := #[]) (gs₁ := #[]) (d₀ := boot_drawn) (d₁ := dr) (k₀ := boot_toks) (k₁ := 555) (m₀ := 11) (ann := an) (M := 12 + (1 + (524 + (721 + (287 + 2))))) (boot_open boot0 (by decide) fence0) size0 rAll (by decide) looks
end NH.hd
namespace NS
/-! the spans' functions, plain -/
abbrev Sp := List (Int × Int)
abbrev AddSt := Sp × Bool × Int × Int
def addStep (s : AddSt) (p : Int × Int) : AddSt :=
  if p.2 < s.2.2.1 then (s.1 ++ [p], s.2.1, s.2.2)
  else if s.2.2.2 < p.1 then (if s.2.1 then (s.1 ++ [p], s.2) else (s.1 ++ [(s.2.2.1, s.2.2.2), p], true, s.2.2))
  else (s.1, s.2.1, min s.2.2.1 p.1, max s.2.2.2 p.2)
def addEnd (s : AddSt) : Sp := if s.2.1 then s.1 else s.1 ++ [(s.2.2.1, s.2.2.2)]
def addSpan (ps : Sp) (lo hi : Int) : Sp :=
  if hi ≤ lo then ps else addEnd (ps.foldl addStep ([], false, lo, hi))
def cutOne (lo hi : Int) (p : Int × Int) : Sp :=
  (if p.1 < min p.2 lo then [(p.1, min p.2 lo)] else []) ++ (if max p.1 hi < p.2 then [(max p.1 hi, p.2)] else [])
def cutSpan (ps : Sp) (lo hi : Int) : Sp := if lo < hi then ps.flatMap (cutOne lo hi) else ps
def hasSpan (ps : Sp) (lo hi : Int) : Bool := if hi ≤ lo then true else ps.any fun p => decide (p.1 ≤ lo ∧ hi ≤ p.2)
def firstSpan (ps : Sp) (most : Int) : Option (Int × Int) :=
  match ps with
  | [] => none
  | p :: _ => if most ≤ 0 then none else some (p.1, min p.2 (p.1 + most))
def withoutSpans (ps qs : Sp) : Sp := qs.foldl (fun f p => cutSpan f p.1 p.2) ps
theorem min_is (a b : Int) : (if b < a then b else a) = min a b := by
  split <;> omega
theorem max_is (a b : Int) : (if b > a then b else a) = max a b := by
  split <;> omega
/-! the part, plain -/
inductive St where
  | ready | send | sent | recvd
deriving DecidableEq
structure PS where
  lim : Int
  st : St
  W : Array UInt8
  se : Int
  A : Sp
  B : Sp
  fin : Bool
  ow : Bool
  ea : Bool
def St.isOpen : St → Bool
  | .ready => true
  | .send => true
  | _ => false
def PS.n (p : PS) : Int := (p.W.size : Int)
def newRoom (p : PS) (mn : Option Int) : Int :=
  if p.st.isOpen then max 0 (match mn with | none => min p.n p.lim - p.se | some k => min (min p.n p.lim - p.se) k) else 0
def hasToSend (p : PS) (mn : Option Int) : Bool := decide (p.B ≠ []) || decide (newRoom p mn > 0) || (p.ow && decide (p.se = p.n))
def chunkSpan (p : PS) (most : Int) (mn : Option Int) : Int × Int :=
  match firstSpan p.B most with
  | some q => q
  | none => (p.se, p.se + max 0 (min most (newRoom p mn)))
def chunkEnd (p : PS) (lo hi : Int) : Bool := p.fin && decide (hi = p.n) && (p.ow || decide (lo < hi))
def nextPS (p : PS) (lo hi : Int) (e : Bool) : PS :=
  { p with B := cutSpan p.B lo hi, se := max p.se hi, ow := (if e then false else p.ow), st := (if e || decide (p.st = .sent) then .sent else .send) }
def ackPS (p : PS) (off sz : Int) (e : Bool) : PS :=
  { p with A := addSpan p.A off (off + sz), B := cutSpan p.B off (off + sz), ea := e || p.ea, ow := (if e then false else p.ow), st := (if p.st = .sent ∧ (e || p.ea) = true ∧ hasSpan (addSpan p.A off (off + sz)) 0 p.n = true then .recvd else p.st) }
theorem ack_recvd {p : PS} {off sz : Int} {e : Bool} (h1 : p.st = .sent) (h2 : (e || p.ea) = true) (h3 : hasSpan (addSpan p.A off (off + sz)) 0 p.n = true) : (ackPS p off sz e).st = .recvd := if_pos ⟨h1, h2, h3⟩
theorem ack_st1 {p : PS} {off sz : Int} {e : Bool} (h : p.st ≠ .sent) : (ackPS p off sz e).st = p.st := if_neg fun k => h k.1
theorem ack_st2 {p : PS} {off sz : Int} {e : Bool} (h : (e || p.ea) = false) : (ackPS p off sz e).st = p.st := if_neg fun k => by rw [h] at k; exact Bool.false_ne_true k.2.1
theorem ack_st3 {p : PS} {off sz : Int} {e : Bool} (h : hasSpan (addSpan p.A off (off + sz)) 0 p.n = false) : (ackPS p off sz e).st = p.st := if_neg fun k => by rw [h] at k; exact Bool.false_ne_true k.2.2
def lostSpans (p : PS) (off sz : Int) : Sp := withoutSpans (if sz > 0 then [(off, off + sz)] else []) p.A
def addAll (b : Sp) (ls : Sp) : Sp := ls.foldl (fun b q => addSpan b q.1 q.2) b
def lostPS (p : PS) (off sz : Int) (e : Bool) : PS := { p with B := addAll p.B (lostSpans p off sz), ow := if e && !p.ea then true else p.ow }
theorem lost_ow1 {p : PS} {off sz : Int} {e : Bool} (h : p.ea = true) : (lostPS p off sz e).ow = p.ow := by simp [lostPS, h]
theorem lost_ow2 {p : PS} {off sz : Int} {e : Bool} (h : e = true) (h' : p.ea = false) : (lostPS p off sz e).ow = true := by simp [lostPS, h, h']
theorem lost_ow3 {p : PS} {off sz : Int} {e : Bool} (h : e = false) : (lostPS p off sz e).ow = p.ow := by simp [lostPS, h]
/-! keys of the law's dicts, plain -/
inductive KeyP (σ : Type) where
  | inl (i : Int)
  | inr (x : σ)
deriving DecidableEq
section
variable {σ : Type} [DecidableEq σ]
def keyPut (ks : List (KeyP σ)) (k : KeyP σ) : List (KeyP σ) := if k ∈ ks then ks else ks ++ [k]
def keyDel (ks : List (KeyP σ)) (k : KeyP σ) : List (KeyP σ) := ks.filter fun x => decide (x ≠ k)
theorem mem_keyPut {ks : List (KeyP σ)} {k x : KeyP σ} : x ∈ keyPut ks k ↔ x ∈ ks ∨ x = k := by
  unfold keyPut
  split
  · rename_i h
    constructor
    · exact .inl
    · rintro (h1 | rfl); exact h1; exact h
  · simp
theorem mem_keyDel {ks : List (KeyP σ)} {k x : KeyP σ} : x ∈ keyDel ks k ↔ x ∈ ks ∧ x ≠ k := by simp [keyDel]
theorem nodup_keyPut {ks : List (KeyP σ)} (h : ks.Nodup) (k : KeyP σ) : (keyPut ks k).Nodup := by
  unfold keyPut
  split
  · exact h
  · rename_i hk
    rw [List.nodup_append]
    refine ⟨h, by simp, ?_⟩
    intro a ha b hb e
    simp only [List.mem_singleton] at hb
    subst hb; subst e; exact hk ha
theorem nodup_keyDel {ks : List (KeyP σ)} (h : ks.Nodup) (k : KeyP σ) : (keyDel ks k).Nodup := h.sublist List.filter_sublist
/-- a row of ints from a on -/
def rowI (a : Int) (n : Nat) : List Int := (List.range n).map fun (j : Nat) => a + (j : Int)
theorem rowI_length (a : Int) (n : Nat) : (rowI a n).length = n := by simp [rowI]
theorem mem_rowI {a : Int} {n : Nat} {i : Int} : i ∈ rowI a n ↔ a ≤ i ∧ i < a + (n : Int) := by
  simp only [rowI, List.mem_map, List.mem_range]
  constructor
  · rintro ⟨j, hj, rfl⟩; omega
  · intro h; exact ⟨(i - a).toNat, by omega, by omega⟩
theorem rowI_get {a : Int} {n i : Nat} (h : i < n) : (rowI a n)[i]? = some (a + (i : Int)) := by simp [rowI, h]
def putAll (ks : List (KeyP σ)) (is : List Int) : List (KeyP σ) := is.foldl (fun ks i => keyPut ks (.inl i)) ks
def delAll (ks : List (KeyP σ)) (is : List Int) : List (KeyP σ) := is.foldl (fun ks i => keyDel ks (.inl i)) ks
/-- puts those that are not known -/
def putNew (kn ks : List (KeyP σ)) (is : List Int) : List (KeyP σ) := is.foldl (fun ks i => if (KeyP.inl i : KeyP σ) ∈ kn then ks else keyPut ks (.inl i)) ks
theorem mem_putAll {is : List Int} : ∀ {ks : List (KeyP σ)} {x : KeyP σ}, x ∈ putAll ks is ↔ x ∈ ks ∨ ∃ i ∈ is, x = .inl i := by
  induction is with
  | nil => intro ks x; simp [putAll]
  | cons a r ih =>
    intro ks x
    show x ∈ putAll (keyPut ks (.inl a)) r ↔ _
    rw [ih, mem_keyPut]
    simp only [List.mem_cons, exists_eq_or_imp, or_assoc]
theorem mem_delAll {is : List Int} : ∀ {ks : List (KeyP σ)} {x : KeyP σ}, x ∈ delAll ks is ↔ x ∈ ks ∧ ∀ i ∈ is, x ≠ .inl i := by
  induction is with
  | nil => intro ks x; simp [delAll]
  | cons a r ih =>
    intro ks x
    show x ∈ delAll (keyDel ks (.inl a)) r ↔ _
    rw [ih, mem_keyDel]
    simp only [List.mem_cons, forall_eq_or_imp, and_assoc]
theorem mem_putNew {kn : List (KeyP σ)} {is : List Int} : ∀ {ks : List (KeyP σ)} {x : KeyP σ}, x ∈ putNew kn ks is ↔ x ∈ ks ∨ (x ∉ kn ∧ ∃ i ∈ is, x = .inl i) := by
  induction is with
  | nil => intro ks x; simp [putNew]
  | cons a r ih =>
    intro ks x
    show x ∈ putNew kn (if (KeyP.inl a : KeyP σ) ∈ kn then ks else keyPut ks (.inl a)) r ↔ _
    rw [ih]
    by_cases h : (KeyP.inl a : KeyP σ) ∈ kn
    · rw [if_pos h]
      simp only [List.mem_cons, exists_eq_or_imp]
      constructor
      · rintro (h1 | ⟨h1, h2⟩); exact .inl h1; exact .inr ⟨h1, .inr h2⟩
      · rintro (h1 | ⟨h1, h2 | h2⟩)
        · exact .inl h1
        · subst h2; exact absurd h h1
        · exact .inr ⟨h1, h2⟩
    · rw [if_neg h, mem_keyPut]
      simp only [List.mem_cons, exists_eq_or_imp]
      constructor
      · rintro ((h1 | h1) | ⟨h1, h2⟩)
        · exact .inl h1
        · subst h1; exact .inr ⟨h, .inl rfl⟩
        · exact .inr ⟨h1, .inr h2⟩
      · rintro (h1 | ⟨h1, h2 | h2⟩)
        · exact .inl (.inl h1)
        · exact .inl (.inr h2)
        · exact .inr ⟨h1, h2⟩
theorem nodup_putAll {is : List Int} : ∀ {ks : List (KeyP σ)}, ks.Nodup → (putAll ks is).Nodup := by
  induction is with
  | nil => intro ks h; exact h
  | cons a r ih => intro ks h; exact ih (nodup_keyPut h _)
theorem nodup_delAll {is : List Int} : ∀ {ks : List (KeyP σ)}, ks.Nodup → (delAll ks is).Nodup := by
  induction is with
  | nil => intro ks h; exact h
  | cons a r ih => intro ks h; exact ih (nodup_keyDel h _)
theorem nodup_putNew {kn : List (KeyP σ)} {is : List Int} : ∀ {ks : List (KeyP σ)}, ks.Nodup → (putNew kn ks is).Nodup := by
  induction is with
  | nil => intro ks h; exact h
  | cons a r ih =>
    intro ks h
    show (putNew kn (if (KeyP.inl a : KeyP σ) ∈ kn then ks else keyPut ks (.inl a)) r).Nodup
    split
    · exact ih h
    · exact ih (nodup_keyPut h _)
end
/-! spans: kept in order, apart, none empty -/
def memS (i : Int) (ps : Sp) : Prop := ∃ p ∈ ps, p.1 ≤ i ∧ i < p.2
def NormFrom : Int → Sp → Prop
  | _, [] => True
  | a, p :: r => a < p.1 ∧ p.1 < p.2 ∧ NormFrom p.2 r
theorem memS_nil {i : Int} : ¬ memS i [] := fun ⟨_, h, _⟩ => nomatch h
theorem memS_cons {i : Int} {p : Int × Int} {r : Sp} : memS i (p :: r) ↔ (p.1 ≤ i ∧ i < p.2) ∨ memS i r := by
  unfold memS
  simp only [List.mem_cons, exists_eq_or_imp]
theorem memS_app {i : Int} {a b : Sp} : memS i (a ++ b) ↔ memS i a ∨ memS i b := by
  unfold memS
  simp only [List.mem_append]
  constructor
  · rintro ⟨p, h | h, k⟩; exact .inl ⟨p, h, k⟩; exact .inr ⟨p, h, k⟩
  · rintro (⟨p, h, k⟩ | ⟨p, h, k⟩); exact ⟨p, .inl h, k⟩; exact ⟨p, .inr h, k⟩
theorem NormFrom.weaken {a b : Int} {ps : Sp} (h : NormFrom b ps) (k : a ≤ b) : NormFrom a ps := by
  cases ps with
  | nil => trivial
  | cons p r => exact ⟨Int.lt_of_le_of_lt k h.1, h.2⟩
theorem NormFrom.take {a : Int} {ps : Sp} (h : NormFrom a ps) (n : Nat) : NormFrom a (ps.take n) := by
  induction ps generalizing a n with
  | nil => simp; trivial
  | cons p r ih =>
    cases n with
    | zero => trivial
    | succ n => exact ⟨h.1, h.2.1, ih h.2.2 n⟩
theorem NormFrom.low {a i : Int} {ps : Sp} (h : NormFrom a ps) (k : memS i ps) : a < i := by
  induction ps generalizing a with
  | nil => exact absurd k memS_nil
  | cons p r ih =>
    have h1 := h.1; have h2 := h.2.1
    rcases memS_cons.mp k with k | k
    · omega
    · have := ih h.2.2 k; omega
theorem NormFrom.lt {a : Int} {ps : Sp} (h : NormFrom a ps) : ∀ p ∈ ps, a < p.1 ∧ p.1 < p.2 := by
  induction ps generalizing a with
  | nil => intro p hp; exact nomatch hp
  | cons q r ih =>
    intro p hp
    have h1 := h.1; have h2 := h.2.1
    rcases List.mem_cons.mp hp with rfl | hp
    · exact ⟨h1, h2⟩
    · have := ih h.2.2 p hp; exact ⟨by omega, this.2⟩
theorem NormFrom.gap {a : Int} {ps : Sp} (h : NormFrom a ps) : ∀ p ∈ ps, ∀ q ∈ ps, q.1 ≤ p.2 → p.2 < q.2 → False := by
  induction ps generalizing a with
  | nil => intro p hp; exact nomatch hp
  | cons z r ih =>
    intro p hp q hq h1 h2
    have z2 := h.2.1
    have z3 := h.2.2.lt
    rcases List.mem_cons.mp hp with e1 | hp1
    · rcases List.mem_cons.mp hq with e2 | hq1
      · subst e1; subst e2; omega
      · subst e1; have := (z3 q hq1).1; omega
    · rcases List.mem_cons.mp hq with e2 | hq1
      · subst e2; have h3 := z3 p hp1; omega
      · exact ih h.2.2 p hp1 q hq1 h1 h2
theorem NormFrom.length {a N : Int} {ps : Sp} (h : NormFrom a ps) (k : ∀ p ∈ ps, p.2 ≤ N) (ha : a ≤ N) : (ps.length : Int) ≤ N - a := by
  induction ps generalizing a with
  | nil => simp; omega
  | cons p r ih =>
    have h1 := h.1; have h2 := h.2.1
    have h3 := k p (.head _)
    have := ih h.2.2 (fun q hq => k q (.tail _ hq)) h3
    simp only [List.length_cons]
    omega
theorem NormFrom.top {a N : Int} {ps : Sp} (h : NormFrom a ps) (k : ∀ i, memS i ps → i < N) : ∀ p ∈ ps, p.2 ≤ N := fun p hp => by
  have h1 := (h.lt p hp).2
  have := k (p.2 - 1) ⟨p, hp, by omega, by omega⟩
  omega
theorem NormFrom.len {a N : Int} {ps : Sp} (h : NormFrom a ps) (k : ∀ i, memS i ps → i < N) (ha : a ≤ N) : (ps.length : Int) ≤ N - a := h.length (h.top k) ha
theorem NormFrom.nil_of {a : Int} {ps : Sp} (h : NormFrom a ps) (k : ∀ i, ¬ memS i ps) : ps = [] := by
  cases ps with
  | nil => rfl
  | cons p r => exact absurd (memS_cons.mpr (.inl ⟨Int.le_refl _, h.2.1⟩)) (k p.1)
/-! add -/
def addR (lo hi : Int) : Sp → Sp
  | [] => [(lo, hi)]
  | p :: r => if p.2 < lo then p :: addR lo hi r else if hi < p.1 then (lo, hi) :: p :: r else addR (min lo p.1) (max hi p.2) r
theorem addPut {lo hi a : Int} {ps : Sp} (h : NormFrom a ps) (ha : hi ≤ a) (hl : lo < hi) : ∀ found : Sp, ps.foldl addStep (found, true, lo, hi) = (found ++ ps, true, lo, hi) := by
  induction ps generalizing a with
  | nil => intro f; simp
  | cons p r ih =>
    intro f
    have h1 := h.1; have h2 := h.2.1
    rw [List.foldl_cons]
    have e : addStep (f, true, lo, hi) p = (f ++ [p], true, lo, hi) := by
      unfold addStep
      simp only
      rw [if_neg (by omega), if_pos (by omega), if_true]
    rw [e, ih h.2.2 (by omega), List.append_assoc, List.singleton_append]
theorem addFold {ps : Sp} : ∀ {lo hi a : Int}, NormFrom a ps → lo < hi → ∀ found : Sp, addEnd (ps.foldl addStep (found, false, lo, hi)) = found ++ addR lo hi ps := by
  induction ps with
  | nil => intro lo hi a _ _ f; simp [addEnd, addR]
  | cons p r ih =>
    intro lo hi a h hl f
    have h1 := h.1; have h2 := h.2.1
    rw [List.foldl_cons]
    unfold addR
    by_cases c1 : p.2 < lo
    · have e : addStep (f, false, lo, hi) p = (f ++ [p], false, lo, hi) := by
        unfold addStep; simp only; rw [if_pos c1]
      rw [e, ih h.2.2 hl, if_pos c1, List.append_assoc, List.singleton_append]
    · rw [if_neg c1]
      by_cases c2 : hi < p.1
      · have e : addStep (f, false, lo, hi) p = (f ++ [(lo, hi), p], true, lo, hi) := by
          unfold addStep; simp only; rw [if_neg c1, if_pos c2]; simp
        rw [e, addPut h.2.2 (by omega) hl, if_pos c2]
        simp [addEnd]
      · have e : addStep (f, false, lo, hi) p = (f, false, min lo p.1, max hi p.2) := by
          unfold addStep; simp only; rw [if_neg c1, if_neg c2]
        rw [e, ih h.2.2 (by omega), if_neg c2]
theorem addSpan_is {a lo hi : Int} {ps : Sp} (h : NormFrom a ps) (hl : lo < hi) : addSpan ps lo hi = addR lo hi ps := by
  unfold addSpan
  rw [if_neg (by omega), addFold h hl]
  rfl
theorem addR_norm {ps : Sp} : ∀ {a lo hi : Int}, NormFrom a ps → a < lo → lo < hi → NormFrom a (addR lo hi ps) := by
  induction ps with
  | nil => intro a lo hi _ h1 h2; exact ⟨h1, h2, trivial⟩
  | cons p r ih =>
    intro a lo hi h ha hl
    have h1 := h.1; have h2 := h.2.1
    unfold addR
    split
    · exact ⟨h1, h2, ih h.2.2 (by assumption) hl⟩
    · split
      · exact ⟨ha, hl, by assumption, h2, h.2.2⟩
      · exact ih (h.2.2.weaken (by omega)) (by omega) (by omega)
theorem addR_mem {i : Int} {ps : Sp} : ∀ {a lo hi : Int}, NormFrom a ps → lo < hi → (memS i (addR lo hi ps) ↔ memS i ps ∨ (lo ≤ i ∧ i < hi)) := by
  induction ps with
  | nil =>
    intro a lo hi _ _
    unfold addR
    rw [memS_cons]
    constructor
    · rintro (h | h); exact .inr h; exact absurd h memS_nil
    · rintro (h | h); exact absurd h memS_nil; exact .inl h
  | cons p r ih =>
    intro a lo hi h hl
    have h1 := h.1; have h2 := h.2.1
    unfold addR
    split
    · rw [memS_cons, memS_cons, ih h.2.2 hl, or_assoc]
    · split
      · rw [memS_cons, memS_cons, or_comm]
      · rw [ih h.2.2 (by omega), memS_cons]
        constructor
        · rintro (h3 | h3)
          · exact .inl (.inr h3)
          · by_cases h4 : p.1 ≤ i ∧ i < p.2
            · exact .inl (.inl h4)
            · exact .inr (by omega)
        · rintro ((h3 | h3) | h3)
          · exact .inr (by omega)
          · exact .inl h3
          · exact .inr (by omega)
theorem addSpan_norm {a lo hi : Int} {ps : Sp} (h : NormFrom a ps) (ha : a < lo) : NormFrom a (addSpan ps lo hi) := by
  by_cases hl : lo < hi
  · rw [addSpan_is h hl]; exact addR_norm h ha hl
  · unfold addSpan; rw [if_pos (by omega)]; exact h
theorem addSpan_mem {i a lo hi : Int} {ps : Sp} (h : NormFrom a ps) : memS i (addSpan ps lo hi) ↔ memS i ps ∨ (lo ≤ i ∧ i < hi) := by
  by_cases hl : lo < hi
  · rw [addSpan_is h hl]; exact addR_mem h hl
  · unfold addSpan; rw [if_pos (by omega)]
    constructor
    · exact .inl
    · rintro (h | h); exact h; omega
/-! cut -/
theorem cutOne_mem {i lo hi : Int} {p : Int × Int} : memS i (cutOne lo hi p) ↔ (p.1 ≤ i ∧ i < p.2) ∧ (i < lo ∨ hi ≤ i) := by
  unfold cutOne
  rw [memS_app]
  constructor
  · rintro (h | h)
    · split at h
      · rcases memS_cons.mp h with h | h; omega; exact absurd h memS_nil
      · exact absurd h memS_nil
    · split at h
      · rcases memS_cons.mp h with h | h; omega; exact absurd h memS_nil
      · exact absurd h memS_nil
  · rintro ⟨h1, h2 | h2⟩
    · refine .inl ?_
      rw [if_pos (by omega)]
      exact memS_cons.mpr (.inl (by omega))
    · refine .inr ?_
      rw [if_pos (by omega)]
      exact memS_cons.mpr (.inl (by omega))
theorem cutSpan_mem {i lo hi : Int} {ps : Sp} : memS i (cutSpan ps lo hi) ↔ memS i ps ∧ ¬ (lo ≤ i ∧ i < hi) := by
  unfold cutSpan
  split
  · induction ps with
    | nil => simp [memS]
    | cons p r ih =>
      rw [List.flatMap_cons, memS_app, cutOne_mem, memS_cons, ih]
      constructor
      · rintro (h | h)
        · exact ⟨.inl h.1, by omega⟩
        · exact ⟨.inr h.1, h.2⟩
      · rintro ⟨h | h, k⟩
        · exact .inl ⟨h, by omega⟩
        · exact .inr ⟨h, k⟩
  · constructor
    · intro h; exact ⟨h, by omega⟩
    · exact fun h => h.1
theorem cutOne_norm {a lo hi : Int} {p : Int × Int} {X : Sp} (h1 : a < p.1) (h2 : p.1 < p.2) (h3 : NormFrom p.2 X) (hl : lo < hi) : NormFrom a (cutOne lo hi p ++ X) := by
  unfold cutOne
  by_cases c1 : p.1 < min p.2 lo
  · rw [if_pos c1]
    by_cases c2 : max p.1 hi < p.2
    · rw [if_pos c2]
      exact ⟨h1, c1, (by show min p.2 lo < max p.1 hi; omega), c2, h3⟩
    · rw [if_neg c2]
      exact ⟨h1, c1, h3.weaken (by show min p.2 lo ≤ p.2; omega)⟩
  · rw [if_neg c1]
    by_cases c2 : max p.1 hi < p.2
    · rw [if_pos c2]
      exact ⟨(by show a < max p.1 hi; omega), c2, h3⟩
    · rw [if_neg c2]
      exact h3.weaken (by omega)
theorem cutSpan_norm {ps : Sp} {lo hi : Int} : ∀ {a : Int}, NormFrom a ps → NormFrom a (cutSpan ps lo hi) := by
  intro a h
  unfold cutSpan
  split
  · rename_i hl
    induction ps generalizing a with
    | nil => trivial
    | cons p r ih =>
      rw [List.flatMap_cons]
      exact cutOne_norm h.1 h.2.1 (ih h.2.2) hl
  · exact h
/-! has, without, all -/
theorem hasSpan_iff {a lo hi : Int} {ps : Sp} (h : NormFrom a ps) : hasSpan ps lo hi = true ↔ ∀ i, lo ≤ i → i < hi → memS i ps := by
  unfold hasSpan
  split
  · exact ⟨fun _ i h1 h2 => by omega, fun _ => rfl⟩
  · rw [List.any_eq_true]
    constructor
    · rintro ⟨p, hp, e⟩ i h1 h2
      have := of_decide_eq_true e
      exact ⟨p, hp, by omega, by omega⟩
    · intro k
      obtain ⟨p, hp, h1, h2⟩ := k lo (Int.le_refl _) (by omega)
      refine ⟨p, hp, decide_eq_true ⟨h1, ?_⟩⟩
      by_cases c : hi ≤ p.2
      · exact c
      · obtain ⟨q, hq, h3, h4⟩ := k p.2 (by omega) (by omega)
        exact (h.gap p hp q hq h3 h4).elim
theorem withoutSpans_mem {i : Int} {qs : Sp} : ∀ {ps : Sp}, memS i (withoutSpans ps qs) ↔ memS i ps ∧ ¬ memS i qs := by
  induction qs with
  | nil => intro ps; unfold withoutSpans; exact ⟨fun h => ⟨h, memS_nil⟩, fun h => h.1⟩
  | cons q r ih =>
    intro ps
    show memS i (withoutSpans (cutSpan ps q.1 q.2) r) ↔ _
    rw [ih, cutSpan_mem, memS_cons, and_assoc, not_or]
theorem withoutSpans_norm {a : Int} {qs : Sp} : ∀ {ps : Sp}, NormFrom a ps → NormFrom a (withoutSpans ps qs) := by
  induction qs with
  | nil => intro ps h; exact h
  | cons q r ih => intro ps h; exact ih (cutSpan_norm h)
theorem addAll_norm {a : Int} {ls : Sp} : ∀ {b : Sp}, NormFrom a b → (∀ q ∈ ls, a < q.1) → NormFrom a (addAll b ls) := by
  induction ls with
  | nil => intro b h _; exact h
  | cons q r ih => intro b h k; exact ih (addSpan_norm h (k q (.head _))) fun z hz => k z (.tail _ hz)
theorem addAll_mem {i a : Int} {ls : Sp} : ∀ {b : Sp}, NormFrom a b → (∀ q ∈ ls, a < q.1) → (memS i (addAll b ls) ↔ memS i b ∨ memS i ls) := by
  induction ls with
  | nil => intro b h _; exact ⟨.inl, fun h => h.elim id fun h => absurd h memS_nil⟩
  | cons q r ih =>
    intro b h k
    show memS i (addAll (addSpan b q.1 q.2) r) ↔ _
    rw [ih (addSpan_norm h (k q (.head _))) (fun z hz => k z (.tail _ hz)), addSpan_mem h, memS_cons, or_assoc]
section main
open PySem PySem.W PyProof.Rows PySem.Spec PySem.Calls
/-- a def's contract over a ledger -/
def Spec (w : World) (D U : Nat) (f : Addr) (args : List Value) (news : List (Addr × Obj)) (Post : Value → List (Addr × Obj) → Prop) : Prop :=
  ∀ (mean : ExcName → Option Value) (mg mb : Str → Option Value) (dp un : Nat) (gd : Option (List Code)) (cn : Str) (cs : Scope) (a : Addr) (ccd : Value) (cl : List (Str × Addr)) (outer : List Env) (A₀ : Around) (base h₀ : Heap) (L : Addr) (m : Str → Option Value) (s : Shared)
    (Q E : Value → Shared → Prop),
    Below A₀ base outer h₀ → Fr h₀ L s.heap m → (NH.hd.heap_39 w.params).In h₀ → News h₀ L s.heap news → Top NH.hd.view_39 (looseW NH.hd.view_39 [Str.ofString "OPEN_STATES"]) mean mg mb h₀ → cs.kind = .function → dp + D < recursionLimit → un + U < cLine →
    (∀ r news' h' tk', Fr h₀ L h' m → News h₀ L h' news' → Post r news' → Q r { s with heap := h', toks := tk' }) →
    wpAny (model PySem.Challenge.rw_no0075_01.row.prog w) (ktrTop dp un gd cn cs L a ccd cl outer) (call (.ref f) args) Q E s
theorem Spec.use {w : World} {D U : Nat} {f : Addr} {args : List Value} {news : List (Addr × Obj)} {Post : Value → List (Addr × Obj) → Prop} (C : Spec w D U f args news Post)
    {mean : ExcName → Option Value} {mg mb : Str → Option Value} {dp un : Nat} {gd : Option (List Code)} {cn : Str} {cs : Scope} {a : Addr} {ccd : Value} {cl : List (Str × Addr)} {outer : List Env} {A₀ : Around} {base h₀ : Heap} {L : Addr} {m : Str → Option Value} {news₀ : List (Addr × Obj)} {s : Shared}
    {Q E : Value → Shared → Prop} (B : Below A₀ base outer h₀) (F : Fr h₀ L s.heap m) (X : (NH.hd.heap_39 w.params).In h₀) (N : News h₀ L s.heap news₀) (T : Top NH.hd.view_39 (looseW NH.hd.view_39 [Str.ofString "OPEN_STATES"]) mean mg mb h₀) (hk : cs.kind = .function)
    (hd : dp + D < recursionLimit) (hu : un + U < cLine) (hn : ∀ p ∈ news, p ∈ news₀)
    (ret : ∀ r news' h' tk', Fr h₀ L h' m → News h₀ L h' news' → Post r news' → Q r { s with heap := h', toks := tk' }) :
    wpAny (model PySem.Challenge.rw_no0075_01.row.prog w) (ktrTop dp un gd cn cs L a ccd cl outer) (call (.ref f) args) Q E s :=
  C _ _ _ _ _ _ _ _ _ _ _ _ _ _ _ _ _ _ _ _ B F X (fun p hp => N p (hn p hp)) T hk hd hu ret
/-! ledgers -/
abbrev Led := List (Addr × Obj)
def Sub (a b : Led) : Prop := ∀ p ∈ a, p ∈ b
theorem Sub.refl (a : Led) : Sub a a := fun _ h => h
theorem Sub.trans {a b c : Led} (h : Sub a b) (k : Sub b c) : Sub a c := fun p hp => k p (h p hp)
theorem Sub.consR {a b : Led} {q : Addr × Obj} (h : Sub a b) : Sub a (q :: b) := fun p hp => .tail _ (h p hp)
theorem Sub.consL {a b : Led} {q : Addr × Obj} (hq : q ∈ b) (h : Sub a b) : Sub (q :: a) b := fun p hp => by
  rcases List.mem_cons.mp hp with rfl | hp
  · exact hq
  · exact h p hp
theorem Sub.appL {a b c : Led} (h : Sub a c) (k : Sub b c) : Sub (a ++ b) c := fun p hp => (List.mem_append.mp hp).elim (h p) (k p)
theorem Sub.appR1 {a b c : Led} (h : Sub a b) : Sub a (b ++ c) := fun p hp => List.mem_append.mpr (.inl (h p hp))
theorem Sub.appR2 {a b c : Led} (h : Sub a c) : Sub a (b ++ c) := fun p hp => List.mem_append.mpr (.inr (h p hp))
theorem Sub.nil {b : Led} : Sub [] b := fun _ hp => nomatch hp
theorem News.sub {h₀ h : Heap} {L : Addr} {a b : Led} (N : News h₀ L h b) (k : Sub a b) : News h₀ L h a := fun p hp => N p (k p hp)
theorem offSub {a b : Led} {adr : List Addr} (k : Sub a b) (h : OwnOff b adr) : OwnOff a adr := fun p hp => h p (k p hp)
theorem offApp {a b : Led} {adr : List Addr} (h : OwnOff a adr) (k : OwnOff b adr) : OwnOff (a ++ b) adr := fun p hp => (List.mem_append.mp hp).elim (h p) (k p)
theorem offNil {adr : List Addr} : OwnOff [] adr := fun _ hp => nomatch hp
theorem offCons {q : Addr × Obj} {a : Led} {adr : List Addr} (h : ∀ b ∈ adr, q.1 ≠ b) (k : OwnOff a adr) : OwnOff (q :: a) adr := fun p hp => by
  rcases List.mem_cons.mp hp with rfl | hp
  · exact h
  · exact k p hp
theorem offAdr {a : Led} {x : Addr} {adr : List Addr} (h : ∀ p ∈ a, p.1 ≠ x) (k : OwnOff a adr) : OwnOff a (x :: adr) := fun p hp b hb => by
  rcases List.mem_cons.mp hb with rfl | hb
  · exact h p hp
  · exact k p hp b hb
theorem offNo {a : Led} : OwnOff a [] := fun _ _ _ hb => nomatch hb
theorem offLt {a : Led} {x : Nat} (h : ∀ p ∈ a, @LT.lt Nat _ p.1 x) : ∀ p ∈ a, p.1 ≠ x := fun p hp => Nat.ne_of_lt (h p hp)
/-! pairs of ints, lists of them -/
def PairAt (tl : Led) (v : Value) (p : Int × Int) : Prop := ∃ (a : Nat) (t u : Tok) (n : Nat), v = .ref a ∧ (a, ({ cls := .type "tuple", data := .seq #[.int p.1 t, .int p.2 u] n } : Obj)) ∈ tl
inductive PairsAt (tl : Led) : List Value → List (Int × Int) → Prop
  | nil : PairsAt tl [] []
  | cons {v : Value} {vs : List Value} {p : Int × Int} {ps : List (Int × Int)} : PairAt tl v p → PairsAt tl vs ps → PairsAt tl (v :: vs) (p :: ps)
theorem PairAt.mono {a b : Led} (k : Sub a b) {v : Value} {p : Int × Int} : PairAt a v p → PairAt b v p := fun ⟨x, t, u, n, e, h⟩ => ⟨x, t, u, n, e, k _ h⟩
theorem PairsAt.mono {a b : Led} (k : Sub a b) {vs : List Value} {ps : List (Int × Int)} (h : PairsAt a vs ps) : PairsAt b vs ps := by
  induction h with
  | nil => exact .nil
  | cons h _ ih => exact .cons (h.mono k) ih
theorem PairsAt.length {a : Led} {vs : List Value} {ps : List (Int × Int)} (h : PairsAt a vs ps) : vs.length = ps.length := by
  induction h with
  | nil => rfl
  | cons _ _ ih => rw [List.length_cons, List.length_cons, ih]
theorem PairsAt.snoc {a : Led} {vs : List Value} {ps : List (Int × Int)} {v : Value} {p : Int × Int} (h : PairsAt a vs ps) (k : PairAt a v p) : PairsAt a (vs ++ [v]) (ps ++ [p]) := by
  induction h with
  | nil => exact .cons k .nil
  | cons h _ ih => exact .cons h ih
theorem PairsAt.append {a : Led} {vs us : List Value} {ps qs : List (Int × Int)} (h : PairsAt a vs ps) (k : PairsAt a us qs) : PairsAt a (vs ++ us) (ps ++ qs) := by
  induction h with
  | nil => exact k
  | cons h _ ih => exact .cons h ih
theorem PairsAt.get {a : Led} {vs : List Value} {ps : List (Int × Int)} (h : PairsAt a vs ps) {i : Nat} {v : Value} (e : vs[i]? = some v) : ∃ p, ps[i]? = some p ∧ PairAt a v p := by
  induction h generalizing i with
  | nil => simp at e
  | cons h _ ih =>
    cases i with
    | zero => simp at e; subst e; exact ⟨_, rfl, h⟩
    | succ i => exact ih (by simpa using e)
def SpansAt (tl : Led) (v : Value) (ps : List (Int × Int)) : Prop := ∃ (l : Nat) (vs : List Value) (n : Nat), v = .ref l ∧ (l, listOf vs.toArray n) ∈ tl ∧ PairsAt tl vs ps
theorem SpansAt.mono {a b : Led} (k : Sub a b) {v : Value} {ps : List (Int × Int)} : SpansAt a v ps → SpansAt b v ps := fun ⟨l, vs, n, e, h, p⟩ => ⟨l, vs, n, e, k _ h, p.mono k⟩
/-! new objects lie above the old ones -/
def Fresh (T own : Led) : Prop := ∀ q ∈ T, ∀ p ∈ own, @LT.lt Nat _ p.1 q.1
theorem Fresh.nil {own : Led} : Fresh [] own := fun _ hq => nomatch hq
theorem Fresh.cons {a : Nat} {o : Obj} {T own : Led} (h : ∀ p ∈ own, @LT.lt Nat _ p.1 a) (k : Fresh T own) : Fresh ((a, o) :: T) own := fun q hq => by
  rcases List.mem_cons.mp hq with rfl | hq
  · exact h
  · exact k q hq
theorem Fresh.app {T U own : Led} (h : Fresh T own) (k : Fresh U own) : Fresh (T ++ U) own := fun q hq => (List.mem_append.mp hq).elim (h q) (k q)
theorem Fresh.sub {T own own' : Led} (h : Fresh T own) (k : Sub own' own) : Fresh T own' := fun q hq p hp => h q hq p (k p hp)
theorem Fresh.offM {T M : Led} (h : Fresh T M) : OwnOff T (M.map (·.1)) := fun q hq b hb => by
  obtain ⟨p, hp, rfl⟩ := List.mem_map.mp hb
  exact Nat.ne_of_gt (h q hq p hp)
theorem Fresh.off {T M : Led} (h : Fresh T M) : OwnOff M (T.map (·.1)) := fun p hp b hb => by
  obtain ⟨q, hq, rfl⟩ := List.mem_map.mp hb
  exact Nat.ne_of_lt (h q hq p hp)
theorem allLt_sub {a : Nat} {X Y : Led} (h : AllLt a Y) (k : Sub X Y) : ∀ p ∈ X, @LT.lt Nat _ p.1 a := fun p hp => ktn_ltOf h p (k p hp)
theorem ltSub {a : Nat} {X Y : Led} (h : ∀ q ∈ Y, @LT.lt Nat _ q.1 a) (k : Sub X Y) : ∀ p ∈ X, @LT.lt Nat _ p.1 a := fun p hp => h p (k p hp)
/-- a def that makes objects, and turns none -/
def PSpec (w : World) (D U : Nat) (f : Addr) (args : List Value) (own : Led) (Post : Value → Led → Prop) : Prop :=
  ∀ own₀, Sub own own₀ → Spec w D U f args own₀ (fun r news' => ∃ T, news' = T ++ own₀ ∧ Fresh T own₀ ∧ Post r (T ++ own))
theorem PSpec.use {w : World} {D U : Nat} {f : Addr} {args : List Value} {M own : Led} {Post : Value → Led → Prop} (C : PSpec w D U f args own Post)
    {mean : ExcName → Option Value} {mg mb : Str → Option Value} {dp un : Nat} {gd : Option (List Code)} {cn : Str} {cs : Scope} {a : Addr} {ccd : Value} {cl : List (Str × Addr)} {outer : List Env} {A₀ : Around} {base h₀ : Heap} {L : Addr} {m : Str → Option Value} {news₀ : Led} {s : Shared}
    {Q E : Value → Shared → Prop} (B : Below A₀ base outer h₀) (F : Fr h₀ L s.heap m) (X : (NH.hd.heap_39 w.params).In h₀) (N : News h₀ L s.heap news₀) (T : Top NH.hd.view_39 (looseW NH.hd.view_39 [Str.ofString "OPEN_STATES"]) mean mg mb h₀) (hk : cs.kind = .function)
    (hd : dp + D < recursionLimit) (hu : un + U < cLine) (hn : Sub (M ++ own) news₀) (off : OwnOff own (M.map (·.1)))
    (ret : ∀ r own' h' tk', Fr h₀ L h' m → News h₀ L h' (M ++ own') → Sub own own' → OwnOff own' (M.map (·.1)) → Post r own' → Q r { s with heap := h', toks := tk' }) :
    wpAny (model PySem.Challenge.rw_no0075_01.row.prog w) (ktrTop dp un gd cn cs L a ccd cl outer) (call (.ref f) args) Q E s := by
  refine Spec.use (C (M ++ own) (Sub.appR2 (Sub.refl _))) B F X N T hk hd hu hn ?_
  rintro r _ h' tk' F' N' ⟨T', rfl, hf, hp⟩
  refine ret r (T' ++ own) h' tk' F' (News.sub N' ?_) (Sub.appR2 (Sub.refl _)) (offApp (Fresh.offM (hf.sub (Sub.appR1 (Sub.refl _)))) off) hp
  intro p hp
  simp only [List.mem_append] at hp ⊢
  rcases hp with h | h | h <;> simp [h]
/-! names of a frame -/
theorem frNames {h₀ h : Heap} {L : Addr} {m : Str → Option Value} (ps : List (Str × Value)) (F : Fr h₀ L h m) (e : ∀ p ∈ ps, m p.1 = some p.2) : Fr h₀ L h (kstB m ps) := by
  have : kstB m ps = m := by
    funext y
    exact kstB_eq e fun _ => rfl
  rw [this]; exact F
/-! joins -/
section
variable {α : Type} {M : Model} {A : Around} {E : Value → Shared → Prop} {s : Shared} {Q : α → Shared → Prop}
def JoinP (V : α → Prop) (s : Shared) (v : α) (s' : Shared) : Prop := (∃ tk, s' = { s with toks := tk }) ∧ V v
theorem joinP {V : α → Prop} {v : α} {s' : Shared} {tk : Nat} (e : s' = { s with toks := tk }) (h : V v) : JoinP V s v s' := ⟨⟨tk, e⟩, h⟩
theorem cutE {t : Sem α} (V : α → Prop) (h : wpAny M A t (JoinP V s) E s) (k : ∀ v tk, V v → Q v { s with toks := tk }) : wpAny M A t Q E s :=
  wpAny_mono h (fun v s' ⟨⟨tk, e⟩, hv⟩ => e ▸ k v tk hv) fun _ _ x => x
def JoinQ (h₀ : Heap) (L : Addr) (V : α → (Str → Option Value) → Led → Prop) (s : Shared) (v : α) (s' : Shared) : Prop := ∃ h' tk m' nx, s' = { s with heap := h', toks := tk } ∧ Fr h₀ L h' m' ∧ News h₀ L h' nx ∧ V v m' nx
theorem joinQ {h₀ : Heap} {L : Addr} {V : α → (Str → Option Value) → Led → Prop} {v : α} {h' : Heap} {tk : Nat} {m' : Str → Option Value} {nx : Led} (F : Fr h₀ L h' m') (N : News h₀ L h' nx) (h : V v m' nx) : JoinQ h₀ L V s v { s with heap := h', toks := tk } := ⟨h', tk, m', nx, rfl, F, N, h⟩
theorem cutH {t : Sem α} {h₀ : Heap} {L : Addr} {m₀ : Str → Option Value} (_ : Fr h₀ L s.heap m₀) (V : α → (Str → Option Value) → Led → Prop) (h : wpAny M A t (JoinQ h₀ L V s) E s)
    (k : ∀ v h' tk m' nx, Fr h₀ L h' m' → News h₀ L h' nx → V v m' nx → Q v { s with heap := h', toks := tk }) : wpAny M A t Q E s :=
  wpAny_mono h (fun v s' ⟨h', tk, m', nx, e, F, N, hv⟩ => e ▸ k v h' tk m' nx F N hv) fun _ _ x => x
end
/-! cuts of bytes -/
theorem picked_size {b : Array UInt8} {lo hi : Int} (h0 : 0 ≤ lo) (h1 : lo ≤ hi) (h2 : hi ≤ (b.size : Int)) : ((KBy.picked b (some lo) (some hi)).size : Int) = hi - lo := by
  have h := congrArg List.length (KBc.ints_picked (b := b) rfl (some lo) (some hi))
  rw [KBw.ints_length, List.length_take, List.length_drop, KBw.ints_length] at h
  simp only [Option.elim] at h
  have e1 := clipAt_cast b.size lo
  have e2 := clipAt_cast b.size hi
  rw [if_neg (by omega)] at e1 e2
  omega
/-! loops -/
def TEnd (h₀ : Heap) (L : Addr) (J : (Str → Option Value) → Led → Prop) (own : Led) (s₁ : Shared) (Q : Flow → Shared → Prop) (f : Flow) (s₂ : Shared) : Prop :=
  match f with
  | .ret v => Q (.ret v) s₂
  | .brk => Q .next s₂
  | _ => ∃ h' tk m' news' nx, s₂ = { s₁ with heap := h', toks := tk } ∧ Fr h₀ L h' m' ∧ News h₀ L h' news' ∧ (∀ p ∈ nx, p ∈ news') ∧ (∀ p ∈ own, p ∈ news') ∧ OwnOff own (nx.map (·.1)) ∧ J m' nx
theorem TEnd.next {h₀ : Heap} {L : Addr} {J : (Str → Option Value) → Led → Prop} {own : Led} {s₁ : Shared} {Q : Flow → Shared → Prop} {h' : Heap} {tk : Nat} {m' : Str → Option Value} {news' : Led} (nx : Led)
    (F : Fr h₀ L h' m') (N : News h₀ L h' news') (hn : Sub nx news') (ho : Sub own news') (off : OwnOff own (nx.map (·.1))) (hj : J m' nx) : TEnd h₀ L J own s₁ Q .next { s₁ with heap := h', toks := tk } :=
  ⟨h', tk, m', news', nx, rfl, F, N, hn, ho, off, hj⟩
section
variable {prog : Program} {w : World} {A : Around} {E : Value → Shared → Prop} {s : Shared} {env : Env} {h₀ : Heap} {target : Expr} {body : List Stmt} {Q : Flow → Shared → Prop}
theorem loopL {Lx : Addr} {l : Addr} {vs : List Value} {nn : Nat} {m₀ : Str → Option Value} {news : Led} (J : Nat → (Str → Option Value) → Led → Prop)
    (hh : A.handled = none) (hl : (l, listOf vs.toArray nn) ∈ news) (F : Fr h₀ Lx s.heap m₀) (N : News h₀ Lx s.heap news) (hj : J 0 m₀ news)
    (turn : ∀ i v m₁ nx h tk own, vs[i]? = some v → OwnOff own (nx.map (·.1)) → (l, listOf vs.toArray nn) ∈ nx → J i m₁ nx → Fr h₀ Lx h m₁ → News h₀ Lx h (nx ++ own) →
      wpAny (model prog w) A (assign target env v) (fun _ s₃ => wpAny (model prog w) A (execs body env) (TEnd h₀ Lx (fun m' nx => (l, listOf vs.toArray nn) ∈ nx ∧ J (i + 1) m' nx) own { s with heap := h, toks := tk } Q) E s₃) E { s with heap := h, toks := tk })
    (done : ∀ m₁ nx h tk, (l, listOf vs.toArray nn) ∈ nx → J vs.length m₁ nx → Fr h₀ Lx h m₁ → News h₀ Lx h nx → Q .next { s with heap := h, toks := tk })
    (eL : env.locals = Lx := by rfl) :
    wpAny (model prog w) A (pyIter (.ref l)) (fun it s₂ => TurnsAt prog w A h₀ env target body Q E it s₂) E s := by
  subst eL
  have hol : s.heap.get? l = some (listOf vs.toArray nn) := (N _ hl).1
  have hls : s.heap.IsList l vs.toArray := ⟨_, hol, rfl, nn, rfl⟩
  have hne : l ≠ s.heap.objs.size := Nat.ne_of_lt (Heap.lt_size hol)
  refine wpAny_pyIter_list hls ?_
  have W := Walks.list (prog := prog) (w := w) hh s.heap.objs.size l hne vs.toArray
  have hlen : vs.toArray.size = vs.length := by simp
  rw [hlen] at W
  refine ⟨_, _, _, vs.length, _, _, _, m₀, news, (fun i m nx => (l, listOf vs.toArray nn) ∈ nx ∧ J i m nx), rfl, KTurns.ofWalks W fun i v s Q E st q => letGo_listiter st.1 q, ?_, ?_, ?_, ⟨⟨_, Heap.get?_push_size _ rfl, rfl, rfl⟩, hls.at fun o e => Heap.get?_push_of_some _ e⟩, F.push _, (fun p hp => ⟨Heap.get?_push_of_some _ (N p hp).1, (N p hp).2⟩), ⟨hl, hj⟩, ?_, ?_⟩
  · intro hm
    rcases List.mem_cons.mp hm with e | hm
    · exact absurd F.ns.lt (e ▸ Nat.lt_irrefl _)
    · exact (N _ hl).2.1 ((List.mem_singleton.mp hm).symm)
  · intro b hb
    rw [List.mem_singleton.mp hb]
    exact next_is_new F
  · intro p hp hI
    exact absurd (Heap.lt_size (N p hp).1) ((List.mem_singleton.mp hI) ▸ Nat.lt_irrefl _)
  · rintro i v m₁ nx hh' tk' own hin hP ⟨hl₁, hJ⟩ hoff hown hget hfp hst F₁ N₁
    have hP' : vs[i]? = some v := by simpa using hP
    have hI0 : h₀.get? s.heap.objs.size = none := next_is_new F
    obtain ⟨⟨oI, hoI, _⟩, _⟩ := id hst
    have hIown : (s.heap.objs.size, oI) ∈ own.filter fun p => decide (p.1 = s.heap.objs.size) := List.mem_filter.mpr ⟨hfp _ (List.mem_cons.mpr (.inl rfl)) hI0 _ hoI, by simp⟩
    have hsep : OwnOff (own.filter fun p => decide (p.1 = s.heap.objs.size)) (nx.map (·.1)) := by
      intro p hp b hb e
      obtain ⟨q, hq, rfl⟩ := List.mem_map.mp hb
      have h1 : p.1 = s.heap.objs.size := by simpa using (List.mem_filter.mp hp).2
      exact hoff q hq (List.mem_singleton.mpr (e ▸ h1))
    have N₂ : News h₀ env.locals hh' (nx ++ own.filter fun p => decide (p.1 = s.heap.objs.size)) := fun p hp => N₁ p ((List.mem_append.mp hp).elim (fun h => List.mem_append.mpr (.inr h)) fun h => List.mem_append.mpr (.inl ((List.mem_filter.mp h).1)))
    have hlo : hh'.get? l = some (listOf vs.toArray nn) := (N₁ _ (List.mem_append.mpr (.inr hl₁))).1
    refine wpAny_mono (turn i v m₁ nx hh' tk' _ hP' hsep hl₁ hJ F₁ N₂) (fun _ s₃ h₃ => wpAny_mono h₃ (fun f s₂ p => ?_) fun _ _ e => e) fun _ _ e => e
    have fin : TEnd h₀ env.locals (fun m' nx => (l, listOf vs.toArray nn) ∈ nx ∧ J (i + 1) m' nx) (own.filter fun p => decide (p.1 = s.heap.objs.size)) { s with heap := hh', toks := tk' } Q .next s₂ →
        LoopStepU h₀ env.locals [s.heap.objs.size] own (fun m nx => (l, listOf vs.toArray nn) ∈ nx ∧ J (i + 1) m nx) { s with heap := hh', toks := tk' } .next s₂ := by
      rintro ⟨h', tk, m', news', nx, e, F', N', hn, ho, ha, hm⟩
      refine ⟨rfl, h', tk, m', nx, e, F', fun p hp => ?_, fun p hp hq => ?_, hm⟩
      · rcases List.mem_append.mp hp with h | h
        · by_cases hI : p.1 = s.heap.objs.size
          · exact N' p (ho p (List.mem_filter.mpr ⟨h, by simpa using hI⟩))
          · have h1 : p.1 = l := by
              rcases List.mem_cons.mp (hown p h) with h2 | h2
              · exact absurd h2 hI
              · exact List.mem_singleton.mp h2
            have h2 : hh'.get? p.1 = some p.2 := hget p h
            rw [h1, hlo] at h2
            have h3 : p = (l, listOf vs.toArray nn) := Prod.ext h1 (Option.some.inj h2).symm
            rw [h3]
            exact N' _ (hn _ hm.1)
        · exact N' p (hn p h)
      · exact ha _ hIown p.1 (List.mem_map.mpr ⟨p, hp, rfl⟩) (List.mem_singleton.mp hq).symm
    cases f with
    | ret v => exact .ret p
    | brk => exact .brk p
    | next => exact .next (fin p)
    | cont => exact .cont (fin p)
  · rintro h' tk m' news' F' N' _ ⟨h1, hJ⟩
    exact done m' news' h' tk h1 hJ F' N'
end
section
variable {prog : Program} {w : World} {M : Model} {A : Around} {E : Value → Shared → Prop} {s : Shared} {h₀ h h' : Heap} {L D : Addr} {m : Str → Option Value} {news news' pre post : List (Addr × Obj)} {o o' : Obj}
theorem r_list {l : Addr} {vs : List Value} {n : Nat} {Q : Value → Shared → Prop} (F : Fr h₀ L s.heap m) (N : News h₀ L s.heap news) (hm : (l, listOf vs.toArray n) ∈ news) (hz : vs.length ≤ 1000)
    (h : ∀ D c h', Fr h₀ L h' m → News h₀ L h' ((D, listOf vs.toArray c) :: news) → (∀ q ∈ news, q.1 < D) → Q (.ref D) { s with heap := h' }) : wpAny (model prog w) A (call (.type "list") [.ref l]) Q E s :=
  list_copyK F N ⟨_, (N _ hm).1, rfl, n, rfl⟩ h (by rw [List.size_toArray, sizeLine_eq]; omega)
theorem r_cat {l b : Addr} {vs us : List Value} {n k : Nat} {Q : Value → Shared → Prop} (F : Fr h₀ L s.heap m) (N : News h₀ L s.heap news) (hm : (l, listOf vs.toArray n) ∈ news) (hb : (b, listOf us.toArray k) ∈ news) (hz : vs.length + us.length ≤ 4000)
    (h : ∀ D h', Fr h₀ L h' m → News h₀ L h' ((D, listOf (vs ++ us).toArray 0) :: news) → (∀ q ∈ news, q.1 < D) → Q (.ref D) { s with heap := h' }) : wpAny (model prog w) A (binaryOp .Add (.ref l) (.ref b)) Q E s :=
  add_arrays F N ⟨_, (N _ hm).1, rfl, n, rfl⟩ ⟨_, (N _ hb).1, rfl, k, rfl⟩ (fun h' F' N' => h _ h' F' (by simpa using N') fun q hq => Heap.lt_size (N q hq).1) (by rw [List.size_toArray, List.size_toArray, sizeLine_eq]; omega)
theorem r_len {l : Addr} {vs : List Value} {n k : Nat} {Q : Value → Shared → Prop} (F : Fr h₀ L s.heap m) (N : News h₀ L s.heap news) (hm : (l, listOf vs.toArray n) ∈ news) (e : vs.length = k) (hz : k ≤ 100000)
    (h : Q (.int (k : Int) (s.toks + 1)) { s with toks := s.toks + 1 + 1 }) : wpAny (model prog w) A (call (.builtin "len") [.ref l]) Q E s :=
  kst_len N hm e (by omega) h
theorem r_item {value slice : PySem.Expr} {l : Addr} {vs : List Value} {n : Nat} {k : Int} {u : Tok} {v : Value} {Q : Value → Shared → Prop} (N : News h₀ L s.heap news) (hm : (l, listOf vs.toArray n) ∈ news) (h0 : 0 ≤ k) (hhi : k < 2 ^ 63) (hx : vs[k.toNat]? = some v) (h : Q v s)
    (hs : subscripted slice false (.ref l) (.int k u) = operate [.ref l, .int k u] (getItem (.ref l) (.int k u)) := by with_unfolding_all rfl) :
    wpAny (model prog w) A (subscriptTail value slice (.ref l) (.int k u)) Q E s :=
  have hl : s.heap.IsList l vs.toArray := ⟨_, (N _ hm).1, rfl, n, rfl⟩
  tail_any hl.typeIs slot_list_getitem.lookup (wpAny_getItem_list hl h0 hhi (by simpa using hx) h) hs
theorem r_instr {t : Addr} {items : Array Value} {ys : List Str} {x : Str} {u : Tok} {Q : Value → Shared → Prop} (b : Bool) (ht : IsTup s.heap t items) (hi : StrsAre items.toList ys) (hb : (ys.any (· == x)) = b) (h : Q (.bool b) s) : wpAny (model prog w) A (compareOp .In (.str x u) (.ref t)) Q E s := by
  refine in_tuple_strs ht hi ?_
  rw [hb]; exact h
theorem r_notinstr {t : Addr} {items : Array Value} {ys : List Str} {x : Str} {u : Tok} {Q : Value → Shared → Prop} (b : Bool) (ht : IsTup s.heap t items) (hi : StrsAre items.toList ys) (hb : (!(ys.any (· == x))) = b) (h : Q (.bool b) s) : wpAny (model prog w) A (compareOp .NotIn (.str x u) (.ref t)) Q E s := by
  refine notin_tuple_strs ht hi ?_
  rw [hb]; exact h
theorem r_bslice {value slice : PySem.Expr} {b : Array UInt8} {t : Tok} {l u : Value} {lo hi : Option Int} {Q : Value → Shared → Prop} (F : Fr h₀ L s.heap m) (N : News h₀ L s.heap news) (hl : IsPart l lo) (hu : IsPart u hi) (hz : b.size ≤ 1000000)
    (h : ∀ h' t' k, Fr h₀ L h' m → News h₀ L h' news → Q (.bytes (KBy.picked b lo hi) t') { s with heap := h', toks := k })
    (hs : subscripted slice false (.bytes b t) (.ref s.heap.objs.size) = operate [.ref s.heap.objs.size, .bytes b t] (getItem (.bytes b t) (.ref s.heap.objs.size)) := by with_unfolding_all rfl)
    (ht : ∀ r, letTemporaryGo value (.bytes b t) r = pure () := by intro _; with_unfolding_all rfl) :
    wpAny (model prog w) A (subscriptTail value slice (.bytes b t) (.ref s.heap.objs.size)) Q E { s with heap := s.heap.push { cls := .type "slice", data := .fields #[l, u, .none] } } :=
  KBc.slice_K F N rfl hl hu (by rw [KBw.ints_length]; omega) (fun h' t' k F' N' _ => h h' t' k F' N') hs ht
theorem r_newTuple {vs : List Value} {Q : Value → Shared → Prop} (F : Fr h₀ L s.heap m) (N : News h₀ L s.heap news) (hz : vs.length ≤ 1000)
    (h : ∀ D h', Fr h₀ L h' m → News h₀ L h' ((D, ({ cls := .type "tuple", data := .seq vs.toArray } : Obj)) :: news) → (∀ q ∈ news, q.1 < D) → Q (.ref D) { s with heap := h' }) : wpAny M A (newTuple vs) Q E s :=
  newTuple_N F N (fun h' F' N' => h _ h' F' N' fun q hq => Heap.lt_size (N q hq).1) (by rw [sizeLine_eq]; omega)
theorem r_newList {vs : List Value} {Q : Value → Shared → Prop} (F : Fr h₀ L s.heap m) (N : News h₀ L s.heap news) (hz : vs.length ≤ 1000)
    (h : ∀ D h', Fr h₀ L h' m → News h₀ L h' ((D, listOf vs.toArray 0) :: news) → (∀ q ∈ news, q.1 < D) → Q (.ref D) { s with heap := h' }) : wpAny M A (newList vs) Q E s :=
  newList_K F N h (by rw [sizeLine_eq]; omega)
theorem r_badd {b c : Array UInt8} {t u : Tok} {Q : Value → Shared → Prop} (hz : b.size + c.size ≤ 16777216) (h : ∀ t' k, Q (.bytes (b ++ c) t') { s with toks := k }) : wpAny (model prog w) A (binaryOp .Add (.bytes b t) (.bytes c u)) Q E s :=
  KBa.add_K rfl rfl (by rw [KBw.ints_length, KBw.ints_length]; exact hz) fun t' k _ => h t' k
theorem r_append {l : Addr} {vs : List Value} {n : Nat} {x : Value} {Q : Value → Shared → Prop} (F : Fr h₀ L s.heap m) (N : News h₀ L s.heap news) (U : Upd l (listOf vs.toArray n) (listOf (vs ++ [x]).toArray (n + 1)) news news') (hz : vs.length ≤ 4000)
    (h : ∀ h', Fr h₀ L h' m → News h₀ L h' news' → Q .none { s with heap := h' }) : wpAny (model prog w) A (call (.builtin "list.append") [.ref l, x]) Q E s :=
  append_K (its := vs.toArray) F N (by simpa using U) h (by rw [List.size_toArray, sizeLine_eq]; omega)
end
theorem pop0 {prog : Program} {w : World} {A : Around} {E : Value → Shared → Prop} {s : Shared} {h₀ : Heap} {L D : Addr} {m : Str → Option Value} {news news' : Led} {u : Tok} {v : Value} {vs : List Value} {n : Nat} {Q : Value → Shared → Prop} (F : Fr h₀ L s.heap m) (N : News h₀ L s.heap news)
    (U : Upd D (listOf (v :: vs).toArray n) (listOf vs.toArray (n + 1)) news news') (hz : vs.length ≤ 1000)
    (h : ∀ h', Fr h₀ L h' m → News h₀ L h' news' → Q v { s with heap := h' }) : wpAny (model prog w) A (call (.builtin "list.pop") [.ref D, .int 0 u]) Q E s :=
  kl_popAt (k := 0) (p := []) (q := vs) (y := v) F N rfl (by unfold seqIndex?; simp) rfl U (by show (v :: vs).length ≤ sizeLine; rw [sizeLine_eq]; simp only [List.length_cons]; omega) h
theorem offFresh {X : Led} {a : Led} (h : ∀ p ∈ X, AllLt p.1 a) : OwnOff a (X.map (·.1)) := by
  intro p hp b hb
  obtain ⟨q, hq, rfl⟩ := List.mem_map.mp hb
  exact Nat.ne_of_lt (ktn_ltOf (h q hq) p hp)
theorem bb_bytes : typeLookup (.type "bytes") "__bytes__" = pure (some (.builtin "bytes.__bytes__")) := by rw [typeLookup_type, builtinLookup_eq_fast]; kernel_rfl
section
variable {prog : Program} {w : World} {A : Around} {E : Value → Shared → Prop} {s : Shared}
theorem bb_new {d : Array UInt8} {t : Tok} {Q : Value → Shared → Prop} (h : Q (.bytes d t) s) :
    codeAny (model prog w) A (.call (.builtin "bytes.__new__") ⟨[.type "bytes", .bytes d t], []⟩) (wants Q E) s := by
  refine codeAny_of_tree ?_
  show wpAny _ A.in1 (do checkBuiltinCall "bytes.__new__" ⟨[.type "bytes", .bytes d t], []⟩; again (.builtin "bytes.__new__" ⟨[.type "bytes", .bytes d t], []⟩)) _ _ s
  refine wpAny_bind (wpAny_of_eq (F.bm_newCall _) (wpAny_pure ⟨plainId_quiet F.bm_plain _, codeAny_builtin F.bm_entry ?_⟩))
  rw [Around.under_plainId F.bm_plain _]
  have hT : s.TypeIs (.bytes d t) "bytes" := typeIs_bytes _ _ _
  unfold Builtin.«bytes.__new__»
  refine wpAny_bind (wpAny_of_eq (a := true) rfl ?_)
  refine bm_if_false rfl ?_
  refine wpAny_bind (wpAny_of_eq F.bm_sub ?_)
  refine bm_if_false rfl ?_
  refine wpAny_bind (wpAny_of_eq (F.bm_bind _) ?_)
  refine wpAny_bind (wpAny_of_eq (a := ()) rfl ?_)
  refine wpAny_bind (wpAny_of_eq (a := ()) rfl ?_)
  refine bm_if_false rfl ?_
  refine wpAny_bind (wpAny_specialOf hT bb_bytes ?_)
  dsimp only
  refine wpAny_bind (wpAny_rule ?_)
  refine wpAny_bind (wpAny_typeOf hT ?_)
  refine bm_if_true (by decide +kernel) ?_
  refine bm_if_true (by decide +kernel) ?_
  exact wpAny_pure h
theorem call_bytes_bytes {d : Array UInt8} {t : Tok} {Q : Value → Shared → Prop} (h : Q (.bytes d t) s) : wpAny (model prog w) A (call (.type "bytes") [.bytes d t]) Q E s := by
  refine callType_codes (Q₁ := fun obj s₁ => s₁.TypeIs obj "bytes" ∧ Q obj s₁) F.bm_called (F.bm_typeCall _) F.entry_object_init
    (bb_new ⟨typeIs_bytes _ _ _, h⟩) fun obj s₁ h₁ => ?_
  exact ⟨h₁.1, F.args_object_init_2 obj _, object_init_meets F.bm_called.init.lookup F.bm_called.made (by decide) prog w A.in1 _ s₁ ⟨h₁.1, rfl, h₁.2⟩⟩
end
section
variable {prog : Program} {w : World} {A : Around} {E : Value → Shared → Prop} {s : Shared} {env : Env} {h₀ : Heap} {x : Str} {px : Pos} {body : List Stmt} {Q : Flow → Shared → Prop}
theorem loopR {Lx : Addr} {r : Addr} {a₀ b₀ : Int} {t₀ u₀ v₀ : Tok} {n : Nat} {m₀ : Str → Option Value} {news : Led} (J : Nat → (Str → Option Value) → Led → Prop)
    (hh : A.handled = none) (hr : IsRange s.heap r a₀ b₀ 1 t₀ u₀ v₀) (ha : -1000000 ≤ a₀ ∧ a₀ ≤ 1000000) (hb : -1000000 ≤ b₀ ∧ b₀ ≤ 1000000) (hn : n = (b₀ - a₀).toNat) (F : Fr h₀ Lx s.heap m₀) (N : News h₀ Lx s.heap news) (hj : J 0 m₀ news)
    (turn : ∀ (i : Nat) t m₁ nx h tk own, i < n → OwnOff own (nx.map (·.1)) → J i m₁ nx → Fr h₀ Lx h m₁ → News h₀ Lx h (nx ++ own) →
      wpAny (model prog w) A (assign (.Name x px) env (.int (a₀ + (i : Int)) t)) (fun _ s₃ => wpAny (model prog w) A (execs body env) (TEnd h₀ Lx (J (i + 1)) own { s with heap := h, toks := tk } Q) E s₃) E { s with heap := h, toks := tk })
    (done : ∀ m₁ nx h tk, J n m₁ nx → Fr h₀ Lx h m₁ → News h₀ Lx h nx → Q .next { s with heap := h, toks := tk })
    (eL : env.locals = Lx := by rfl) :
    wpAny (model prog w) A (pyIter (.ref r)) (fun it s₂ => TurnsAt prog w A h₀ env (.Name x px) body Q E it s₂) E s := by
  subst eL
  subst hn
  have hsz : Builtin.Range.rangeSize a₀ b₀ 1 = (((b₀ - a₀).toNat : Nat) : Int) := rangeSize_nat a₀ b₀
  refine wpAny_pyIter_range hr (small_one (by omega) (by omega) (by omega) (by omega)) ?_
  generalize (b₀ - a₀).toNat = n at *
  have W : Walks prog w A s.heap.objs.size [s.heap.objs.size] [s.heap.objs.size] n (fun i v => i < n ∧ ∃ t, v = .int (a₀ + i * 1) t)
      (fun i h => IsRangeIter h s.heap.objs.size (a₀ + (i : Nat) * 1) ((n : Int) - (i : Nat)) 1) := (Walks.range hh _ a₀ 1 n).bound
  refine ⟨_, _, _, n, _, _, _, m₀, news, J, rfl, KTurns.ofWalks W fun i v s Q E st q => wpAny_pure q, ?_, ?_, ?_, (by show IsRangeIter _ _ _ _ _; rw [hsz]; simpa using Heap.get?_push_size _ rfl), F.push _, (fun p hp => ⟨Heap.get?_push_of_some _ (N p hp).1, (N p hp).2⟩), hj, ?_, ?_⟩
  · intro hm
    exact absurd F.ns.lt ((List.mem_singleton.mp hm) ▸ Nat.lt_irrefl _)
  · intro b hb
    rw [List.mem_singleton.mp hb]
    exact next_is_new F
  · intro p hp hI
    exact absurd (Heap.lt_size (N p hp).1) ((List.mem_singleton.mp hI) ▸ Nat.lt_irrefl _)
  · rintro i v m₁ nx hh' tk' own hin ⟨_, t, rfl⟩ hJ hoff hown hget hfp hst F₁ N₁
    have hI0 : h₀.get? s.heap.objs.size = none := next_is_new F
    have hIown := hfp _ (List.mem_singleton.mpr rfl) hI0 _ hst
    have hsep : OwnOff own (nx.map (·.1)) := by
      intro p hp b hb e
      obtain ⟨q, hq, rfl⟩ := List.mem_map.mp hb
      exact hoff q hq (e ▸ hown p hp)
    have N₂ : News h₀ env.locals hh' (nx ++ own) := fun p hp => N₁ p ((List.mem_append.mp hp).elim (fun h => List.mem_append.mpr (.inr h)) fun h => List.mem_append.mpr (.inl h))
    have e1 : a₀ + (i : Int) * 1 = a₀ + (i : Int) := by omega
    rw [e1]
    refine wpAny_mono (turn i t m₁ nx hh' tk' own hin hsep hJ F₁ N₂) (fun _ s₃ h₃ => wpAny_mono h₃ (fun f s₂ p => ?_) fun _ _ e => e) fun _ _ e => e
    have fin : TEnd h₀ env.locals (J (i + 1)) own { s with heap := hh', toks := tk' } Q .next s₂ → LoopStepU h₀ env.locals [s.heap.objs.size] own (J (i + 1)) { s with heap := hh', toks := tk' } .next s₂ := by
      rintro ⟨h', tk, m', news', nx, e, F', N', hn, ho, ha, hm⟩
      refine ⟨rfl, h', tk, m', nx, e, F', fun p hp => ?_, fun p hp hq => ?_, hm⟩
      · rcases List.mem_append.mp hp with h | h
        · exact N' p (ho p h)
        · exact N' p (hn p h)
      · exact ha _ hIown p.1 (List.mem_map.mpr ⟨p, hp, rfl⟩) (List.mem_singleton.mp hq).symm
    cases f with
    | ret v => exact .ret p
    | brk => exact .brk p
    | next => exact .next (fin p)
    | cont => exact .cont (fin p)
  · rintro h' tk m' news' F' N' _ hJ
    exact done m' news' h' tk hJ F' N'
end
/-! a loop that fills the list "found" -/
def FoundJ (own own₀ : Led) (P : Nat → List (Int × Int) → (Str → Option Value) → Prop) (i : Nat) (m : Str → Option Value) (nx : Led) : Prop :=
  ∃ (T : Led) (fo : Nat) (vs : List Value) (n : Nat) (aps : List (Int × Int)),
    nx = (fo, listOf vs.toArray n) :: (T ++ own₀) ∧ OwnOff T [fo] ∧ (∀ p ∈ own₀, @LT.lt Nat _ p.1 fo) ∧ Fresh T own₀ ∧ PairsAt (T ++ own) vs aps ∧ vs.length ≤ 2 * i ∧ m (Str.ofString "found") = some (.ref fo) ∧ P i aps m
theorem found_close {h₀ h' : Heap} {L : Addr} {own own₀ own₁ T R : Led} {P : Nat → List (Int × Int) → (Str → Option Value) → Prop} {i : Nat} {m' : Str → Option Value} {s₁ : Shared} {tk : Nat} {Q : Flow → Shared → Prop} {news' : Led}
    {fo : Nat} {vs : List Value} {n : Nat} {aps : List (Int × Int)} {l : Addr} {ol : Obj}
    (X : Led) (us : List Value) (qs : List (Int × Int)) (hR : R = T ++ own₀ ++ own₁) (off : OwnOff own₁ ((fo :: (T ++ own₀).map (·.1)))) (hTf : OwnOff T [fo]) (hof : ∀ p ∈ own₀, @LT.lt Nat _ p.1 fo) (hfr : Fresh T own₀) (hps : PairsAt (T ++ own) vs aps) (hlen : vs.length ≤ 2 * i)
    (hl : (l, ol) ∈ own₀) (F : Fr h₀ L h' m') (N : News h₀ L h' news') (hN : Sub ((fo, listOf (vs ++ us).toArray n) :: (X ++ R)) news') (hX : ∀ q ∈ X, @LT.lt Nat _ fo q.1 ∧ AllLt q.1 R) (hq : PairsAt X us qs) (hus : us.length ≤ 2)
    (hm : m' (Str.ofString "found") = some (.ref fo)) (hP : P (i + 1) (aps ++ qs) m') :
    TEnd h₀ L (fun m' nx => (l, ol) ∈ nx ∧ FoundJ own own₀ P (i + 1) m' nx) own₁ s₁ Q .next { s₁ with heap := h', toks := tk } := by
  subst hR
  have hXfo : OwnOff X [fo] := offAdr (fun q hq => Nat.ne_of_gt (hX q hq).1) offNo
  refine TEnd.next ((fo, listOf (vs ++ us).toArray n) :: ((X ++ T) ++ own₀)) F N (fun q hq => hN q ?_) (fun q hq => hN q ?_) ?_ ⟨?_, X ++ T, fo, vs ++ us, n, aps ++ qs, rfl, offApp hXfo hTf, hof, ?_, ?_, ?_, hm, hP⟩
  · simp only [List.mem_cons, List.mem_append] at hq ⊢
    rcases hq with h | (h | h) | h <;> simp [h]
  · simp only [List.mem_cons, List.mem_append]
    simp [hq]
  · intro q hq b hb
    simp only [List.map_cons, List.map_append, List.mem_cons, List.mem_append] at hb
    rcases hb with h | (h | h) | h
    · exact off q hq b (by simp [h])
    · exact offFresh (fun p hp => (hX p hp).2) q (by simp [hq]) b h
    · exact off q hq b (by simp only [List.map_append, List.mem_cons, List.mem_append]; simp [h])
    · exact off q hq b (by simp only [List.map_append, List.mem_cons, List.mem_append]; simp [h])
  · simp only [List.mem_cons, List.mem_append]; simp [hl]
  · exact Fresh.app (fun q hq p hp => ktn_ltOf (hX q hq).2 p (by simp [hp])) hfr
  · have h1 : PairsAt (X ++ T ++ own) vs aps := hps.mono (by rw [List.append_assoc]; exact Sub.appR2 (Sub.refl _))
    have h2 : PairsAt (X ++ T ++ own) us qs := hq.mono (by rw [List.append_assoc]; exact Sub.appR1 (Sub.refl _))
    exact h1.append h2
  · rw [List.length_append]; omega
theorem foundOff {T own₀ own₁ R : Led} {fo : Nat} (hR : R = T ++ own₀ ++ own₁) (off : OwnOff own₁ ((fo :: (T ++ own₀).map (·.1)))) (hTf : OwnOff T [fo]) (hof : ∀ p ∈ own₀, @LT.lt Nat _ p.1 fo) : OwnOff R [fo] := by
  subst hR
  refine offApp (offApp hTf (offAdr (offLt hof) offNo)) fun p hp b hb => off p hp b ?_
  rw [List.mem_singleton.mp hb]; exact .head _
@[elab_as_elim] theorem FoundJ.turn {own own₀ own₁ nx : Led} {P : Nat → List (Int × Int) → (Str → Option Value) → Prop} {i : Nat} {m : Str → Option Value} {h₀ h : Heap} {L : Addr} {vs₀ : List Value} {ps : List (Int × Int)} {v : Value} {C : Value → Prop} (hJ : FoundJ own own₀ P i m nx) (N : News h₀ L h (nx ++ own₁)) (off : OwnOff own₁ (nx.map (·.1))) (hp : PairsAt own vs₀ ps) (hsub : Sub own own₀) (hv : vs₀[i]? = some v)
    (c : ∀ (T : Led) (fo : Nat) (vs : List Value) (n : Nat) (aps : List (Int × Int)) (R : Led) (p1 p2 : Int) (a1 : Nat) (t1 u1 : Tok) (n1 : Nat), R = T ++ own₀ ++ own₁ → News h₀ L h ((fo, listOf vs.toArray n) :: R) → OwnOff own₁ (fo :: (T ++ own₀).map (·.1)) → OwnOff T [fo] → (∀ p ∈ own₀, @LT.lt Nat _ p.1 fo) → Fresh T own₀ → PairsAt (T ++ own) vs aps → vs.length ≤ 2 * i → m (Str.ofString "found") = some (.ref fo) → P i aps m →
      ps[i]? = some (p1, p2) → (a1, ({ cls := Value.type "tuple", data := Data.seq #[Value.int p1 t1, Value.int p2 u1] n1 } : Obj)) ∈ own → (a1, ({ cls := Value.type "tuple", data := Data.seq #[Value.int p1 t1, Value.int p2 u1] n1 } : Obj)) ∈ R → OwnOff R [fo] → C (.ref a1)) : C v := by
  obtain ⟨T, fo, vs, n, aps, rfl, hTf, hof, hfr, hps, hlen, hm, hP⟩ := hJ
  obtain ⟨⟨p1, p2⟩, hpi, a1, t1, u1, n1, rfl, ha1⟩ := hp.get hv
  exact c T fo vs n aps _ p1 p2 a1 t1 u1 n1 rfl N off hTf hof hfr hps hlen hm hP hpi ha1 (by simp only [List.mem_append]; exact .inl (.inr (hsub _ ha1))) (foundOff rfl off hTf hof)
theorem FoundJ.done {own own₀ nx : Led} {P : Nat → List (Int × Int) → (Str → Option Value) → Prop} {i : Nat} {m : Str → Option Value} {h₀ h : Heap} {L : Addr} {C : Prop} (hJ : FoundJ own own₀ P i m nx) (N : News h₀ L h nx)
    (c : ∀ (T : Led) (fo : Nat) (vs : List Value) (n : Nat) (aps : List (Int × Int)), News h₀ L h ((fo, listOf vs.toArray n) :: (T ++ own₀)) → OwnOff T [fo] → (∀ p ∈ own₀, @LT.lt Nat _ p.1 fo) → Fresh T own₀ → PairsAt (T ++ own) vs aps → vs.length ≤ 2 * i → m (Str.ofString "found") = some (.ref fo) → P i aps m → C) : C := by
  obtain ⟨T, fo, vs, n, aps, rfl, hTf, hof, hfr, hps, hlen, hm, hP⟩ := hJ
  exact c T fo vs n aps N hTf hof hfr hps hlen hm hP
def St.str : St → Str
  | .ready => Str.ofString "ready"
  | .send => Str.ofString "send"
  | .sent => Str.ofString "data_sent"
  | .recvd => Str.ofString "data_recvd"
def partEs (P : Params) (k : Nat → Tok) (lim st wr se ac lo fi ow ea : Value) : List DictEntry :=
  [⟨PyData.keyHash P (Str.ofString "limit"), .str (Str.ofString "limit") (k 0), lim⟩,
   ⟨PyData.keyHash P (Str.ofString "state"), .str (Str.ofString "state") (k 1), st⟩,
   ⟨PyData.keyHash P (Str.ofString "written"), .str (Str.ofString "written") (k 2), wr⟩,
   ⟨PyData.keyHash P (Str.ofString "sent_to"), .str (Str.ofString "sent_to") (k 3), se⟩,
   ⟨PyData.keyHash P (Str.ofString "acked"), .str (Str.ofString "acked") (k 4), ac⟩,
   ⟨PyData.keyHash P (Str.ofString "lost"), .str (Str.ofString "lost") (k 5), lo⟩,
   ⟨PyData.keyHash P (Str.ofString "is_finished"), .str (Str.ofString "is_finished") (k 6), fi⟩,
   ⟨PyData.keyHash P (Str.ofString "owes_end"), .str (Str.ofString "owes_end") (k 7), ow⟩,
   ⟨PyData.keyHash P (Str.ofString "is_end_acked"), .str (Str.ofString "is_end_acked") (k 8), ea⟩,
   ⟨PyData.keyHash P (Str.ofString "reset_code"), .str (Str.ofString "reset_code") (k 9), .none⟩,
   ⟨PyData.keyHash P (Str.ofString "owes_reset"), .str (Str.ofString "owes_reset") (k 10), .bool false⟩]
/-- the part's two objects -/
structure PartL (P : Params) (dx x : Nat) (p : PS) (own M : Led) : Prop where
  ex : ∃ (k : Nat → Tok) (t1 t2 t3 t4 : Tok) (la lb : Nat), M = [(dx, dictOf (partEs P k (.int p.lim t1) (.str p.st.str t2) (.bytes p.W t3) (.int p.se t4) (.ref la) (.ref lb) (.bool p.fin) (.bool p.ow) (.bool p.ea)) 11), (x, instObj 199 dx)] ∧ SpansAt own (.ref la) p.A ∧ SpansAt own (.ref lb) p.B
theorem PartL.of {P : Params} {dx x : Nat} {p : PS} {own : Led} (k : Nat → Tok) (t1 t2 t3 t4 : Tok) (la lb : Nat) (hA : SpansAt own (.ref la) p.A) (hB : SpansAt own (.ref lb) p.B) :
    PartL P dx x p own [(dx, dictOf (partEs P k (.int p.lim t1) (.str p.st.str t2) (.bytes p.W t3) (.int p.se t4) (.ref la) (.ref lb) (.bool p.fin) (.bool p.ow) (.bool p.ea)) 11), (x, instObj 199 dx)] := ⟨⟨k, t1, t2, t3, t4, la, lb, rfl, hA, hB⟩⟩
theorem PartL.of' {P : Params} {dx x : Nat} {p : PS} {own M : Led} (k : Nat → Tok) (t1 t2 t3 t4 : Tok) (la lb : Nat) (e : M = [(dx, dictOf (partEs P k (.int p.lim t1) (.str p.st.str t2) (.bytes p.W t3) (.int p.se t4) (.ref la) (.ref lb) (.bool p.fin) (.bool p.ow) (.bool p.ea)) 11), (x, instObj 199 dx)]) (hA : SpansAt own (.ref la) p.A) (hB : SpansAt own (.ref lb) p.B) :
    PartL P dx x p own M := ⟨⟨k, t1, t2, t3, t4, la, lb, e, hA, hB⟩⟩
@[elab_as_elim] theorem PartL.elim {P : Params} {dx x : Nat} {p : PS} {own M : Led} {C : Led → Prop} (h : PartL P dx x p own M)
    (c : ∀ (k : Nat → Tok) (t1 t2 t3 t4 : Tok) (la lb : Nat), SpansAt own (.ref la) p.A → SpansAt own (.ref lb) p.B → C [(dx, dictOf (partEs P k (.int p.lim t1) (.str p.st.str t2) (.bytes p.W t3) (.int p.se t4) (.ref la) (.ref lb) (.bool p.fin) (.bool p.ow) (.bool p.ea)) 11), (x, instObj 199 dx)]) : C M := by
  obtain ⟨⟨k, t1, t2, t3, t4, la, lb, rfl, hA, hB⟩⟩ := h
  exact c k t1 t2 t3 t4 la lb hA hB
/-- new objects, above the old ones and above the part's -/
def FreshM (T own₀ : Led) (adr : List Nat) : Prop := Fresh T own₀ ∧ ∀ q ∈ T, ∀ b ∈ adr, @LT.lt Nat _ b q.1
theorem FreshM.nil {own₀ : Led} {adr : List Nat} : FreshM [] own₀ adr := ⟨Fresh.nil, fun _ h => nomatch h⟩
theorem FreshM.off {T own₀ : Led} {adr : List Nat} (h : FreshM T own₀ adr) (k : OwnOff own₀ adr) : OwnOff (T ++ own₀) adr := offApp (fun q hq b hb => Nat.ne_of_gt (h.2 q hq b hb)) k
theorem FreshM.app {T T₀ M own₀ : Led} {adr : List Nat} (h : FreshM T₀ own₀ adr) (eM : M.map (·.1) = adr) (k : Fresh T (M ++ (T₀ ++ own₀))) : FreshM (T ++ T₀) own₀ adr := by
  refine ⟨Fresh.app (k.sub (Sub.appR2 (Sub.appR2 (Sub.refl _)))) h.1, fun q hq b hb => ?_⟩
  rcases List.mem_append.mp hq with hq | hq
  · subst eM
    obtain ⟨p, hp, rfl⟩ := List.mem_map.mp hb
    exact k q hq p (List.mem_append.mpr (.inl hp))
  · exact h.2 q hq b hb
theorem FreshM.one {T own₀ : Led} {adr : List Nat} {a : Nat} {o : Obj} (h : FreshM T own₀ adr) (k1 : ∀ p ∈ T ++ own₀, @LT.lt Nat _ p.1 a) (k2 : ∀ b ∈ adr, @LT.lt Nat _ b a) : FreshM ((a, o) :: T) own₀ adr :=
  ⟨Fresh.cons (fun p hp => k1 p (List.mem_append.mpr (.inr hp))) h.1, fun q hq => by
    rcases List.mem_cons.mp hq with rfl | hq
    · exact k2
    · exact h.2 q hq⟩
theorem PSpec.useM {w : World} {D U : Nat} {f : Addr} {args : List Value} {M T₀ own own₀ : Led} {adr : List Nat} {Post : Value → Led → Prop} (C : PSpec w D U f args (T₀ ++ own) Post) (eM : M.map (·.1) = adr) (hsub : Sub own own₀) (hf : FreshM T₀ own₀ adr) (off : OwnOff (T₀ ++ own₀) adr)
    {mean : ExcName → Option Value} {mg mb : Str → Option Value} {dp un : Nat} {gd : Option (List Code)} {cn : Str} {cs : Scope} {a : Addr} {ccd : Value} {cl : List (Str × Addr)} {outer : List Env} {A₀ : Around} {base h₀ : Heap} {L : Addr} {m : Str → Option Value} {news₀ : Led} {s : Shared}
    {Q E : Value → Shared → Prop} (B : Below A₀ base outer h₀) (F : Fr h₀ L s.heap m) (X : (NH.hd.heap_39 w.params).In h₀) (N : News h₀ L s.heap news₀) (T : Top NH.hd.view_39 (looseW NH.hd.view_39 [Str.ofString "OPEN_STATES"]) mean mg mb h₀) (hk : cs.kind = .function)
    (hd : dp + D < recursionLimit) (hu : un + U < cLine) (hn : Sub (M ++ (T₀ ++ own₀)) news₀)
    (ret : ∀ r T h' tk', Fr h₀ L h' m → News h₀ L h' (M ++ (T ++ own₀)) → FreshM T own₀ adr → OwnOff (T ++ own₀) adr → Sub (T₀ ++ own) (T ++ own) → Post r (T ++ own) → Q r { s with heap := h', toks := tk' }) :
    wpAny (model PySem.Challenge.rw_no0075_01.row.prog w) (ktrTop dp un gd cn cs L a ccd cl outer) (call (.ref f) args) Q E s := by
  refine Spec.use (C (M ++ (T₀ ++ own₀)) (Sub.appR2 (Sub.appL (Sub.appR1 (Sub.refl _)) (Sub.appR2 hsub)))) B F X N T hk hd hu hn ?_
  rintro r _ h' tk' F' N' ⟨T', rfl, hf', hp⟩
  have hfT := hf.app eM hf'
  refine ret r (T' ++ T₀) h' tk' F' (News.sub N' ?_) hfT (hfT.off (offSub (Sub.appR2 (Sub.refl _)) off)) (by rw [List.append_assoc]; exact Sub.appR2 (Sub.refl _)) (by rw [List.append_assoc]; exact hp)
  intro p hp
  simp only [List.mem_append] at hp ⊢
  rcases hp with h | (h | h) | h <;> simp [h]
/-- a def that reads the part alone -/
def RSpec (w : World) (D U : Nat) (f : Addr) (args : List Value) (M own : Led) (Post : Value → Prop) : Prop :=
  ∀ own₀, Sub own own₀ → Sub M own₀ → Spec w D U f args own₀ (fun r news' => ∃ T, news' = T ++ own₀ ∧ Fresh T own₀ ∧ Post r)
theorem RSpec.useM {w : World} {D U : Nat} {f : Addr} {args : List Value} {M T₀ own own₀ : Led} {adr : List Nat} {Post : Value → Prop} (C : RSpec w D U f args M own Post) (eM : M.map (·.1) = adr) (hsub : Sub own own₀) (hf : FreshM T₀ own₀ adr) (off : OwnOff (T₀ ++ own₀) adr)
    {mean : ExcName → Option Value} {mg mb : Str → Option Value} {dp un : Nat} {gd : Option (List Code)} {cn : Str} {cs : Scope} {a : Addr} {ccd : Value} {cl : List (Str × Addr)} {outer : List Env} {A₀ : Around} {base h₀ : Heap} {L : Addr} {m : Str → Option Value} {news₀ : Led} {s : Shared}
    {Q E : Value → Shared → Prop} (B : Below A₀ base outer h₀) (F : Fr h₀ L s.heap m) (X : (NH.hd.heap_39 w.params).In h₀) (N : News h₀ L s.heap news₀) (T : Top NH.hd.view_39 (looseW NH.hd.view_39 [Str.ofString "OPEN_STATES"]) mean mg mb h₀) (hk : cs.kind = .function)
    (hd : dp + D < recursionLimit) (hu : un + U < cLine) (hn : Sub (M ++ (T₀ ++ own₀)) news₀)
    (ret : ∀ r T h' tk', Fr h₀ L h' m → News h₀ L h' (M ++ (T ++ own₀)) → FreshM T own₀ adr → OwnOff (T ++ own₀) adr → Sub (T₀ ++ own) (T ++ own) → Post r → Q r { s with heap := h', toks := tk' }) :
    wpAny (model PySem.Challenge.rw_no0075_01.row.prog w) (ktrTop dp un gd cn cs L a ccd cl outer) (call (.ref f) args) Q E s := by
  refine Spec.use (C (M ++ (T₀ ++ own₀)) (Sub.appR2 (Sub.appR2 hsub)) (Sub.appR1 (Sub.refl _))) B F X N T hk hd hu hn ?_
  rintro r _ h' tk' F' N' ⟨T', rfl, hf', hp⟩
  have hfT := hf.app eM hf'
  refine ret r (T' ++ T₀) h' tk' F' (News.sub N' ?_) hfT (hfT.off (offSub (Sub.appR2 (Sub.refl _)) off)) (by rw [List.append_assoc]; exact Sub.appR2 (Sub.refl _)) hp
  intro p hp
  simp only [List.mem_append] at hp ⊢
  rcases hp with h | (h | h) | h <;> simp [h]
/-- what may stand for most_new -/
inductive OptInt : Value → Option Int → Prop
  | none : OptInt .none .none
  | some (k : Int) (t : Tok) : OptInt (.int k t) (.some k)
/-- a def that turns the part -/
def MSpec (w : World) (D U : Nat) (f : Addr) (args : List Value) (dx x : Nat) (M own : Led) (Post : Value → PS → Led → Prop) : Prop :=
  ∀ own₀, Sub own own₀ → OwnOff own₀ [dx, x] → Spec w D U f args (M ++ own₀) (fun r news' => ∃ T M' p', news' = M' ++ (T ++ own₀) ∧ FreshM T own₀ [dx, x] ∧ PartL w.params dx x p' (T ++ own) M' ∧ Post r p' (T ++ own))
theorem MSpec.start {w : World} {D U : Nat} {f : Addr} {args : List Value} {dx x : Nat} {M own : Led} {Post : Value → PS → Led → Prop}
    (h : ∀ own₀, Sub own own₀ → OwnOff own₀ [dx, x] → ∀ R : Value → Led → Prop, (∀ r T M' p', FreshM T own₀ [dx, x] → PartL w.params dx x p' (T ++ own) M' → Post r p' (T ++ own) → R r (M' ++ (T ++ own₀))) → Spec w D U f args (M ++ own₀) R) : MSpec w D U f args dx x M own Post :=
  fun own₀ h1 h2 => h own₀ h1 h2 _ fun _ T M' p' hf hL hp => ⟨T, M', p', rfl, hf, hL, hp⟩
def ChunkAt (tl : Led) (v : Value) (c : Int × Array UInt8 × Bool) : Prop := ∃ (a : Nat) (t u : Tok) (n : Nat), v = .ref a ∧ (a, ({ cls := .type "tuple", data := .seq #[.int c.1 t, .bytes c.2.1 u, .bool c.2.2] n } : Obj)) ∈ tl
theorem st_in (st : St) : (([Str.ofString "ready", Str.ofString "send"] : List Str).any (· == st.str)) = st.isOpen := by cases st <;> decide
theorem st_lost (st : St) : (([Str.ofString "send", Str.ofString "data_sent"] : List Str).any (· == st.str)) = (decide (st = .send) || decide (st = .sent)) := by cases st <;> decide
theorem st_eq (st st' : St) : (st.str = st'.str) = (st = st') := by
  apply propext
  cases st <;> cases st' <;> decide
theorem st_r1 {st : St} (h : st.isOpen = true) : false = decide (st = .recvd) := by revert h; cases st <;> decide
theorem st_r2 {st : St} (h : st.isOpen = false) (h' : (st.str != Str.ofString "data_sent") = true) : true = decide (st = .recvd) := by revert h h'; cases st <;> decide
theorem st_r3 {st : St} (h' : (st.str != Str.ofString "data_sent") = false) : false = decide (st = .recvd) := by revert h'; cases st <;> decide
theorem two_lt {dx x D : Nat} {P : Prop} (h : dx < D ∧ x < D ∧ P) : ∀ b ∈ [dx, x], @LT.lt Nat _ b D := by
  intro b hb
  simp only [List.mem_cons, List.not_mem_nil, or_false] at hb
  rcases hb with rfl | rfl
  · exact h.1
  · exact h.2.1
theorem ce1 {p : PS} {q1 q2 : Int} (h1 : p.fin = true) (h2 : q2 = (p.W.size : Int)) (h3 : p.ow = true) : Value.bool p.ow = Value.bool (chunkEnd p q1 q2) := by simp [chunkEnd, h1, h3]; exact h2
theorem ce2 {p : PS} {q1 q2 : Int} (h1 : p.fin = true) (h2 : q2 = (p.W.size : Int)) (h3 : p.ow = false) : Value.bool (decide (q1 < q2)) = Value.bool (chunkEnd p q1 q2) := by
  have h4 : q2 = p.n := h2
  simp [chunkEnd, h1, h3, h4]
theorem ce3 {p : PS} {q1 q2 : Int} (h1 : p.fin = true) (h2 : q2 ≠ (p.W.size : Int)) : Value.bool (q2 == (p.W.size : Int)) = Value.bool (chunkEnd p q1 q2) := by
  have h4 : ¬ q2 = p.n := h2
  have h5 : (q2 == (p.W.size : Int)) = false := by simpa using h2
  rw [h5]
  simp [chunkEnd, h4]
theorem ce4 {p : PS} {q1 q2 : Int} (h1 : p.fin = false) : Value.bool p.fin = Value.bool (chunkEnd p q1 q2) := by simp [chunkEnd, h1]
theorem se1 {e : Bool} {st : St} {t : Tok} (h : e = true) : ∃ u, Value.str (Str.ofString "data_sent") t = Value.str (if e || decide (st = .sent) then St.sent else St.send).str u := ⟨t, by simp [h, St.str]⟩
theorem se2 {e : Bool} {st : St} {t : Tok} (h : (st.str == Str.ofString "data_sent") = true) : ∃ u, Value.str (Str.ofString "data_sent") t = Value.str (if e || decide (st = .sent) then St.sent else St.send).str u := by
  have h2 : st = .sent := by revert h; cases st <;> decide
  exact ⟨t, by simp [h2, St.str]⟩
theorem se3 {e : Bool} {st : St} {t : Tok} (h : e = false) (h' : (st.str == Str.ofString "data_sent") = false) : ∃ u, Value.str (Str.ofString "send") t = Value.str (if e || decide (st = .sent) then St.sent else St.send).str u := by
  have h2 : st ≠ .sent := by revert h'; cases st <;> decide
  exact ⟨t, by simp [h, h2, St.str]⟩
theorem st_sent {st : St} (h : (st.str == Str.ofString "data_sent") = true) : st = .sent := by revert h; cases st <;> decide
theorem st_unsent {st : St} (h : (st.str == Str.ofString "data_sent") = false) : st ≠ .sent := by revert h; cases st <;> decide
local macro_rules | `(tactic| walk_at $s:str) => `(tactic| k_extra $s)
local macro_rules | `(tactic| k_mem) => `(tactic| first | exact List.mem_cons_self .. | (with_reducible assumption) | (refine List.mem_cons_of_mem _ ?_; k_mem))
def AddP (ps : List (Int × Int)) (lo₀ hi₀ : Int) (i : Nat) (aps : List (Int × Int)) (m : Str → Option Value) : Prop :=
  ∃ (put : Bool) (lo hi : Int) (t u : Tok), (aps, put, lo, hi) = (ps.take i).foldl addStep ([], false, lo₀, hi₀) ∧ m (Str.ofString "is_put") = some (.bool put) ∧ m (Str.ofString "low") = some (.int lo t) ∧ m (Str.ofString "high") = some (.int hi u)
theorem addP_next {ps : List (Int × Int)} {lo₀ hi₀ lo hi lo' hi' : Int} {i : Nat} {aps qs : List (Int × Int)} {put put' : Bool} {m' : Str → Option Value} {t u : Tok} {p : Int × Int} (hst : (aps, put, lo, hi) = (ps.take i).foldl addStep ([], false, lo₀, hi₀)) (hpi : ps[i]? = some p)
    (hs : addStep (aps, put, lo, hi) p = (aps ++ qs, put', lo', hi')) (h1 : m' (Str.ofString "is_put") = some (.bool put')) (h2 : m' (Str.ofString "low") = some (.int lo' t)) (h3 : m' (Str.ofString "high") = some (.int hi' u)) : AddP ps lo₀ hi₀ (i + 1) (aps ++ qs) m' :=
  ⟨put', lo', hi', t, u, by rw [List.take_add_one, hpi, List.foldl_append, ← hst]; exact hs.symm, h1, h2, h3⟩
theorem add_spec (w : World) (l : Nat) (ps : List (Int × Int)) (lo hi : Int) (t u : Tok) (own : Led) (hs : SpansAt own (.ref l) ps) (hz : ps.length ≤ 1000) :
    PSpec w 1 8 48 [.ref l, .int lo t, .int hi u] own (fun r own' => SpansAt own' r (addSpan ps lo hi)) := by
  k_with_none
  (k_with "call type:list" => (k_here; (with_reducible show wpAny _ _ (call (Value.type _) [Value.ref _]) _ _ _); k_dflt (refine' r_list ?nsF ?nsN ?nsm ?nsz ?_; (case nsF => k_asm); (case nsN => k_asm); (case nsm => k_mem); (case nsz => omega)); intro D' c' h' F' N' l1; (try k_lt l1); (try k_sweep)))
  (k_with "binaryOp Add ref ref" => (k_here; (with_reducible show wpAny _ _ (binaryOp _ (Value.ref _) (Value.ref _)) _ _ _); k_dflt (refine' r_cat ?nsF ?nsN ?nsm ?nsb ?nsz ?_; (case nsF => k_asm); (case nsN => k_asm); (case nsm => k_mem); (case nsb => k_mem); (case nsz => (simp only [List.length_cons, List.length_nil]; omega))); intro D' h' F' N' l1; (try k_lt l1); (try k_sweep)))
  (k_with "call builtin:list.append" => (k_here; (with_reducible show wpAny _ _ (call (Value.builtin _) [Value.ref _, _]) _ _ _); k_dflt (refine' r_append ?nsF ?nsN ?nsU ?nsz ?_; (case nsF => k_asm); (case nsN => k_asm); (case nsU => k_upd); (case nsz => (simp only [List.length_append, List.length_cons, List.length_nil]; omega))); intro h' F' N'; (try k_sweep)))
  (k_with "exec For Tuple Name cons nil" => (k_here; (rename Fr _ _ _ _ => lF'); (with_unfolding_all refine' For_turns lF' ?_); (try k_fold)))
  (k_with "sub" => (repeat' (first | (with_reducible exact Sub.refl _) | (with_reducible exact Sub.nil) | (with_reducible assumption) | ((with_reducible show Sub (_ :: _) _); refine Sub.consL (by k_mem) ?_) | (with_reducible refine Sub.appL ?_ ?_) | (with_reducible exact Sub.appR1 (Sub.refl _)) | (with_reducible exact Sub.appR2 (Sub.refl _)) | (with_reducible exact Sub.appR1 (Sub.appR1 (Sub.refl _))) | (with_reducible exact Sub.appR1 (Sub.appR2 (Sub.refl _))) | (with_reducible refine Sub.consR ?_) | (with_reducible refine Sub.appR2 ?_))))
  (k_with "call builtin:list.pop" => (k_here; (with_reducible show wpAny _ _ (call (Value.builtin _) [Value.ref _, Value.int _ _]) _ _ _); k_dflt (refine' pop0 ?nsF ?nsN ?nsU ?nsz ?_; (case nsF => k_asm); (case nsN => k_asm); (case nsU => k_upd); (case nsz => omega)); (intro h' F' N')))
  (k_with "call builtin:len" => (k_here; (with_reducible show wpAny _ _ (call (Value.builtin "len") [Value.ref _]) _ _ _); k_dflt (refine' r_len ?nsF ?nsN ?nsm ?nse ?nsz ?_; (case nsF => k_asm); (case nsN => k_asm); (case nsm => k_mem); (case nse => first | exact rfl | assumption | (simp only [List.length_cons, List.length_nil]; exact rfl)); (case nsz => ((try simp only [List.length_cons, List.length_nil, List.length_append, List.length_map]); omega))); (try simp only [List.length_cons, List.length_nil])))
  (k_with "subscriptTail" => (k_here; (with_reducible show wpAny _ _ (subscriptTail _ _ (Value.ref _) (Value.int _ _)) _ _ _); (with_unfolding_all refine' r_item ?nsN ?nsm ?nsh0 ?nshi ?nshx ?_ ?nshs; (case nsN => k_asm); (case nsm => k_mem); (case nsh0 => decide); (case nshi => decide); (case nshx => rfl); (case nshs => with_unfolding_all rfl); k_whole)))
  (k_with "compareOp In str ref" => (k_here; (with_reducible show wpAny _ _ (compareOp _ (Value.str _ _) (Value.ref _)) _ _ _); (first | (with_unfolding_all refine' r_instr true ?nsht ?nshi ?nshb ?_; (case nsht => first | exact News.isTup (by k_asm) (by k_mem) | exact kun_topT (by k_asm) (by k_asm) (by k_is)); (case nshi => kde_strs); (case nshb => decide)) | (with_unfolding_all refine' r_instr false ?nsht ?nshi ?nshb ?_; (case nsht => first | exact News.isTup (by k_asm) (by k_mem) | exact kun_topT (by k_asm) (by k_asm) (by k_is)); (case nshi => kde_strs); (case nshb => decide)) | (with_unfolding_all refine' r_instr _ ?nsht ?nshi ?nshb ?_; (case nsht => first | exact News.isTup (by k_asm) (by k_mem) | exact kun_topT (by k_asm) (by k_asm) (by k_is)); (case nshi => kde_strs); (case nshb => walk_at "st in")))))
  (k_with "compareOp NotIn str ref" => (k_here; (with_reducible show wpAny _ _ (compareOp _ (Value.str _ _) (Value.ref _)) _ _ _); (first | (with_unfolding_all refine' r_notinstr true ?nsht ?nshi ?nshb ?_; (case nsht => first | exact News.isTup (by k_asm) (by k_mem) | exact kun_topT (by k_asm) (by k_asm) (by k_is)); (case nshi => kde_strs); (case nshb => decide)) | (with_unfolding_all refine' r_notinstr false ?nsht ?nshi ?nshb ?_; (case nsht => first | exact News.isTup (by k_asm) (by k_mem) | exact kun_topT (by k_asm) (by k_asm) (by k_is)); (case nshi => kde_strs); (case nshb => decide)) | (with_unfolding_all refine' r_notinstr _ ?nsht ?nshi ?nshb ?_; (case nsht => first | exact News.isTup (by k_asm) (by k_mem) | exact kun_topT (by k_asm) (by k_asm) (by k_is)); (case nshi => kde_strs); (case nshb => walk_at "st in")))))
  (k_with "exec If" => k_dflt (k_extra "my if"))
  (k_with "eval BoolOp" => k_dflt (k_extra "my bool"))
  (k_with "eval IfExp" => k_dflt (k_extra "my ifexp"))
  (k_with "isTrue BoolOp" => k_dflt (k_extra "my test"))
  (k_with "call ref" => k_dflt (k_extra "my call"))
  (k_with "subscriptTail" => (k_here; (with_reducible show wpAny _ _ (subscriptTail _ (Expr.Slice _ _ none _) (Value.bytes _ _) (Value.ref _)) _ _ _); (with_reducible rename Fr _ _ _ _ => F'); (with_reducible rename News _ _ _ _ => N'); k_dflt (refine r_bslice (s := ⟨_, _, _, _, _⟩) F' N' (by constructor) (by constructor) (by omega) ?_); intro _ _ _ _ _))
  (k_with "call type:bytes" => (k_here; (with_reducible show wpAny _ _ (call (Value.type "bytes") [Value.bytes _ _]) _ _ _); refine call_bytes_bytes ?_))
  (k_with "newTuple" => (k_here; k_dflt (refine' r_newTuple ?nsF ?nsN ?nsz ?_; (case nsF => k_asm); (case nsN => k_asm); (case nsz => exact Nat.le_of_ble_eq_true rfl)); intro D' h' F' N' l1; (have l0 := l1); (try k_lt l1); (try k_sweep)))
  (k_with "newList" => (k_here; k_dflt (refine' r_newList ?nsF ?nsN ?nsz ?_; (case nsF => k_asm); (case nsN => k_asm); (case nsz => exact Nat.le_of_ble_eq_true rfl)); intro D' h' F' N' l1; (have l0 := l1); (try k_lt l1); (try k_sweep)))
  (k_with "binaryOp Add bytes bytes" => (k_here; (with_reducible show wpAny _ _ (binaryOp _ (Value.bytes _ _) (Value.bytes _ _)) _ _ _); refine r_badd (by omega) ?_; intro _ _))
  (k_with "exec For Tuple Call cons nil" => (k_here; (rename Fr _ _ _ _ => lF'); (with_unfolding_all refine' For_turns lF' ?_); (try k_fold)))
  obtain ⟨_, vs, n, e, hl, hp⟩ := hs
  cases e
  intro own₀ hsub
  have hl₀ := hsub _ hl
  unfold Spec
  have hvl := hp.length
  k_fill
  intro mean mg mb dp un gd cn cs a ccd cl outer A₀ base h₀ L m s Q E B F X N T hk hd hu hret
  refine wpAny_call ?_
  k_dflt cell_enter
  k_steps
  · refine hret _ ([(_, listOf _ _)] ++ own₀) _ _ (by k_asm) (News.sub (by assumption) (by walk_at "sub")) ⟨_, rfl, Fresh.cons (by assumption) Fresh.nil, _, vs, _, rfl, .head _, ?_⟩
    unfold addSpan
    rw [if_pos (by assumption)]
    exact hp.mono (Sub.appR2 (Sub.refl _))
  · rename News _ _ _ (_ :: _) => N₁
    rename Fr _ _ _ _ => F₁
    refine loopL (l := l) (vs := vs) (nn := n) (news := (_, listOf [].toArray 0) :: ([] ++ own₀)) (FoundJ own own₀ (AddP ps lo hi)) rfl (.tail _ hl₀) F₁ (News.sub N₁ (Sub.consR (Sub.refl _))) ?_ ?_ ?_
    · exact ⟨[], _, [], 0, [], rfl, offNil, by assumption, Fresh.nil, .nil, Nat.le_refl _, rfl, false, lo, hi, t, u, rfl, rfl, rfl, rfl⟩
    · intro i v m₁ nx h tk own₁ hv off hl₁ hJ F₂ N₂
      clear N₁ F₁ hl₁
      refine FoundJ.turn hJ N₂ off hp hsub hv ?_
      clear hJ N₂ off hv
      intro T fo vs' n' aps R p1 p2 a1 t1 u1 n1 hR N₂ off hTf hof hfr hps hlen hm1 hPa hpi ha1 ha2 offR
      obtain ⟨put, lo', hi', t', u', hst, hm2, hm3, hm4⟩ := hPa
      have hi1 : i < 1000 := by have := (List.getElem?_eq_some_iff.mp hpi).1; omega
      have F₃ := frNames [(Str.ofString "found", .ref fo), (Str.ofString "is_put", .bool put), (Str.ofString "low", .int lo' t'), (Str.ofString "high", .int hi' u')] F₂ (by intro p hp; simp only [List.mem_cons, List.not_mem_nil, or_false] at hp; rcases hp with rfl | rfl | rfl | rfl <;> assumption)
      clear F₂
      k_steps
      · rename News _ _ _ (_ :: _) => N₉
        simp only [List.push_toArray, List.append_assoc, List.cons_append, List.nil_append] at N₉
        have h1 : p2 < lo' := by assumption
        exact found_close [(_, _)] [.ref _] [(p1, p2)] hR off hTf hof hfr hps hlen (hsub _ hl) (by assumption) N₉ (by walk_at "sub") (by intro q hq; rw [List.mem_singleton.mp hq]; assumption) (.cons ⟨_, _, _, _, rfl, .head _⟩ .nil) (by simp) rfl (addP_next hst hpi (put' := put) (lo' := lo') (hi' := hi') (by simp [addStep, h1]) rfl rfl rfl)
      · rename News _ _ _ (_ :: _) => N₉
        simp only [List.push_toArray, List.append_assoc, List.cons_append, List.nil_append] at N₉
        have h1 : ¬ p2 < lo' := by assumption
        have h2 : hi' < p1 := by assumption
        have h3 : put = true := by assumption
        exact found_close [(_, _)] [.ref _] [(p1, p2)] hR off hTf hof hfr hps hlen (hsub _ hl) (by assumption) N₉ (by walk_at "sub") (by intro q hq; rw [List.mem_singleton.mp hq]; assumption) (.cons ⟨_, _, _, _, rfl, .head _⟩ .nil) (by simp) rfl (addP_next hst hpi (put' := put) (lo' := lo') (hi' := hi') (by simp [addStep, h1, h2, h3]) rfl rfl rfl)
      · rename News _ _ _ (_ :: _) => N₉
        simp only [List.push_toArray, List.append_assoc, List.cons_append, List.nil_append] at N₉
        have h1 : ¬ p2 < lo' := by assumption
        have h2 : hi' < p1 := by assumption
        have h3 : put = false := by assumption
        exact found_close [(_, _), (_, _)] [.ref _, .ref _] [(lo', hi'), (p1, p2)] hR off hTf hof hfr hps hlen (hsub _ hl) (by assumption) N₉ (by walk_at "sub") (by intro q hq; simp only [List.mem_cons, List.not_mem_nil, or_false] at hq; rcases hq with rfl | rfl; exact And.right (by assumption); assumption) (.cons ⟨_, _, _, _, rfl, .tail _ (.head _)⟩ (.cons ⟨_, _, _, _, rfl, .head _⟩ .nil)) (by simp) rfl (addP_next hst hpi (put' := true) (lo' := lo') (hi' := hi') (by simp [addStep, h1, h2, h3]) rfl rfl rfl)
      · rename News _ _ _ (_ :: _) => N₉
        have h1 : ¬ p2 < lo' := by assumption
        have h2 : ¬ hi' < p1 := by assumption
        exact found_close [] [] [] hR off hTf hof hfr hps hlen (hsub _ hl) (by assumption) N₉ (by simp only [List.append_nil]; walk_at "sub") (fun q hq => absurd hq List.not_mem_nil) .nil (by simp) rfl (addP_next hst hpi (put' := put) (lo' := min lo' p1) (hi' := max hi' p2) (by simp [addStep, h1, h2]) rfl (by rw [← min_is]; rfl) (by rw [← max_is]; rfl))
    · intro m₁ nx h tk hl₁ hJ F₂ N₂
      clear N₁ F₁ hl₁
      refine FoundJ.done hJ N₂ ?_
      clear hJ N₂
      intro T fo vs' n' aps N₂ hTf hof hfr hps hlen hm1 hPa
      obtain ⟨put, lo', hi', t', u', hst, hm2, hm3, hm4⟩ := hPa
      have F₃ := frNames [(Str.ofString "found", .ref fo), (Str.ofString "is_put", .bool put), (Str.ofString "low", .int lo' t'), (Str.ofString "high", .int hi' u')] F₂ (by intro p hp; simp only [List.mem_cons, List.not_mem_nil, or_false] at hp; rcases hp with rfl | rfl | rfl | rfl <;> assumption)
      clear F₂
      dsimp only
      have hfull : ps.take vs.length = ps := by rw [hvl, List.take_length]
      rw [hfull] at hst
      k_steps
      · have h3 : put = true := by assumption
        refine hret _ ((((fo, listOf vs'.toArray n') :: T)) ++ own₀) _ _ (by k_asm) (News.sub (by assumption) (by walk_at "sub")) ⟨_, rfl, Fresh.cons hof hfr, fo, vs', n', rfl, .head _, ?_⟩
        unfold addSpan
        rw [if_neg (by assumption), ← hst]
        simp only [addEnd, h3, if_true]
        exact hps.mono (Sub.consR (Sub.refl _))
      · have h3 : put = false := by assumption
        refine hret _ (([(_, listOf (vs' ++ [Value.ref _]).toArray _), (_, ({ cls := .type "tuple", data := .seq #[.int lo' t', .int hi' u'] } : Obj))] ++ T) ++ own₀) _ _ (by k_asm) (News.sub (by assumption) (by walk_at "sub")) ⟨_, rfl, Fresh.app (Fresh.cons (allLt_sub (And.right (And.right (And.right (by assumption)))) (Sub.appR2 (Sub.refl _))) (Fresh.cons (allLt_sub (And.right (by assumption)) (Sub.appR2 (Sub.refl _))) Fresh.nil)) hfr, _, _, _, rfl, .head _, ?_⟩
        unfold addSpan
        rw [if_neg (by assumption), ← hst]
        simp only [addEnd, h3, Bool.false_eq_true, if_false]
        exact (hps.mono (Sub.consR (Sub.consR (Sub.refl _)))).append (.cons ⟨_, _, _, _, rfl, .tail _ (.head _)⟩ .nil)
def CutP (l : Nat) (ps : List (Int × Int)) (lo hi : Int) (t u : Tok) (i : Nat) (aps : List (Int × Int)) (m : Str → Option Value) : Prop :=
  aps = (ps.take i).flatMap (cutOne lo hi) ∧ m (Str.ofString "spans") = some (.ref l) ∧ m (Str.ofString "low") = some (.int lo t) ∧ m (Str.ofString "high") = some (.int hi u)
theorem cutP_next {l : Nat} {ps : List (Int × Int)} {lo hi : Int} {i : Nat} {aps qs : List (Int × Int)} {m' : Str → Option Value} {t u : Tok} {p : Int × Int} (hst : aps = (ps.take i).flatMap (cutOne lo hi)) (hpi : ps[i]? = some p) (hs : cutOne lo hi p = qs)
    (h1 : m' (Str.ofString "spans") = some (.ref l)) (h2 : m' (Str.ofString "low") = some (.int lo t)) (h3 : m' (Str.ofString "high") = some (.int hi u)) : CutP l ps lo hi t u (i + 1) (aps ++ qs) m' :=
  ⟨by rw [List.take_add_one, hpi, List.flatMap_append, ← hst, ← hs]; simp, h1, h2, h3⟩
theorem cut_spec (w : World) (l : Nat) (ps : List (Int × Int)) (lo hi : Int) (t u : Tok) (own : Led) (hs : SpansAt own (.ref l) ps) (hz : ps.length ≤ 1000) :
    PSpec w 1 8 55 [.ref l, .int lo t, .int hi u] own (fun r own' => SpansAt own' r (cutSpan ps lo hi)) := by
  k_with_none
  (k_with "call type:list" => (k_here; (with_reducible show wpAny _ _ (call (Value.type _) [Value.ref _]) _ _ _); k_dflt (refine' r_list ?nsF ?nsN ?nsm ?nsz ?_; (case nsF => k_asm); (case nsN => k_asm); (case nsm => k_mem); (case nsz => omega)); intro D' c' h' F' N' l1; (try k_lt l1); (try k_sweep)))
  (k_with "binaryOp Add ref ref" => (k_here; (with_reducible show wpAny _ _ (binaryOp _ (Value.ref _) (Value.ref _)) _ _ _); k_dflt (refine' r_cat ?nsF ?nsN ?nsm ?nsb ?nsz ?_; (case nsF => k_asm); (case nsN => k_asm); (case nsm => k_mem); (case nsb => k_mem); (case nsz => (simp only [List.length_cons, List.length_nil]; omega))); intro D' h' F' N' l1; (try k_lt l1); (try k_sweep)))
  (k_with "call builtin:list.append" => (k_here; (with_reducible show wpAny _ _ (call (Value.builtin _) [Value.ref _, _]) _ _ _); k_dflt (refine' r_append ?nsF ?nsN ?nsU ?nsz ?_; (case nsF => k_asm); (case nsN => k_asm); (case nsU => k_upd); (case nsz => (simp only [List.length_append, List.length_cons, List.length_nil]; omega))); intro h' F' N'; (try k_sweep)))
  (k_with "exec For Tuple Name cons nil" => (k_here; (rename Fr _ _ _ _ => lF'); (with_unfolding_all refine' For_turns lF' ?_); (try k_fold)))
  (k_with "sub" => (repeat' (first | (with_reducible exact Sub.refl _) | (with_reducible exact Sub.nil) | (with_reducible assumption) | ((with_reducible show Sub (_ :: _) _); refine Sub.consL (by k_mem) ?_) | (with_reducible refine Sub.appL ?_ ?_) | (with_reducible exact Sub.appR1 (Sub.refl _)) | (with_reducible exact Sub.appR2 (Sub.refl _)) | (with_reducible exact Sub.appR1 (Sub.appR1 (Sub.refl _))) | (with_reducible exact Sub.appR1 (Sub.appR2 (Sub.refl _))) | (with_reducible refine Sub.consR ?_) | (with_reducible refine Sub.appR2 ?_))))
  (k_with "call builtin:list.pop" => (k_here; (with_reducible show wpAny _ _ (call (Value.builtin _) [Value.ref _, Value.int _ _]) _ _ _); k_dflt (refine' pop0 ?nsF ?nsN ?nsU ?nsz ?_; (case nsF => k_asm); (case nsN => k_asm); (case nsU => k_upd); (case nsz => omega)); (intro h' F' N')))
  (k_with "call builtin:len" => (k_here; (with_reducible show wpAny _ _ (call (Value.builtin "len") [Value.ref _]) _ _ _); k_dflt (refine' r_len ?nsF ?nsN ?nsm ?nse ?nsz ?_; (case nsF => k_asm); (case nsN => k_asm); (case nsm => k_mem); (case nse => first | exact rfl | assumption | (simp only [List.length_cons, List.length_nil]; exact rfl)); (case nsz => ((try simp only [List.length_cons, List.length_nil, List.length_append, List.length_map]); omega))); (try simp only [List.length_cons, List.length_nil])))
  (k_with "subscriptTail" => (k_here; (with_reducible show wpAny _ _ (subscriptTail _ _ (Value.ref _) (Value.int _ _)) _ _ _); (with_unfolding_all refine' r_item ?nsN ?nsm ?nsh0 ?nshi ?nshx ?_ ?nshs; (case nsN => k_asm); (case nsm => k_mem); (case nsh0 => decide); (case nshi => decide); (case nshx => rfl); (case nshs => with_unfolding_all rfl); k_whole)))
  (k_with "compareOp In str ref" => (k_here; (with_reducible show wpAny _ _ (compareOp _ (Value.str _ _) (Value.ref _)) _ _ _); (first | (with_unfolding_all refine' r_instr true ?nsht ?nshi ?nshb ?_; (case nsht => first | exact News.isTup (by k_asm) (by k_mem) | exact kun_topT (by k_asm) (by k_asm) (by k_is)); (case nshi => kde_strs); (case nshb => decide)) | (with_unfolding_all refine' r_instr false ?nsht ?nshi ?nshb ?_; (case nsht => first | exact News.isTup (by k_asm) (by k_mem) | exact kun_topT (by k_asm) (by k_asm) (by k_is)); (case nshi => kde_strs); (case nshb => decide)) | (with_unfolding_all refine' r_instr _ ?nsht ?nshi ?nshb ?_; (case nsht => first | exact News.isTup (by k_asm) (by k_mem) | exact kun_topT (by k_asm) (by k_asm) (by k_is)); (case nshi => kde_strs); (case nshb => walk_at "st in")))))
  (k_with "compareOp NotIn str ref" => (k_here; (with_reducible show wpAny _ _ (compareOp _ (Value.str _ _) (Value.ref _)) _ _ _); (first | (with_unfolding_all refine' r_notinstr true ?nsht ?nshi ?nshb ?_; (case nsht => first | exact News.isTup (by k_asm) (by k_mem) | exact kun_topT (by k_asm) (by k_asm) (by k_is)); (case nshi => kde_strs); (case nshb => decide)) | (with_unfolding_all refine' r_notinstr false ?nsht ?nshi ?nshb ?_; (case nsht => first | exact News.isTup (by k_asm) (by k_mem) | exact kun_topT (by k_asm) (by k_asm) (by k_is)); (case nshi => kde_strs); (case nshb => decide)) | (with_unfolding_all refine' r_notinstr _ ?nsht ?nshi ?nshb ?_; (case nsht => first | exact News.isTup (by k_asm) (by k_mem) | exact kun_topT (by k_asm) (by k_asm) (by k_is)); (case nshi => kde_strs); (case nshb => walk_at "st in")))))
  (k_with "exec If" => k_dflt (k_extra "my if"))
  (k_with "eval BoolOp" => k_dflt (k_extra "my bool"))
  (k_with "eval IfExp" => k_dflt (k_extra "my ifexp"))
  (k_with "isTrue BoolOp" => k_dflt (k_extra "my test"))
  (k_with "call ref" => k_dflt (k_extra "my call"))
  (k_with "subscriptTail" => (k_here; (with_reducible show wpAny _ _ (subscriptTail _ (Expr.Slice _ _ none _) (Value.bytes _ _) (Value.ref _)) _ _ _); (with_reducible rename Fr _ _ _ _ => F'); (with_reducible rename News _ _ _ _ => N'); k_dflt (refine r_bslice (s := ⟨_, _, _, _, _⟩) F' N' (by constructor) (by constructor) (by omega) ?_); intro _ _ _ _ _))
  (k_with "call type:bytes" => (k_here; (with_reducible show wpAny _ _ (call (Value.type "bytes") [Value.bytes _ _]) _ _ _); refine call_bytes_bytes ?_))
  (k_with "newTuple" => (k_here; k_dflt (refine' r_newTuple ?nsF ?nsN ?nsz ?_; (case nsF => k_asm); (case nsN => k_asm); (case nsz => exact Nat.le_of_ble_eq_true rfl)); intro D' h' F' N' l1; (have l0 := l1); (try k_lt l1); (try k_sweep)))
  (k_with "newList" => (k_here; k_dflt (refine' r_newList ?nsF ?nsN ?nsz ?_; (case nsF => k_asm); (case nsN => k_asm); (case nsz => exact Nat.le_of_ble_eq_true rfl)); intro D' h' F' N' l1; (have l0 := l1); (try k_lt l1); (try k_sweep)))
  (k_with "binaryOp Add bytes bytes" => (k_here; (with_reducible show wpAny _ _ (binaryOp _ (Value.bytes _ _) (Value.bytes _ _)) _ _ _); refine r_badd (by omega) ?_; intro _ _))
  (k_with "exec For Tuple Call cons nil" => (k_here; (rename Fr _ _ _ _ => lF'); (with_unfolding_all refine' For_turns lF' ?_); (try k_fold)))
  obtain ⟨_, vs, n, e, hl, hp⟩ := hs
  cases e
  intro own₀ hsub
  have hl₀ := hsub _ hl
  unfold Spec
  have hvl := hp.length
  k_fill
  intro mean mg mb dp un gd cn cs a ccd cl outer A₀ base h₀ L m s Q E B F X N T hk hd hu hret
  refine wpAny_call ?_
  k_dflt cell_enter
  k_steps
  · rename News _ _ _ (_ :: _) => N₁
    rename Fr _ _ _ _ => F₁
    refine loopL (l := l) (vs := vs) (nn := n) (news := (_, listOf [].toArray 0) :: ([] ++ own₀)) (FoundJ own own₀ (CutP l ps lo hi t u)) rfl (.tail _ hl₀) F₁ (News.sub N₁ (Sub.refl _)) ?_ ?_ ?_
    · exact ⟨[], _, [], 0, [], rfl, offNil, by assumption, Fresh.nil, .nil, Nat.le_refl _, rfl, rfl, rfl, rfl, rfl⟩
    · intro i v m₁ nx h tk own₁ hv off hl₁ hJ F₂ N₂
      clear N₁ F₁ hl₁
      refine FoundJ.turn hJ N₂ off hp hsub hv ?_
      clear hJ N₂ off hv
      intro T fo vs' n' aps R p1 p2 a1 t1 u1 n1 hR N₂ off hTf hof hfr hps hlen hm1 hPa hpi ha1 ha2 offR
      obtain ⟨hst, hm2, hm3, hm4⟩ := hPa
      have hi1 : i < 1000 := by have := (List.getElem?_eq_some_iff.mp hpi).1; omega
      have F₃ := frNames [(Str.ofString "found", .ref fo), (Str.ofString "spans", .ref l), (Str.ofString "low", .int lo t), (Str.ofString "high", .int hi u)] F₂ (by intro p hp; simp only [List.mem_cons, List.not_mem_nil, or_false] at hp; rcases hp with rfl | rfl | rfl | rfl <;> assumption)
      clear F₂
      k_steps
      · rename News _ _ _ (_ :: _) => N₉
        try simp only [List.push_toArray, List.append_assoc, List.cons_append, List.nil_append] at N₉
        simp only [min_is, max_is] at *
        have h1 : p1 < min p2 lo := by assumption
        have h2 : max p1 hi < p2 := by assumption
        exact found_close [(_, _), (_, _)] [.ref _, .ref _] [(p1, min p2 lo), (max p1 hi, p2)] hR off hTf hof hfr hps hlen (hsub _ hl) (by assumption) N₉ (by walk_at "sub") (by intro q hq; simp only [List.mem_cons, List.not_mem_nil, or_false] at hq; rcases hq with rfl | rfl; exact And.right (by assumption); assumption) (.cons ⟨_, _, _, _, rfl, .tail _ (.head _)⟩ (.cons ⟨_, _, _, _, rfl, .head _⟩ .nil)) (by simp) rfl (cutP_next hst hpi (by simp [cutOne, h1, h2]) rfl rfl rfl)
      · rename News _ _ _ (_ :: _) => N₉
        try simp only [List.push_toArray, List.append_assoc, List.cons_append, List.nil_append] at N₉
        simp only [min_is, max_is] at *
        have h1 : p1 < min p2 lo := by assumption
        have h2 : ¬ max p1 hi < p2 := by assumption
        exact found_close [(_, _)] [.ref _] [(p1, min p2 lo)] hR off hTf hof hfr hps hlen (hsub _ hl) (by assumption) N₉ (by walk_at "sub") (by intro q hq; rw [List.mem_singleton.mp hq]; assumption) (.cons ⟨_, _, _, _, rfl, .head _⟩ .nil) (by simp) rfl (cutP_next hst hpi (by simp [cutOne, h1, h2]) rfl rfl rfl)
      · rename News _ _ _ (_ :: _) => N₉
        try simp only [List.push_toArray, List.append_assoc, List.cons_append, List.nil_append] at N₉
        simp only [min_is, max_is] at *
        have h1 : ¬ p1 < min p2 lo := by assumption
        have h2 : max p1 hi < p2 := by assumption
        exact found_close [(_, _)] [.ref _] [(max p1 hi, p2)] hR off hTf hof hfr hps hlen (hsub _ hl) (by assumption) N₉ (by walk_at "sub") (by intro q hq; rw [List.mem_singleton.mp hq]; assumption) (.cons ⟨_, _, _, _, rfl, .head _⟩ .nil) (by simp) rfl (cutP_next hst hpi (by simp [cutOne, h1, h2]) rfl rfl rfl)
      · rename News _ _ _ (_ :: _) => N₉
        try simp only [List.push_toArray, List.append_assoc, List.cons_append, List.nil_append] at N₉
        simp only [min_is, max_is] at *
        have h1 : ¬ p1 < min p2 lo := by assumption
        have h2 : ¬ max p1 hi < p2 := by assumption
        exact found_close [] [] [] hR off hTf hof hfr hps hlen (hsub _ hl) (by assumption) N₉ (by simp only [List.append_nil]; walk_at "sub") (fun q hq => absurd hq List.not_mem_nil) .nil (by simp) rfl (cutP_next hst hpi (by simp [cutOne, h1, h2]) rfl rfl rfl)
    · intro m₁ nx h tk hl₁ hJ F₂ N₂
      clear N₁ F₁ hl₁
      refine FoundJ.done hJ N₂ ?_
      clear hJ N₂
      intro T fo vs' n' aps N₂ hTf hof hfr hps hlen hm1 hPa
      obtain ⟨hst, hm2, hm3, hm4⟩ := hPa
      have F₃ := frNames [(Str.ofString "found", .ref fo), (Str.ofString "spans", .ref l), (Str.ofString "low", .int lo t), (Str.ofString "high", .int hi u)] F₂ (by intro p hp; simp only [List.mem_cons, List.not_mem_nil, or_false] at hp; rcases hp with rfl | rfl | rfl | rfl <;> assumption)
      clear F₂
      dsimp only
      have hfull : ps.take vs.length = ps := by rw [hvl, List.take_length]
      rw [hfull] at hst
      k_steps
      · refine hret _ ((((fo, listOf vs'.toArray n') :: T)) ++ own₀) _ _ (by k_asm) (News.sub (by assumption) (by walk_at "sub")) ⟨_, rfl, Fresh.cons hof hfr, fo, vs', n', rfl, .head _, ?_⟩
        unfold cutSpan
        rw [if_pos (by assumption), ← hst]
        exact hps.mono (Sub.consR (Sub.refl _))
      · refine hret _ ([(_, listOf vs.toArray _)] ++ own₀) _ _ (by k_asm) (News.sub (by assumption) (by walk_at "sub")) ⟨_, rfl, Fresh.cons (allLt_sub (And.right (by assumption)) (Sub.appR2 (Sub.refl _))) Fresh.nil, _, _, _, rfl, .head _, ?_⟩
        unfold cutSpan
        rw [if_neg (by assumption)]
        exact hp.mono (Sub.appR2 (Sub.refl _))
def HasJ (own₀ : Led) (l : Nat) (ps : List (Int × Int)) (lo hi : Int) (t u : Tok) (i : Nat) (m : Str → Option Value) (nx : Led) : Prop :=
  nx = own₀ ∧ (∀ p ∈ ps.take i, ¬ (p.1 ≤ lo ∧ hi ≤ p.2)) ∧ m (Str.ofString "spans") = some (.ref l) ∧ m (Str.ofString "low") = some (.int lo t) ∧ m (Str.ofString "high") = some (.int hi u)
theorem hasNext {ps : List (Int × Int)} {lo hi : Int} {i : Nat} {q : Int × Int} (h : ∀ p ∈ ps.take i, ¬ (p.1 ≤ lo ∧ hi ≤ p.2)) (e : ps[i]? = some q) (k : ¬ (q.1 ≤ lo ∧ hi ≤ q.2)) : ∀ p ∈ ps.take (i + 1), ¬ (p.1 ≤ lo ∧ hi ≤ p.2) := by
  intro p hp
  rw [List.take_add_one, e] at hp
  rcases List.mem_append.mp hp with h1 | h1
  · exact h p h1
  · simp at h1; subst h1; exact k
theorem has_spec (w : World) (l : Nat) (ps : List (Int × Int)) (lo hi : Int) (t u : Tok) (own : Led) (hs : SpansAt own (.ref l) ps) (hz : ps.length ≤ 1000) :
    PSpec w 1 8 62 [.ref l, .int lo t, .int hi u] own (fun r _ => r = .bool (hasSpan ps lo hi)) := by
  k_with_none
  (k_with "call type:list" => (k_here; (with_reducible show wpAny _ _ (call (Value.type _) [Value.ref _]) _ _ _); k_dflt (refine' r_list ?nsF ?nsN ?nsm ?nsz ?_; (case nsF => k_asm); (case nsN => k_asm); (case nsm => k_mem); (case nsz => omega)); intro D' c' h' F' N' l1; (try k_lt l1); (try k_sweep)))
  (k_with "binaryOp Add ref ref" => (k_here; (with_reducible show wpAny _ _ (binaryOp _ (Value.ref _) (Value.ref _)) _ _ _); k_dflt (refine' r_cat ?nsF ?nsN ?nsm ?nsb ?nsz ?_; (case nsF => k_asm); (case nsN => k_asm); (case nsm => k_mem); (case nsb => k_mem); (case nsz => (simp only [List.length_cons, List.length_nil]; omega))); intro D' h' F' N' l1; (try k_lt l1); (try k_sweep)))
  (k_with "call builtin:list.append" => (k_here; (with_reducible show wpAny _ _ (call (Value.builtin _) [Value.ref _, _]) _ _ _); k_dflt (refine' r_append ?nsF ?nsN ?nsU ?nsz ?_; (case nsF => k_asm); (case nsN => k_asm); (case nsU => k_upd); (case nsz => (simp only [List.length_append, List.length_cons, List.length_nil]; omega))); intro h' F' N'; (try k_sweep)))
  (k_with "exec For Tuple Name cons nil" => (k_here; (rename Fr _ _ _ _ => lF'); (with_unfolding_all refine' For_turns lF' ?_); (try k_fold)))
  (k_with "sub" => (repeat' (first | (with_reducible exact Sub.refl _) | (with_reducible exact Sub.nil) | (with_reducible assumption) | ((with_reducible show Sub (_ :: _) _); refine Sub.consL (by k_mem) ?_) | (with_reducible refine Sub.appL ?_ ?_) | (with_reducible exact Sub.appR1 (Sub.refl _)) | (with_reducible exact Sub.appR2 (Sub.refl _)) | (with_reducible exact Sub.appR1 (Sub.appR1 (Sub.refl _))) | (with_reducible exact Sub.appR1 (Sub.appR2 (Sub.refl _))) | (with_reducible refine Sub.consR ?_) | (with_reducible refine Sub.appR2 ?_))))
  (k_with "call builtin:list.pop" => (k_here; (with_reducible show wpAny _ _ (call (Value.builtin _) [Value.ref _, Value.int _ _]) _ _ _); k_dflt (refine' pop0 ?nsF ?nsN ?nsU ?nsz ?_; (case nsF => k_asm); (case nsN => k_asm); (case nsU => k_upd); (case nsz => omega)); (intro h' F' N')))
  (k_with "call builtin:len" => (k_here; (with_reducible show wpAny _ _ (call (Value.builtin "len") [Value.ref _]) _ _ _); k_dflt (refine' r_len ?nsF ?nsN ?nsm ?nse ?nsz ?_; (case nsF => k_asm); (case nsN => k_asm); (case nsm => k_mem); (case nse => first | exact rfl | assumption | (simp only [List.length_cons, List.length_nil]; exact rfl)); (case nsz => ((try simp only [List.length_cons, List.length_nil, List.length_append, List.length_map]); omega))); (try simp only [List.length_cons, List.length_nil])))
  (k_with "subscriptTail" => (k_here; (with_reducible show wpAny _ _ (subscriptTail _ _ (Value.ref _) (Value.int _ _)) _ _ _); (with_unfolding_all refine' r_item ?nsN ?nsm ?nsh0 ?nshi ?nshx ?_ ?nshs; (case nsN => k_asm); (case nsm => k_mem); (case nsh0 => decide); (case nshi => decide); (case nshx => rfl); (case nshs => with_unfolding_all rfl); k_whole)))
  (k_with "compareOp In str ref" => (k_here; (with_reducible show wpAny _ _ (compareOp _ (Value.str _ _) (Value.ref _)) _ _ _); (first | (with_unfolding_all refine' r_instr true ?nsht ?nshi ?nshb ?_; (case nsht => first | exact News.isTup (by k_asm) (by k_mem) | exact kun_topT (by k_asm) (by k_asm) (by k_is)); (case nshi => kde_strs); (case nshb => decide)) | (with_unfolding_all refine' r_instr false ?nsht ?nshi ?nshb ?_; (case nsht => first | exact News.isTup (by k_asm) (by k_mem) | exact kun_topT (by k_asm) (by k_asm) (by k_is)); (case nshi => kde_strs); (case nshb => decide)) | (with_unfolding_all refine' r_instr _ ?nsht ?nshi ?nshb ?_; (case nsht => first | exact News.isTup (by k_asm) (by k_mem) | exact kun_topT (by k_asm) (by k_asm) (by k_is)); (case nshi => kde_strs); (case nshb => walk_at "st in")))))
  (k_with "compareOp NotIn str ref" => (k_here; (with_reducible show wpAny _ _ (compareOp _ (Value.str _ _) (Value.ref _)) _ _ _); (first | (with_unfolding_all refine' r_notinstr true ?nsht ?nshi ?nshb ?_; (case nsht => first | exact News.isTup (by k_asm) (by k_mem) | exact kun_topT (by k_asm) (by k_asm) (by k_is)); (case nshi => kde_strs); (case nshb => decide)) | (with_unfolding_all refine' r_notinstr false ?nsht ?nshi ?nshb ?_; (case nsht => first | exact News.isTup (by k_asm) (by k_mem) | exact kun_topT (by k_asm) (by k_asm) (by k_is)); (case nshi => kde_strs); (case nshb => decide)) | (with_unfolding_all refine' r_notinstr _ ?nsht ?nshi ?nshb ?_; (case nsht => first | exact News.isTup (by k_asm) (by k_mem) | exact kun_topT (by k_asm) (by k_asm) (by k_is)); (case nshi => kde_strs); (case nshb => walk_at "st in")))))
  (k_with "exec If" => k_dflt (k_extra "my if"))
  (k_with "eval BoolOp" => k_dflt (k_extra "my bool"))
  (k_with "eval IfExp" => k_dflt (k_extra "my ifexp"))
  (k_with "isTrue BoolOp" => k_dflt (k_extra "my test"))
  (k_with "call ref" => k_dflt (k_extra "my call"))
  (k_with "subscriptTail" => (k_here; (with_reducible show wpAny _ _ (subscriptTail _ (Expr.Slice _ _ none _) (Value.bytes _ _) (Value.ref _)) _ _ _); (with_reducible rename Fr _ _ _ _ => F'); (with_reducible rename News _ _ _ _ => N'); k_dflt (refine r_bslice (s := ⟨_, _, _, _, _⟩) F' N' (by constructor) (by constructor) (by omega) ?_); intro _ _ _ _ _))
  (k_with "call type:bytes" => (k_here; (with_reducible show wpAny _ _ (call (Value.type "bytes") [Value.bytes _ _]) _ _ _); refine call_bytes_bytes ?_))
  (k_with "newTuple" => (k_here; k_dflt (refine' r_newTuple ?nsF ?nsN ?nsz ?_; (case nsF => k_asm); (case nsN => k_asm); (case nsz => exact Nat.le_of_ble_eq_true rfl)); intro D' h' F' N' l1; (have l0 := l1); (try k_lt l1); (try k_sweep)))
  (k_with "newList" => (k_here; k_dflt (refine' r_newList ?nsF ?nsN ?nsz ?_; (case nsF => k_asm); (case nsN => k_asm); (case nsz => exact Nat.le_of_ble_eq_true rfl)); intro D' h' F' N' l1; (have l0 := l1); (try k_lt l1); (try k_sweep)))
  (k_with "binaryOp Add bytes bytes" => (k_here; (with_reducible show wpAny _ _ (binaryOp _ (Value.bytes _ _) (Value.bytes _ _)) _ _ _); refine r_badd (by omega) ?_; intro _ _))
  (k_with "exec For Tuple Call cons nil" => (k_here; (rename Fr _ _ _ _ => lF'); (with_unfolding_all refine' For_turns lF' ?_); (try k_fold)))
  obtain ⟨_, vs, n, e, hl, hp⟩ := hs
  cases e
  intro own₀ hsub
  have hl₀ := hsub _ hl
  unfold Spec
  have hvl := hp.length
  k_fill
  intro mean mg mb dp un gd cn cs a ccd cl outer A₀ base h₀ L m s Q E B F X N T hk hd hu hret
  refine wpAny_call ?_
  k_dflt cell_enter
  k_steps
  · refine hret _ ([] ++ own₀) _ _ (by k_asm) (by k_asm) ⟨_, rfl, Fresh.nil, ?_⟩
    have h1 : hi ≤ lo := by assumption
    simp [hasSpan, h1]
  · rename News _ _ _ _ => N₁
    rename Fr _ _ _ _ => F₁
    refine loopL (l := l) (vs := vs) (nn := n) (news := own₀) (HasJ own₀ l ps lo hi t u) rfl hl₀ F₁ N₁ ?_ ?_ ?_
    · exact ⟨rfl, by intro p hp; simp at hp, rfl, rfl, rfl⟩
    · rintro i v m₁ nx h tk own₁ hv off hl₁ ⟨rfl, hst, hm2, hm3, hm4⟩ F₂ N₂
      clear N₁ F₁
      obtain ⟨⟨p1, p2⟩, hpi, a1, t1, u1, n1, rfl, ha1⟩ := hp.get hv
      have hi1 : i < 1000 := by have := (List.getElem?_eq_some_iff.mp hpi).1; omega
      have F₃ := frNames [(Str.ofString "spans", .ref l), (Str.ofString "low", .int lo t), (Str.ofString "high", .int hi u)] F₂ (by intro p hp; simp only [List.mem_cons, List.not_mem_nil, or_false] at hp; rcases hp with rfl | rfl | rfl <;> assumption)
      clear F₂
      have ha2 : (a1, ({ cls := Value.type "tuple", data := Data.seq #[Value.int p1 t1, Value.int p2 u1] n1 } : Obj)) ∈ nx ++ own₁ := by simp only [List.mem_append]; exact .inl (hsub _ ha1)
      dsimp only at ha1 ha2
      k_steps
      · dsimp only [TEnd]
        k_steps
        refine hret _ ([] ++ nx) _ _ (by k_asm) (News.sub (by assumption) (Sub.appR1 (Sub.refl _))) ⟨_, rfl, Fresh.nil, ?_⟩
        have h1 : ¬ hi ≤ lo := by assumption
        simp only [hasSpan, if_neg h1]
        congr 1
        refine (List.any_eq_true.mpr ⟨(p1, p2), List.mem_of_getElem? hpi, ?_⟩).symm
        simp [*]
      · rename ¬ hi ≤ p2 => h3
        exact TEnd.next nx (by assumption) (by assumption) (Sub.appR1 (Sub.refl _)) (Sub.appR2 (Sub.refl _)) off ⟨hl₁, rfl, hasNext hst hpi (by simp [h3]), rfl, rfl, rfl⟩
      · rename ¬ p1 ≤ lo => h3
        exact TEnd.next nx (by assumption) (by assumption) (Sub.appR1 (Sub.refl _)) (Sub.appR2 (Sub.refl _)) off ⟨hl₁, rfl, hasNext hst hpi (by simp [h3]), rfl, rfl, rfl⟩
    · rintro m₁ nx h tk hl₁ ⟨rfl, hst, hm2, hm3, hm4⟩ F₂ N₂
      clear N₁ F₁
      have F₃ := frNames [(Str.ofString "spans", .ref l), (Str.ofString "low", .int lo t), (Str.ofString "high", .int hi u)] F₂ (by intro p hp; simp only [List.mem_cons, List.not_mem_nil, or_false] at hp; rcases hp with rfl | rfl | rfl <;> assumption)
      clear F₂
      dsimp only
      have hfull : ps.take vs.length = ps := by rw [hvl, List.take_length]
      rw [hfull] at hst
      k_steps
      refine hret _ ([] ++ nx) _ _ (by k_asm) (by k_asm) ⟨_, rfl, Fresh.nil, ?_⟩
      have h1 : ¬ hi ≤ lo := by assumption
      simp only [hasSpan, if_neg h1]
      congr 1
      refine (List.any_eq_false.mpr ?_).symm
      intro p hp
      simpa using hst p hp
theorem first_spec (w : World) (l : Nat) (ps : List (Int × Int)) (most : Int) (t : Tok) (own : Led) (hs : SpansAt own (.ref l) ps) (hz : ps.length ≤ 1000) :
    PSpec w 1 8 69 [.ref l, .int most t] own (fun r own' => match firstSpan ps most with | none => r = .none | some p => PairAt own' r p) := by
  k_with_none
  (k_with "call type:list" => (k_here; (with_reducible show wpAny _ _ (call (Value.type _) [Value.ref _]) _ _ _); k_dflt (refine' r_list ?nsF ?nsN ?nsm ?nsz ?_; (case nsF => k_asm); (case nsN => k_asm); (case nsm => k_mem); (case nsz => omega)); intro D' c' h' F' N' l1; (try k_lt l1); (try k_sweep)))
  (k_with "binaryOp Add ref ref" => (k_here; (with_reducible show wpAny _ _ (binaryOp _ (Value.ref _) (Value.ref _)) _ _ _); k_dflt (refine' r_cat ?nsF ?nsN ?nsm ?nsb ?nsz ?_; (case nsF => k_asm); (case nsN => k_asm); (case nsm => k_mem); (case nsb => k_mem); (case nsz => (simp only [List.length_cons, List.length_nil]; omega))); intro D' h' F' N' l1; (try k_lt l1); (try k_sweep)))
  (k_with "call builtin:list.append" => (k_here; (with_reducible show wpAny _ _ (call (Value.builtin _) [Value.ref _, _]) _ _ _); k_dflt (refine' r_append ?nsF ?nsN ?nsU ?nsz ?_; (case nsF => k_asm); (case nsN => k_asm); (case nsU => k_upd); (case nsz => (simp only [List.length_append, List.length_cons, List.length_nil]; omega))); intro h' F' N'; (try k_sweep)))
  (k_with "exec For Tuple Name cons nil" => (k_here; (rename Fr _ _ _ _ => lF'); (with_unfolding_all refine' For_turns lF' ?_); (try k_fold)))
  (k_with "sub" => (repeat' (first | (with_reducible exact Sub.refl _) | (with_reducible exact Sub.nil) | (with_reducible assumption) | ((with_reducible show Sub (_ :: _) _); refine Sub.consL (by k_mem) ?_) | (with_reducible refine Sub.appL ?_ ?_) | (with_reducible exact Sub.appR1 (Sub.refl _)) | (with_reducible exact Sub.appR2 (Sub.refl _)) | (with_reducible exact Sub.appR1 (Sub.appR1 (Sub.refl _))) | (with_reducible exact Sub.appR1 (Sub.appR2 (Sub.refl _))) | (with_reducible refine Sub.consR ?_) | (with_reducible refine Sub.appR2 ?_))))
  (k_with "call builtin:list.pop" => (k_here; (with_reducible show wpAny _ _ (call (Value.builtin _) [Value.ref _, Value.int _ _]) _ _ _); k_dflt (refine' pop0 ?nsF ?nsN ?nsU ?nsz ?_; (case nsF => k_asm); (case nsN => k_asm); (case nsU => k_upd); (case nsz => omega)); (intro h' F' N')))
  (k_with "call builtin:len" => (k_here; (with_reducible show wpAny _ _ (call (Value.builtin "len") [Value.ref _]) _ _ _); k_dflt (refine' r_len ?nsF ?nsN ?nsm ?nse ?nsz ?_; (case nsF => k_asm); (case nsN => k_asm); (case nsm => k_mem); (case nse => first | exact rfl | assumption | (simp only [List.length_cons, List.length_nil]; exact rfl)); (case nsz => ((try simp only [List.length_cons, List.length_nil, List.length_append, List.length_map]); omega))); (try simp only [List.length_cons, List.length_nil])))
  (k_with "subscriptTail" => (k_here; (with_reducible show wpAny _ _ (subscriptTail _ _ (Value.ref _) (Value.int _ _)) _ _ _); (with_unfolding_all refine' r_item ?nsN ?nsm ?nsh0 ?nshi ?nshx ?_ ?nshs; (case nsN => k_asm); (case nsm => k_mem); (case nsh0 => decide); (case nshi => decide); (case nshx => rfl); (case nshs => with_unfolding_all rfl); k_whole)))
  (k_with "compareOp In str ref" => (k_here; (with_reducible show wpAny _ _ (compareOp _ (Value.str _ _) (Value.ref _)) _ _ _); (first | (with_unfolding_all refine' r_instr true ?nsht ?nshi ?nshb ?_; (case nsht => first | exact News.isTup (by k_asm) (by k_mem) | exact kun_topT (by k_asm) (by k_asm) (by k_is)); (case nshi => kde_strs); (case nshb => decide)) | (with_unfolding_all refine' r_instr false ?nsht ?nshi ?nshb ?_; (case nsht => first | exact News.isTup (by k_asm) (by k_mem) | exact kun_topT (by k_asm) (by k_asm) (by k_is)); (case nshi => kde_strs); (case nshb => decide)) | (with_unfolding_all refine' r_instr _ ?nsht ?nshi ?nshb ?_; (case nsht => first | exact News.isTup (by k_asm) (by k_mem) | exact kun_topT (by k_asm) (by k_asm) (by k_is)); (case nshi => kde_strs); (case nshb => walk_at "st in")))))
  (k_with "compareOp NotIn str ref" => (k_here; (with_reducible show wpAny _ _ (compareOp _ (Value.str _ _) (Value.ref _)) _ _ _); (first | (with_unfolding_all refine' r_notinstr true ?nsht ?nshi ?nshb ?_; (case nsht => first | exact News.isTup (by k_asm) (by k_mem) | exact kun_topT (by k_asm) (by k_asm) (by k_is)); (case nshi => kde_strs); (case nshb => decide)) | (with_unfolding_all refine' r_notinstr false ?nsht ?nshi ?nshb ?_; (case nsht => first | exact News.isTup (by k_asm) (by k_mem) | exact kun_topT (by k_asm) (by k_asm) (by k_is)); (case nshi => kde_strs); (case nshb => decide)) | (with_unfolding_all refine' r_notinstr _ ?nsht ?nshi ?nshb ?_; (case nsht => first | exact News.isTup (by k_asm) (by k_mem) | exact kun_topT (by k_asm) (by k_asm) (by k_is)); (case nshi => kde_strs); (case nshb => walk_at "st in")))))
  (k_with "exec If" => k_dflt (k_extra "my if"))
  (k_with "eval BoolOp" => k_dflt (k_extra "my bool"))
  (k_with "eval IfExp" => k_dflt (k_extra "my ifexp"))
  (k_with "isTrue BoolOp" => k_dflt (k_extra "my test"))
  (k_with "call ref" => k_dflt (k_extra "my call"))
  (k_with "subscriptTail" => (k_here; (with_reducible show wpAny _ _ (subscriptTail _ (Expr.Slice _ _ none _) (Value.bytes _ _) (Value.ref _)) _ _ _); (with_reducible rename Fr _ _ _ _ => F'); (with_reducible rename News _ _ _ _ => N'); k_dflt (refine r_bslice (s := ⟨_, _, _, _, _⟩) F' N' (by constructor) (by constructor) (by omega) ?_); intro _ _ _ _ _))
  (k_with "call type:bytes" => (k_here; (with_reducible show wpAny _ _ (call (Value.type "bytes") [Value.bytes _ _]) _ _ _); refine call_bytes_bytes ?_))
  (k_with "newTuple" => (k_here; k_dflt (refine' r_newTuple ?nsF ?nsN ?nsz ?_; (case nsF => k_asm); (case nsN => k_asm); (case nsz => exact Nat.le_of_ble_eq_true rfl)); intro D' h' F' N' l1; (have l0 := l1); (try k_lt l1); (try k_sweep)))
  (k_with "newList" => (k_here; k_dflt (refine' r_newList ?nsF ?nsN ?nsz ?_; (case nsF => k_asm); (case nsN => k_asm); (case nsz => exact Nat.le_of_ble_eq_true rfl)); intro D' h' F' N' l1; (have l0 := l1); (try k_lt l1); (try k_sweep)))
  (k_with "binaryOp Add bytes bytes" => (k_here; (with_reducible show wpAny _ _ (binaryOp _ (Value.bytes _ _) (Value.bytes _ _)) _ _ _); refine r_badd (by omega) ?_; intro _ _))
  (k_with "exec For Tuple Call cons nil" => (k_here; (rename Fr _ _ _ _ => lF'); (with_unfolding_all refine' For_turns lF' ?_); (try k_fold)))
  obtain ⟨_, vs, n, e, hl, hp⟩ := hs
  cases e
  intro own₀ hsub
  have hl₀ := hsub _ hl
  unfold Spec
  have hvl := hp.length
  cases hp with
  | nil =>
    k_fill
    intro mean mg mb dp un gd cn cs a ccd cl outer A₀ base h₀ L m s Q E B F X N T hk hd hu hret
    refine wpAny_call ?_
    k_dflt cell_enter
    k_steps
    exact hret _ ([] ++ own₀) _ _ (by k_asm) (by k_asm) ⟨_, rfl, Fresh.nil, rfl⟩
  | cons h1 h2 =>
    obtain ⟨a1, t1, u1, n1, rfl, ha1⟩ := h1
    have ha2 := hsub _ ha1
    simp only [List.length_cons] at hvl hz
    k_fill
    intro mean mg mb dp un gd cn cs a ccd cl outer A₀ base h₀ L m s Q E B F X N T hk hd hu hret
    refine wpAny_call ?_
    k_dflt cell_enter
    k_steps
    · exfalso; omega
    · rename most ≤ 0 => h3
      refine hret _ ([] ++ own₀) _ _ (by k_asm) (by k_asm) ⟨_, rfl, Fresh.nil, ?_⟩
      simp only [firstSpan, if_pos h3]
    · rename ¬ most ≤ 0 => h3
      simp only [min_is] at *
      refine hret _ ([(_, _)] ++ own₀) _ _ (by k_asm) (News.sub (by assumption) (by walk_at "sub")) ⟨_, rfl, Fresh.cons (by assumption) Fresh.nil, ?_⟩
      simp only [firstSpan, if_neg h3]
      exact ⟨_, _, _, _, rfl, .head _⟩
theorem first_cases {own' : Led} {r : Value} {ps : List (Int × Int)} {most : Int} (h : match firstSpan ps most with | none => r = .none | some p => PairAt own' r p) :
    (firstSpan ps most = none ∧ r = .none) ∨ ∃ (q1 q2 : Int) (a : Nat) (t u : Tok) (n : Nat), firstSpan ps most = some (q1, q2) ∧ r = .ref a ∧ (a, ({ cls := .type "tuple", data := .seq #[.int q1 t, .int q2 u] n } : Obj)) ∈ own' := by
  cases hf : firstSpan ps most with
  | none => rw [hf] at h; exact .inl ⟨rfl, h⟩
  | some q =>
    rw [hf] at h
    obtain ⟨a, t, u, n, e, hm⟩ := h
    exact .inr ⟨q.1, q.2, a, t, u, n, rfl, e, hm⟩
def WoJ (own own₀ : Led) (l : Nat) (ps qs : List (Int × Int)) (i : Nat) (m : Str → Option Value) (nx : Led) : Prop :=
  ∃ (T : Led) (fo : Nat), nx = T ++ own₀ ∧ Fresh T own₀ ∧ SpansAt (T ++ own) (.ref fo) (withoutSpans ps (qs.take i)) ∧ m (Str.ofString "found") = some (.ref fo) ∧ m (Str.ofString "others") = some (.ref l)
theorem woJ_next {h₀ h' : Heap} {L : Addr} {own own₀ own₁ T T' : Led} {l fo : Nat} {ps qs : List (Int × Int)} {i : Nat} {p : Int × Int} {m' : Str → Option Value} {s₁ : Shared} {tk : Nat} {Q : Flow → Shared → Prop} {ol : Obj}
    (hl : (l, ol) ∈ own₀) (off : OwnOff own₁ ((T ++ own₀).map (·.1))) (hfr : Fresh T own₀) (hfr' : Fresh T' (T ++ own₀ ++ own₁)) (hpi : qs[i]? = some p)
    (hs : SpansAt (T' ++ (T ++ own)) (.ref fo) (cutSpan (withoutSpans ps (qs.take i)) p.1 p.2)) (F : Fr h₀ L h' m') (N : News h₀ L h' (T' ++ (T ++ own₀ ++ own₁)))
    (h1 : m' (Str.ofString "found") = some (.ref fo)) (h2 : m' (Str.ofString "others") = some (.ref l)) :
    TEnd h₀ L (fun m' nx => (l, ol) ∈ nx ∧ WoJ own own₀ l ps qs (i + 1) m' nx) own₁ s₁ Q .next { s₁ with heap := h', toks := tk } := by
  refine TEnd.next ((T' ++ T) ++ own₀) F N ?_ ?_ ?_ ⟨?_, T' ++ T, fo, rfl, ?_, ?_, h1, h2⟩
  · intro q hq; simp only [List.mem_append] at hq ⊢; rcases hq with (h | h) | h <;> simp [h]
  · intro q hq; simp only [List.mem_append]; simp [hq]
  · intro q hq b hb
    simp only [List.map_append, List.mem_append, List.append_assoc] at hb
    rcases hb with h | h | h
    · exact Fresh.off hfr' q (by simp [hq]) b h
    · exact off q hq b (by simp [h])
    · exact off q hq b (by simp [h])
  · simp [hl]
  · exact Fresh.app (hfr'.sub (fun q hq => by simp [hq])) hfr
  · rw [List.take_add_one, hpi]
    unfold withoutSpans
    rw [List.foldl_append]
    rw [List.append_assoc]
    exact hs
theorem without_spec (w : World) (l1 l : Nat) (ps qs : List (Int × Int)) (own : Led) (hs₁ : SpansAt own (.ref l1) ps) (hs : SpansAt own (.ref l) qs) (hz : ∀ i, (withoutSpans ps (qs.take i)).length ≤ 1000) :
    PSpec w 2 16 76 [.ref l1, .ref l] own (fun r own' => SpansAt own' r (withoutSpans ps qs)) := by
  k_with_none
  (k_with "call type:list" => (k_here; (with_reducible show wpAny _ _ (call (Value.type _) [Value.ref _]) _ _ _); k_dflt (refine' r_list ?nsF ?nsN ?nsm ?nsz ?_; (case nsF => k_asm); (case nsN => k_asm); (case nsm => k_mem); (case nsz => omega)); intro D' c' h' F' N' l1; (try k_lt l1); (try k_sweep)))
  (k_with "binaryOp Add ref ref" => (k_here; (with_reducible show wpAny _ _ (binaryOp _ (Value.ref _) (Value.ref _)) _ _ _); k_dflt (refine' r_cat ?nsF ?nsN ?nsm ?nsb ?nsz ?_; (case nsF => k_asm); (case nsN => k_asm); (case nsm => k_mem); (case nsb => k_mem); (case nsz => (simp only [List.length_cons, List.length_nil]; omega))); intro D' h' F' N' l1; (try k_lt l1); (try k_sweep)))
  (k_with "call builtin:list.append" => (k_here; (with_reducible show wpAny _ _ (call (Value.builtin _) [Value.ref _, _]) _ _ _); k_dflt (refine' r_append ?nsF ?nsN ?nsU ?nsz ?_; (case nsF => k_asm); (case nsN => k_asm); (case nsU => k_upd); (case nsz => (simp only [List.length_append, List.length_cons, List.length_nil]; omega))); intro h' F' N'; (try k_sweep)))
  (k_with "exec For Tuple Name cons nil" => (k_here; (rename Fr _ _ _ _ => lF'); (with_unfolding_all refine' For_turns lF' ?_); (try k_fold)))
  (k_with "sub" => (repeat' (first | (with_reducible exact Sub.refl _) | (with_reducible exact Sub.nil) | (with_reducible assumption) | ((with_reducible show Sub (_ :: _) _); refine Sub.consL (by k_mem) ?_) | (with_reducible refine Sub.appL ?_ ?_) | (with_reducible exact Sub.appR1 (Sub.refl _)) | (with_reducible exact Sub.appR2 (Sub.refl _)) | (with_reducible exact Sub.appR1 (Sub.appR1 (Sub.refl _))) | (with_reducible exact Sub.appR1 (Sub.appR2 (Sub.refl _))) | (with_reducible refine Sub.consR ?_) | (with_reducible refine Sub.appR2 ?_))))
  (k_with "call builtin:list.pop" => (k_here; (with_reducible show wpAny _ _ (call (Value.builtin _) [Value.ref _, Value.int _ _]) _ _ _); k_dflt (refine' pop0 ?nsF ?nsN ?nsU ?nsz ?_; (case nsF => k_asm); (case nsN => k_asm); (case nsU => k_upd); (case nsz => omega)); (intro h' F' N')))
  (k_with "call builtin:len" => (k_here; (with_reducible show wpAny _ _ (call (Value.builtin "len") [Value.ref _]) _ _ _); k_dflt (refine' r_len ?nsF ?nsN ?nsm ?nse ?nsz ?_; (case nsF => k_asm); (case nsN => k_asm); (case nsm => k_mem); (case nse => first | exact rfl | assumption | (simp only [List.length_cons, List.length_nil]; exact rfl)); (case nsz => ((try simp only [List.length_cons, List.length_nil, List.length_append, List.length_map]); omega))); (try simp only [List.length_cons, List.length_nil])))
  (k_with "subscriptTail" => (k_here; (with_reducible show wpAny _ _ (subscriptTail _ _ (Value.ref _) (Value.int _ _)) _ _ _); (with_unfolding_all refine' r_item ?nsN ?nsm ?nsh0 ?nshi ?nshx ?_ ?nshs; (case nsN => k_asm); (case nsm => k_mem); (case nsh0 => decide); (case nshi => decide); (case nshx => rfl); (case nshs => with_unfolding_all rfl); k_whole)))
  (k_with "compareOp In str ref" => (k_here; (with_reducible show wpAny _ _ (compareOp _ (Value.str _ _) (Value.ref _)) _ _ _); (first | (with_unfolding_all refine' r_instr true ?nsht ?nshi ?nshb ?_; (case nsht => first | exact News.isTup (by k_asm) (by k_mem) | exact kun_topT (by k_asm) (by k_asm) (by k_is)); (case nshi => kde_strs); (case nshb => decide)) | (with_unfolding_all refine' r_instr false ?nsht ?nshi ?nshb ?_; (case nsht => first | exact News.isTup (by k_asm) (by k_mem) | exact kun_topT (by k_asm) (by k_asm) (by k_is)); (case nshi => kde_strs); (case nshb => decide)) | (with_unfolding_all refine' r_instr _ ?nsht ?nshi ?nshb ?_; (case nsht => first | exact News.isTup (by k_asm) (by k_mem) | exact kun_topT (by k_asm) (by k_asm) (by k_is)); (case nshi => kde_strs); (case nshb => walk_at "st in")))))
  (k_with "compareOp NotIn str ref" => (k_here; (with_reducible show wpAny _ _ (compareOp _ (Value.str _ _) (Value.ref _)) _ _ _); (first | (with_unfolding_all refine' r_notinstr true ?nsht ?nshi ?nshb ?_; (case nsht => first | exact News.isTup (by k_asm) (by k_mem) | exact kun_topT (by k_asm) (by k_asm) (by k_is)); (case nshi => kde_strs); (case nshb => decide)) | (with_unfolding_all refine' r_notinstr false ?nsht ?nshi ?nshb ?_; (case nsht => first | exact News.isTup (by k_asm) (by k_mem) | exact kun_topT (by k_asm) (by k_asm) (by k_is)); (case nshi => kde_strs); (case nshb => decide)) | (with_unfolding_all refine' r_notinstr _ ?nsht ?nshi ?nshb ?_; (case nsht => first | exact News.isTup (by k_asm) (by k_mem) | exact kun_topT (by k_asm) (by k_asm) (by k_is)); (case nshi => kde_strs); (case nshb => walk_at "st in")))))
  (k_with "exec If" => k_dflt (k_extra "my if"))
  (k_with "eval BoolOp" => k_dflt (k_extra "my bool"))
  (k_with "eval IfExp" => k_dflt (k_extra "my ifexp"))
  (k_with "isTrue BoolOp" => k_dflt (k_extra "my test"))
  (k_with "call ref" => k_dflt (k_extra "my call"))
  (k_with "subscriptTail" => (k_here; (with_reducible show wpAny _ _ (subscriptTail _ (Expr.Slice _ _ none _) (Value.bytes _ _) (Value.ref _)) _ _ _); (with_reducible rename Fr _ _ _ _ => F'); (with_reducible rename News _ _ _ _ => N'); k_dflt (refine r_bslice (s := ⟨_, _, _, _, _⟩) F' N' (by constructor) (by constructor) (by omega) ?_); intro _ _ _ _ _))
  (k_with "call type:bytes" => (k_here; (with_reducible show wpAny _ _ (call (Value.type "bytes") [Value.bytes _ _]) _ _ _); refine call_bytes_bytes ?_))
  (k_with "newTuple" => (k_here; k_dflt (refine' r_newTuple ?nsF ?nsN ?nsz ?_; (case nsF => k_asm); (case nsN => k_asm); (case nsz => exact Nat.le_of_ble_eq_true rfl)); intro D' h' F' N' l1; (have l0 := l1); (try k_lt l1); (try k_sweep)))
  (k_with "newList" => (k_here; k_dflt (refine' r_newList ?nsF ?nsN ?nsz ?_; (case nsF => k_asm); (case nsN => k_asm); (case nsz => exact Nat.le_of_ble_eq_true rfl)); intro D' h' F' N' l1; (have l0 := l1); (try k_lt l1); (try k_sweep)))
  (k_with "binaryOp Add bytes bytes" => (k_here; (with_reducible show wpAny _ _ (binaryOp _ (Value.bytes _ _) (Value.bytes _ _)) _ _ _); refine r_badd (by omega) ?_; intro _ _))
  (k_with "exec For Tuple Call cons nil" => (k_here; (rename Fr _ _ _ _ => lF'); (with_unfolding_all refine' For_turns lF' ?_); (try k_fold)))
  obtain ⟨_, vs, n, e, hl, hp⟩ := hs
  obtain ⟨_, vs1, n1, e1, hl1, hp1⟩ := hs₁
  cases e
  cases e1
  intro own₀ hsub
  have hl₀ := hsub _ hl
  have hl1₀ := hsub _ hl1
  have hv1 : vs1.length ≤ 1000 := by have := hz 0; have := hp1.length; simp [withoutSpans] at *; omega
  unfold Spec
  have hvl := hp.length
  k_fill
  intro mean mg mb dp un gd cn cs a ccd cl outer A₀ base h₀ L m s Q E B F X N T hk hd hu hret
  refine wpAny_call ?_
  k_dflt cell_enter
  (k_with "my call" => (
    (with_reducible show wpAny _ _ (call (Value.ref 55) [Value.ref _, Value.int _ _, Value.int _ _]) _ _ _)
    refine' Spec.use (cut_spec _ _ _ _ _ _ _ _ ?hs ?hz _ ?hsub) ?B ?F ?X ?N ?T ?hk ?hd ?hu (Sub.refl _) ?_
    (case B => k_asm)
    (case F => k_asm)
    (case X => k_asm)
    (case N => k_asm)
    (case T => k_asm)
    (case hk => exact rfl)
    (case hd => ktr_room)
    (case hu => ktr_units)
    (case hsub => assumption)
    (case hs => assumption)
    (case hz => assumption)
    rintro r9 _ h9 tk9 F9 N9 ⟨T9, rfl, hf9, hs9⟩
    obtain ⟨f9, vs9, n9, rfl, hq9⟩ := id hs9
    (try dsimp only)
    (try k_fold)))
  k_steps
  rename News _ _ _ (_ :: _) => N₁
  rename Fr _ _ _ _ => F₁
  refine loopL (l := l) (vs := vs) (nn := n) (news := [(_, listOf vs1.toArray _)] ++ own₀) (WoJ own own₀ l ps qs) rfl (.tail _ hl₀) F₁ (News.sub N₁ (Sub.refl _)) ?_ ?_ ?_
  · exact ⟨[(_, _)], _, rfl, Fresh.cons (by assumption) Fresh.nil, ⟨_, vs1, _, rfl, .head _, hp1.mono (Sub.appR2 (Sub.refl _))⟩, rfl, rfl⟩
  · rintro i v m₁ nx h tk own₁ hv off hl₁ ⟨T, fo, rfl, hfr, hss, hm1, hm2⟩ F₂ N₂
    clear N₁ F₁
    obtain ⟨⟨p1, p2⟩, hpi, a1, t1, u1, n1, rfl, ha1⟩ := hp.get hv
    have F₃ := frNames [(Str.ofString "found", .ref fo), (Str.ofString "others", .ref l)] F₂ (by intro p hp; simp only [List.mem_cons, List.not_mem_nil, or_false] at hp; rcases hp with rfl | rfl <;> assumption)
    clear F₂
    have ha2 : (a1, ({ cls := Value.type "tuple", data := Data.seq #[Value.int p1 t1, Value.int p2 u1] n1 } : Obj)) ∈ T ++ own₀ ++ own₁ := by simp only [List.mem_append]; exact .inl (.inr (hsub _ ha1))
    dsimp only at ha1 ha2
    have hz1 := hz i
    have hsub9 : Sub (T ++ own) (T ++ own₀ ++ own₁) := by intro q hq; simp only [List.mem_append] at hq ⊢; rcases hq with h | h; simp [h]; simp [hsub _ h]
    k_steps
    exact woJ_next (hsub _ hl) off hfr hf9 hpi hs9 (by k_asm) (by k_asm) rfl rfl
  · rintro m₁ nx h tk hl₁ ⟨T, fo, rfl, hfr, hss, hm1, hm2⟩ F₂ N₂
    clear N₁ F₁
    have F₃ := frNames [(Str.ofString "found", .ref fo), (Str.ofString "others", .ref l)] F₂ (by intro p hp; simp only [List.mem_cons, List.not_mem_nil, or_false] at hp; rcases hp with rfl | rfl <;> assumption)
    clear F₂
    dsimp only
    have hfull : qs.take vs.length = qs := by rw [hvl, List.take_length]
    rw [hfull] at hss
    k_steps
    exact hret _ (T ++ own₀) _ _ (by k_asm) (by k_asm) ⟨_, rfl, hfr, hss⟩
theorem room_is {lim se : Int} {st : St} {W : Array UInt8} {A B : Sp} {fin ow ea : Bool} (h : st.isOpen = true) : (if (if lim < (W.size : Int) then lim else (W.size : Int)) - se > 0 then (if lim < (W.size : Int) then lim else (W.size : Int)) - se else 0) = newRoom { lim := lim, st := st, W := W, se := se, A := A, B := B, fin := fin, ow := ow, ea := ea } none := by
  simp only [newRoom, PS.n, h, if_true, min_is, max_is]
theorem room_is2 {lim se k : Int} {st : St} {W : Array UInt8} {A B : Sp} {fin ow ea : Bool} (h : st.isOpen = true) : (if (if k < (if lim < (W.size : Int) then lim else (W.size : Int)) - se then k else (if lim < (W.size : Int) then lim else (W.size : Int)) - se) > 0 then (if k < (if lim < (W.size : Int) then lim else (W.size : Int)) - se then k else (if lim < (W.size : Int) then lim else (W.size : Int)) - se) else 0) = newRoom { lim := lim, st := st, W := W, se := se, A := A, B := B, fin := fin, ow := ow, ea := ea } (some k) := by
  simp only [newRoom, PS.n, h, if_true, min_is, max_is]
theorem room_no {lim se : Int} {st : St} {W : Array UInt8} {A B : Sp} {fin ow ea : Bool} {mn : Option Int} (h : st.isOpen = false) : 0 = newRoom { lim := lim, st := st, W := W, se := se, A := A, B := B, fin := fin, ow := ow, ea := ea } mn := by
  simp only [newRoom, h, Bool.false_eq_true, if_false]
theorem room_spec (w : World) (dx x : Nat) (p : PS) (M own : Led) (v : Value) (mn : Option Int) (hP : PartL w.params dx x p own M) (hv : OptInt v mn) (hz : p.W.size ≤ 1000) :
    RSpec w 1 8 133 [.ref x, v] M own (fun r => ∃ t, r = .int (newRoom p mn) t) := by
  k_with_none
  (k_with "call type:list" => (k_here; (with_reducible show wpAny _ _ (call (Value.type _) [Value.ref _]) _ _ _); k_dflt (refine' r_list ?nsF ?nsN ?nsm ?nsz ?_; (case nsF => k_asm); (case nsN => k_asm); (case nsm => k_mem); (case nsz => omega)); intro D' c' h' F' N' l1; (try k_lt l1); (try k_sweep)))
  (k_with "binaryOp Add ref ref" => (k_here; (with_reducible show wpAny _ _ (binaryOp _ (Value.ref _) (Value.ref _)) _ _ _); k_dflt (refine' r_cat ?nsF ?nsN ?nsm ?nsb ?nsz ?_; (case nsF => k_asm); (case nsN => k_asm); (case nsm => k_mem); (case nsb => k_mem); (case nsz => (simp only [List.length_cons, List.length_nil]; omega))); intro D' h' F' N' l1; (try k_lt l1); (try k_sweep)))
  (k_with "call builtin:list.append" => (k_here; (with_reducible show wpAny _ _ (call (Value.builtin _) [Value.ref _, _]) _ _ _); k_dflt (refine' r_append ?nsF ?nsN ?nsU ?nsz ?_; (case nsF => k_asm); (case nsN => k_asm); (case nsU => k_upd); (case nsz => (simp only [List.length_append, List.length_cons, List.length_nil]; omega))); intro h' F' N'; (try k_sweep)))
  (k_with "exec For Tuple Name cons nil" => (k_here; (rename Fr _ _ _ _ => lF'); (with_unfolding_all refine' For_turns lF' ?_); (try k_fold)))
  (k_with "sub" => (repeat' (first | (with_reducible exact Sub.refl _) | (with_reducible exact Sub.nil) | (with_reducible assumption) | ((with_reducible show Sub (_ :: _) _); refine Sub.consL (by k_mem) ?_) | (with_reducible refine Sub.appL ?_ ?_) | (with_reducible exact Sub.appR1 (Sub.refl _)) | (with_reducible exact Sub.appR2 (Sub.refl _)) | (with_reducible exact Sub.appR1 (Sub.appR1 (Sub.refl _))) | (with_reducible exact Sub.appR1 (Sub.appR2 (Sub.refl _))) | (with_reducible refine Sub.consR ?_) | (with_reducible refine Sub.appR2 ?_))))
  (k_with "call builtin:list.pop" => (k_here; (with_reducible show wpAny _ _ (call (Value.builtin _) [Value.ref _, Value.int _ _]) _ _ _); k_dflt (refine' pop0 ?nsF ?nsN ?nsU ?nsz ?_; (case nsF => k_asm); (case nsN => k_asm); (case nsU => k_upd); (case nsz => omega)); (intro h' F' N')))
  (k_with "call builtin:len" => (k_here; (with_reducible show wpAny _ _ (call (Value.builtin "len") [Value.ref _]) _ _ _); k_dflt (refine' r_len ?nsF ?nsN ?nsm ?nse ?nsz ?_; (case nsF => k_asm); (case nsN => k_asm); (case nsm => k_mem); (case nse => first | exact rfl | assumption | (simp only [List.length_cons, List.length_nil]; exact rfl)); (case nsz => ((try simp only [List.length_cons, List.length_nil, List.length_append, List.length_map]); omega))); (try simp only [List.length_cons, List.length_nil])))
  (k_with "subscriptTail" => (k_here; (with_reducible show wpAny _ _ (subscriptTail _ _ (Value.ref _) (Value.int _ _)) _ _ _); (with_unfolding_all refine' r_item ?nsN ?nsm ?nsh0 ?nshi ?nshx ?_ ?nshs; (case nsN => k_asm); (case nsm => k_mem); (case nsh0 => decide); (case nshi => decide); (case nshx => rfl); (case nshs => with_unfolding_all rfl); k_whole)))
  (k_with "compareOp In str ref" => (k_here; (with_reducible show wpAny _ _ (compareOp _ (Value.str _ _) (Value.ref _)) _ _ _); (first | (with_unfolding_all refine' r_instr true ?nsht ?nshi ?nshb ?_; (case nsht => first | exact News.isTup (by k_asm) (by k_mem) | exact kun_topT (by k_asm) (by k_asm) (by k_is)); (case nshi => kde_strs); (case nshb => decide)) | (with_unfolding_all refine' r_instr false ?nsht ?nshi ?nshb ?_; (case nsht => first | exact News.isTup (by k_asm) (by k_mem) | exact kun_topT (by k_asm) (by k_asm) (by k_is)); (case nshi => kde_strs); (case nshb => decide)) | (with_unfolding_all refine' r_instr _ ?nsht ?nshi ?nshb ?_; (case nsht => first | exact News.isTup (by k_asm) (by k_mem) | exact kun_topT (by k_asm) (by k_asm) (by k_is)); (case nshi => kde_strs); (case nshb => walk_at "st in")))))
  (k_with "compareOp NotIn str ref" => (k_here; (with_reducible show wpAny _ _ (compareOp _ (Value.str _ _) (Value.ref _)) _ _ _); (first | (with_unfolding_all refine' r_notinstr true ?nsht ?nshi ?nshb ?_; (case nsht => first | exact News.isTup (by k_asm) (by k_mem) | exact kun_topT (by k_asm) (by k_asm) (by k_is)); (case nshi => kde_strs); (case nshb => decide)) | (with_unfolding_all refine' r_notinstr false ?nsht ?nshi ?nshb ?_; (case nsht => first | exact News.isTup (by k_asm) (by k_mem) | exact kun_topT (by k_asm) (by k_asm) (by k_is)); (case nshi => kde_strs); (case nshb => decide)) | (with_unfolding_all refine' r_notinstr _ ?nsht ?nshi ?nshb ?_; (case nsht => first | exact News.isTup (by k_asm) (by k_mem) | exact kun_topT (by k_asm) (by k_asm) (by k_is)); (case nshi => kde_strs); (case nshb => walk_at "st in")))))
  (k_with "exec If" => k_dflt (k_extra "my if"))
  (k_with "eval BoolOp" => k_dflt (k_extra "my bool"))
  (k_with "eval IfExp" => k_dflt (k_extra "my ifexp"))
  (k_with "isTrue BoolOp" => k_dflt (k_extra "my test"))
  (k_with "call ref" => k_dflt (k_extra "my call"))
  (k_with "subscriptTail" => (k_here; (with_reducible show wpAny _ _ (subscriptTail _ (Expr.Slice _ _ none _) (Value.bytes _ _) (Value.ref _)) _ _ _); (with_reducible rename Fr _ _ _ _ => F'); (with_reducible rename News _ _ _ _ => N'); k_dflt (refine r_bslice (s := ⟨_, _, _, _, _⟩) F' N' (by constructor) (by constructor) (by omega) ?_); intro _ _ _ _ _))
  (k_with "call type:bytes" => (k_here; (with_reducible show wpAny _ _ (call (Value.type "bytes") [Value.bytes _ _]) _ _ _); refine call_bytes_bytes ?_))
  (k_with "newTuple" => (k_here; k_dflt (refine' r_newTuple ?nsF ?nsN ?nsz ?_; (case nsF => k_asm); (case nsN => k_asm); (case nsz => exact Nat.le_of_ble_eq_true rfl)); intro D' h' F' N' l1; (have l0 := l1); (try k_lt l1); (try k_sweep)))
  (k_with "newList" => (k_here; k_dflt (refine' r_newList ?nsF ?nsN ?nsz ?_; (case nsF => k_asm); (case nsN => k_asm); (case nsz => exact Nat.le_of_ble_eq_true rfl)); intro D' h' F' N' l1; (have l0 := l1); (try k_lt l1); (try k_sweep)))
  (k_with "binaryOp Add bytes bytes" => (k_here; (with_reducible show wpAny _ _ (binaryOp _ (Value.bytes _ _) (Value.bytes _ _)) _ _ _); refine r_badd (by omega) ?_; intro _ _))
  (k_with "exec For Tuple Call cons nil" => (k_here; (rename Fr _ _ _ _ => lF'); (with_unfolding_all refine' For_turns lF' ?_); (try k_fold)))
  (k_with "st in" => first | exact congrArg not (st_in _) | exact congrArg not (st_lost _) | exact st_in _ | exact st_lost _)
  (k_with "lt" => (intro b hb; (simp only [List.mem_cons, List.not_mem_nil, or_false] at hb); rcases hb with rfl | rfl <;> omega))
  (k_with "apart" => ((try simp only [List.cons_append, List.nil_append]); (repeat' (first | exact offNil | (refine offCons (by k_all) ?_)))))
  refine PartL.elim hP ?_
  clear hP
  intro k t1 t2 t3 t4 la lb hA hB
  obtain ⟨lim, st, W, se, A, B, fin, ow, ea⟩ := p
  dsimp only at *
  intro own₀ hsub hM
  have m1 := hM _ (.head _)
  have m2 := hM _ (.tail _ (.head _))
  clear hM
  dsimp only [partEs] at m1
  unfold Spec
  cases hv
  all_goals (
    k_fill
    intro mean mg mb dp un gd cn cs a ccd cl outer A₀ base h₀ L m s Q E B F X N T hk hd hu hret
    refine wpAny_call ?_
    k_dflt cell_enter
    k_steps)
  all_goals (
    refine hret _ ([] ++ own₀) _ _ (by k_asm) (by k_asm) ⟨_, rfl, Fresh.nil, _, congrArg (fun z => Value.int z _) ?_⟩
    first
    | (have ho : st.isOpen = true := by assumption
       exact room_is ho)
    | (have ho : st.isOpen = true := by assumption
       exact room_is2 ho)
    | (have ho : st.isOpen = false := by assumption
       exact room_no ho))
theorem blocked_spec (w : World) (dx x : Nat) (p : PS) (M own : Led) (hP : PartL w.params dx x p own M) (hz : p.W.size ≤ 1000) :
    RSpec w 1 8 140 [.ref x] M own (fun r => if p.st.isOpen ∧ p.lim ≤ p.se ∧ p.se < p.n then ∃ t, r = .int p.lim t else r = .none) := by
  k_with_none
  (k_with "call type:list" => (k_here; (with_reducible show wpAny _ _ (call (Value.type _) [Value.ref _]) _ _ _); k_dflt (refine' r_list ?nsF ?nsN ?nsm ?nsz ?_; (case nsF => k_asm); (case nsN => k_asm); (case nsm => k_mem); (case nsz => omega)); intro D' c' h' F' N' l1; (try k_lt l1); (try k_sweep)))
  (k_with "binaryOp Add ref ref" => (k_here; (with_reducible show wpAny _ _ (binaryOp _ (Value.ref _) (Value.ref _)) _ _ _); k_dflt (refine' r_cat ?nsF ?nsN ?nsm ?nsb ?nsz ?_; (case nsF => k_asm); (case nsN => k_asm); (case nsm => k_mem); (case nsb => k_mem); (case nsz => (simp only [List.length_cons, List.length_nil]; omega))); intro D' h' F' N' l1; (try k_lt l1); (try k_sweep)))
  (k_with "call builtin:list.append" => (k_here; (with_reducible show wpAny _ _ (call (Value.builtin _) [Value.ref _, _]) _ _ _); k_dflt (refine' r_append ?nsF ?nsN ?nsU ?nsz ?_; (case nsF => k_asm); (case nsN => k_asm); (case nsU => k_upd); (case nsz => (simp only [List.length_append, List.length_cons, List.length_nil]; omega))); intro h' F' N'; (try k_sweep)))
  (k_with "exec For Tuple Name cons nil" => (k_here; (rename Fr _ _ _ _ => lF'); (with_unfolding_all refine' For_turns lF' ?_); (try k_fold)))
  (k_with "sub" => (repeat' (first | (with_reducible exact Sub.refl _) | (with_reducible exact Sub.nil) | (with_reducible assumption) | ((with_reducible show Sub (_ :: _) _); refine Sub.consL (by k_mem) ?_) | (with_reducible refine Sub.appL ?_ ?_) | (with_reducible exact Sub.appR1 (Sub.refl _)) | (with_reducible exact Sub.appR2 (Sub.refl _)) | (with_reducible exact Sub.appR1 (Sub.appR1 (Sub.refl _))) | (with_reducible exact Sub.appR1 (Sub.appR2 (Sub.refl _))) | (with_reducible refine Sub.consR ?_) | (with_reducible refine Sub.appR2 ?_))))
  (k_with "call builtin:list.pop" => (k_here; (with_reducible show wpAny _ _ (call (Value.builtin _) [Value.ref _, Value.int _ _]) _ _ _); k_dflt (refine' pop0 ?nsF ?nsN ?nsU ?nsz ?_; (case nsF => k_asm); (case nsN => k_asm); (case nsU => k_upd); (case nsz => omega)); (intro h' F' N')))
  (k_with "call builtin:len" => (k_here; (with_reducible show wpAny _ _ (call (Value.builtin "len") [Value.ref _]) _ _ _); k_dflt (refine' r_len ?nsF ?nsN ?nsm ?nse ?nsz ?_; (case nsF => k_asm); (case nsN => k_asm); (case nsm => k_mem); (case nse => first | exact rfl | assumption | (simp only [List.length_cons, List.length_nil]; exact rfl)); (case nsz => ((try simp only [List.length_cons, List.length_nil, List.length_append, List.length_map]); omega))); (try simp only [List.length_cons, List.length_nil])))
  (k_with "subscriptTail" => (k_here; (with_reducible show wpAny _ _ (subscriptTail _ _ (Value.ref _) (Value.int _ _)) _ _ _); (with_unfolding_all refine' r_item ?nsN ?nsm ?nsh0 ?nshi ?nshx ?_ ?nshs; (case nsN => k_asm); (case nsm => k_mem); (case nsh0 => decide); (case nshi => decide); (case nshx => rfl); (case nshs => with_unfolding_all rfl); k_whole)))
  (k_with "compareOp In str ref" => (k_here; (with_reducible show wpAny _ _ (compareOp _ (Value.str _ _) (Value.ref _)) _ _ _); (first | (with_unfolding_all refine' r_instr true ?nsht ?nshi ?nshb ?_; (case nsht => first | exact News.isTup (by k_asm) (by k_mem) | exact kun_topT (by k_asm) (by k_asm) (by k_is)); (case nshi => kde_strs); (case nshb => decide)) | (with_unfolding_all refine' r_instr false ?nsht ?nshi ?nshb ?_; (case nsht => first | exact News.isTup (by k_asm) (by k_mem) | exact kun_topT (by k_asm) (by k_asm) (by k_is)); (case nshi => kde_strs); (case nshb => decide)) | (with_unfolding_all refine' r_instr _ ?nsht ?nshi ?nshb ?_; (case nsht => first | exact News.isTup (by k_asm) (by k_mem) | exact kun_topT (by k_asm) (by k_asm) (by k_is)); (case nshi => kde_strs); (case nshb => walk_at "st in")))))
  (k_with "compareOp NotIn str ref" => (k_here; (with_reducible show wpAny _ _ (compareOp _ (Value.str _ _) (Value.ref _)) _ _ _); (first | (with_unfolding_all refine' r_notinstr true ?nsht ?nshi ?nshb ?_; (case nsht => first | exact News.isTup (by k_asm) (by k_mem) | exact kun_topT (by k_asm) (by k_asm) (by k_is)); (case nshi => kde_strs); (case nshb => decide)) | (with_unfolding_all refine' r_notinstr false ?nsht ?nshi ?nshb ?_; (case nsht => first | exact News.isTup (by k_asm) (by k_mem) | exact kun_topT (by k_asm) (by k_asm) (by k_is)); (case nshi => kde_strs); (case nshb => decide)) | (with_unfolding_all refine' r_notinstr _ ?nsht ?nshi ?nshb ?_; (case nsht => first | exact News.isTup (by k_asm) (by k_mem) | exact kun_topT (by k_asm) (by k_asm) (by k_is)); (case nshi => kde_strs); (case nshb => walk_at "st in")))))
  (k_with "exec If" => k_dflt (k_extra "my if"))
  (k_with "eval BoolOp" => k_dflt (k_extra "my bool"))
  (k_with "eval IfExp" => k_dflt (k_extra "my ifexp"))
  (k_with "isTrue BoolOp" => k_dflt (k_extra "my test"))
  (k_with "call ref" => k_dflt (k_extra "my call"))
  (k_with "subscriptTail" => (k_here; (with_reducible show wpAny _ _ (subscriptTail _ (Expr.Slice _ _ none _) (Value.bytes _ _) (Value.ref _)) _ _ _); (with_reducible rename Fr _ _ _ _ => F'); (with_reducible rename News _ _ _ _ => N'); k_dflt (refine r_bslice (s := ⟨_, _, _, _, _⟩) F' N' (by constructor) (by constructor) (by omega) ?_); intro _ _ _ _ _))
  (k_with "call type:bytes" => (k_here; (with_reducible show wpAny _ _ (call (Value.type "bytes") [Value.bytes _ _]) _ _ _); refine call_bytes_bytes ?_))
  (k_with "newTuple" => (k_here; k_dflt (refine' r_newTuple ?nsF ?nsN ?nsz ?_; (case nsF => k_asm); (case nsN => k_asm); (case nsz => exact Nat.le_of_ble_eq_true rfl)); intro D' h' F' N' l1; (have l0 := l1); (try k_lt l1); (try k_sweep)))
  (k_with "newList" => (k_here; k_dflt (refine' r_newList ?nsF ?nsN ?nsz ?_; (case nsF => k_asm); (case nsN => k_asm); (case nsz => exact Nat.le_of_ble_eq_true rfl)); intro D' h' F' N' l1; (have l0 := l1); (try k_lt l1); (try k_sweep)))
  (k_with "binaryOp Add bytes bytes" => (k_here; (with_reducible show wpAny _ _ (binaryOp _ (Value.bytes _ _) (Value.bytes _ _)) _ _ _); refine r_badd (by omega) ?_; intro _ _))
  (k_with "exec For Tuple Call cons nil" => (k_here; (rename Fr _ _ _ _ => lF'); (with_unfolding_all refine' For_turns lF' ?_); (try k_fold)))
  (k_with "st in" => first | exact congrArg not (st_in _) | exact congrArg not (st_lost _) | exact st_in _ | exact st_lost _)
  (k_with "lt" => (intro b hb; (simp only [List.mem_cons, List.not_mem_nil, or_false] at hb); rcases hb with rfl | rfl <;> omega))
  (k_with "apart" => ((try simp only [List.cons_append, List.nil_append]); (repeat' (first | exact offNil | (refine offCons (by k_all) ?_)))))
  refine PartL.elim hP ?_
  clear hP
  intro k t1 t2 t3 t4 la lb hA hB
  obtain ⟨lim, st, W, se, A, B, fin, ow, ea⟩ := p
  dsimp only at *
  intro own₀ hsub hM
  have m1 := hM _ (.head _)
  have m2 := hM _ (.tail _ (.head _))
  clear hM
  dsimp only [partEs] at m1
  unfold Spec
  all_goals (
    k_fill
    intro mean mg mb dp un gd cn cs a ccd cl outer A₀ base h₀ L m s Q E B F X N T hk hd hu hret
    refine wpAny_call ?_
    k_dflt cell_enter
    k_steps)
  all_goals (
    refine hret _ ([] ++ own₀) _ _ (by k_asm) (News.sub (by assumption) (by walk_at "sub")) ⟨_, rfl, Fresh.nil, ?_⟩
    first
    | exact if_neg (fun h => nomatch h.1)
    | exact ((if_pos ⟨rfl, by assumption, by assumption⟩) ▸ ⟨_, rfl⟩)
    | exact if_neg (fun h => (by assumption : ¬ (_ ≤ _)) h.2.1)
    | exact if_neg (fun h => (by assumption : ¬ (_ < _)) h.2.2)
    | (dsimp only; split <;> first | exact ⟨_, rfl⟩ | rfl | (simp_all [St.isOpen, PS.n]; done) | (simp only [PS.n] at *; exfalso; omega)))
theorem over_spec (w : World) (dx x : Nat) (p : PS) (M own : Led) (hP : PartL w.params dx x p own M) :
    RSpec w 1 8 196 [.ref x] M own (fun r => r = .bool (decide (p.st = .recvd))) := by
  k_with_none
  (k_with "call type:list" => (k_here; (with_reducible show wpAny _ _ (call (Value.type _) [Value.ref _]) _ _ _); k_dflt (refine' r_list ?nsF ?nsN ?nsm ?nsz ?_; (case nsF => k_asm); (case nsN => k_asm); (case nsm => k_mem); (case nsz => omega)); intro D' c' h' F' N' l1; (try k_lt l1); (try k_sweep)))
  (k_with "binaryOp Add ref ref" => (k_here; (with_reducible show wpAny _ _ (binaryOp _ (Value.ref _) (Value.ref _)) _ _ _); k_dflt (refine' r_cat ?nsF ?nsN ?nsm ?nsb ?nsz ?_; (case nsF => k_asm); (case nsN => k_asm); (case nsm => k_mem); (case nsb => k_mem); (case nsz => (simp only [List.length_cons, List.length_nil]; omega))); intro D' h' F' N' l1; (try k_lt l1); (try k_sweep)))
  (k_with "call builtin:list.append" => (k_here; (with_reducible show wpAny _ _ (call (Value.builtin _) [Value.ref _, _]) _ _ _); k_dflt (refine' r_append ?nsF ?nsN ?nsU ?nsz ?_; (case nsF => k_asm); (case nsN => k_asm); (case nsU => k_upd); (case nsz => (simp only [List.length_append, List.length_cons, List.length_nil]; omega))); intro h' F' N'; (try k_sweep)))
  (k_with "exec For Tuple Name cons nil" => (k_here; (rename Fr _ _ _ _ => lF'); (with_unfolding_all refine' For_turns lF' ?_); (try k_fold)))
  (k_with "sub" => (repeat' (first | (with_reducible exact Sub.refl _) | (with_reducible exact Sub.nil) | (with_reducible assumption) | ((with_reducible show Sub (_ :: _) _); refine Sub.consL (by k_mem) ?_) | (with_reducible refine Sub.appL ?_ ?_) | (with_reducible exact Sub.appR1 (Sub.refl _)) | (with_reducible exact Sub.appR2 (Sub.refl _)) | (with_reducible exact Sub.appR1 (Sub.appR1 (Sub.refl _))) | (with_reducible exact Sub.appR1 (Sub.appR2 (Sub.refl _))) | (with_reducible refine Sub.consR ?_) | (with_reducible refine Sub.appR2 ?_))))
  (k_with "call builtin:list.pop" => (k_here; (with_reducible show wpAny _ _ (call (Value.builtin _) [Value.ref _, Value.int _ _]) _ _ _); k_dflt (refine' pop0 ?nsF ?nsN ?nsU ?nsz ?_; (case nsF => k_asm); (case nsN => k_asm); (case nsU => k_upd); (case nsz => omega)); (intro h' F' N')))
  (k_with "call builtin:len" => (k_here; (with_reducible show wpAny _ _ (call (Value.builtin "len") [Value.ref _]) _ _ _); k_dflt (refine' r_len ?nsF ?nsN ?nsm ?nse ?nsz ?_; (case nsF => k_asm); (case nsN => k_asm); (case nsm => k_mem); (case nse => first | exact rfl | assumption | (simp only [List.length_cons, List.length_nil]; exact rfl)); (case nsz => ((try simp only [List.length_cons, List.length_nil, List.length_append, List.length_map]); omega))); (try simp only [List.length_cons, List.length_nil])))
  (k_with "subscriptTail" => (k_here; (with_reducible show wpAny _ _ (subscriptTail _ _ (Value.ref _) (Value.int _ _)) _ _ _); (with_unfolding_all refine' r_item ?nsN ?nsm ?nsh0 ?nshi ?nshx ?_ ?nshs; (case nsN => k_asm); (case nsm => k_mem); (case nsh0 => decide); (case nshi => decide); (case nshx => rfl); (case nshs => with_unfolding_all rfl); k_whole)))
  (k_with "compareOp In str ref" => (k_here; (with_reducible show wpAny _ _ (compareOp _ (Value.str _ _) (Value.ref _)) _ _ _); (first | (with_unfolding_all refine' r_instr true ?nsht ?nshi ?nshb ?_; (case nsht => first | exact News.isTup (by k_asm) (by k_mem) | exact kun_topT (by k_asm) (by k_asm) (by k_is)); (case nshi => kde_strs); (case nshb => decide)) | (with_unfolding_all refine' r_instr false ?nsht ?nshi ?nshb ?_; (case nsht => first | exact News.isTup (by k_asm) (by k_mem) | exact kun_topT (by k_asm) (by k_asm) (by k_is)); (case nshi => kde_strs); (case nshb => decide)) | (with_unfolding_all refine' r_instr _ ?nsht ?nshi ?nshb ?_; (case nsht => first | exact News.isTup (by k_asm) (by k_mem) | exact kun_topT (by k_asm) (by k_asm) (by k_is)); (case nshi => kde_strs); (case nshb => walk_at "st in")))))
  (k_with "compareOp NotIn str ref" => (k_here; (with_reducible show wpAny _ _ (compareOp _ (Value.str _ _) (Value.ref _)) _ _ _); (first | (with_unfolding_all refine' r_notinstr true ?nsht ?nshi ?nshb ?_; (case nsht => first | exact News.isTup (by k_asm) (by k_mem) | exact kun_topT (by k_asm) (by k_asm) (by k_is)); (case nshi => kde_strs); (case nshb => decide)) | (with_unfolding_all refine' r_notinstr false ?nsht ?nshi ?nshb ?_; (case nsht => first | exact News.isTup (by k_asm) (by k_mem) | exact kun_topT (by k_asm) (by k_asm) (by k_is)); (case nshi => kde_strs); (case nshb => decide)) | (with_unfolding_all refine' r_notinstr _ ?nsht ?nshi ?nshb ?_; (case nsht => first | exact News.isTup (by k_asm) (by k_mem) | exact kun_topT (by k_asm) (by k_asm) (by k_is)); (case nshi => kde_strs); (case nshb => walk_at "st in")))))
  (k_with "exec If" => k_dflt (k_extra "my if"))
  (k_with "eval BoolOp" => k_dflt (k_extra "my bool"))
  (k_with "eval IfExp" => k_dflt (k_extra "my ifexp"))
  (k_with "isTrue BoolOp" => k_dflt (k_extra "my test"))
  (k_with "call ref" => k_dflt (k_extra "my call"))
  (k_with "subscriptTail" => (k_here; (with_reducible show wpAny _ _ (subscriptTail _ (Expr.Slice _ _ none _) (Value.bytes _ _) (Value.ref _)) _ _ _); (with_reducible rename Fr _ _ _ _ => F'); (with_reducible rename News _ _ _ _ => N'); k_dflt (refine r_bslice (s := ⟨_, _, _, _, _⟩) F' N' (by constructor) (by constructor) (by omega) ?_); intro _ _ _ _ _))
  (k_with "call type:bytes" => (k_here; (with_reducible show wpAny _ _ (call (Value.type "bytes") [Value.bytes _ _]) _ _ _); refine call_bytes_bytes ?_))
  (k_with "newTuple" => (k_here; k_dflt (refine' r_newTuple ?nsF ?nsN ?nsz ?_; (case nsF => k_asm); (case nsN => k_asm); (case nsz => exact Nat.le_of_ble_eq_true rfl)); intro D' h' F' N' l1; (have l0 := l1); (try k_lt l1); (try k_sweep)))
  (k_with "newList" => (k_here; k_dflt (refine' r_newList ?nsF ?nsN ?nsz ?_; (case nsF => k_asm); (case nsN => k_asm); (case nsz => exact Nat.le_of_ble_eq_true rfl)); intro D' h' F' N' l1; (have l0 := l1); (try k_lt l1); (try k_sweep)))
  (k_with "binaryOp Add bytes bytes" => (k_here; (with_reducible show wpAny _ _ (binaryOp _ (Value.bytes _ _) (Value.bytes _ _)) _ _ _); refine r_badd (by omega) ?_; intro _ _))
  (k_with "exec For Tuple Call cons nil" => (k_here; (rename Fr _ _ _ _ => lF'); (with_unfolding_all refine' For_turns lF' ?_); (try k_fold)))
  (k_with "st in" => first | exact congrArg not (st_in _) | exact congrArg not (st_lost _) | exact st_in _ | exact st_lost _)
  (k_with "lt" => (intro b hb; (simp only [List.mem_cons, List.not_mem_nil, or_false] at hb); rcases hb with rfl | rfl <;> omega))
  (k_with "apart" => ((try simp only [List.cons_append, List.nil_append]); (repeat' (first | exact offNil | (refine offCons (by k_all) ?_)))))
  refine PartL.elim hP ?_
  clear hP
  intro k t1 t2 t3 t4 la lb hA hB
  obtain ⟨lim, st, W, se, A, B, fin, ow, ea⟩ := p
  dsimp only at *
  intro own₀ hsub hM
  have m1 := hM _ (.head _)
  have m2 := hM _ (.tail _ (.head _))
  clear hM
  dsimp only [partEs] at m1
  unfold Spec
  cases st
  all_goals (
    dsimp only [St.str] at m1
    k_fill
    intro mean mg mb dp un gd cn cs a ccd cl outer A₀ base h₀ L m s Q E B F X N T hk hd hu hret
    refine wpAny_call ?_
    k_dflt cell_enter
    k_steps)
  all_goals (
    refine hret _ ([] ++ own₀) _ _ (by k_asm) (News.sub (by assumption) (by walk_at "sub")) ⟨_, rfl, Fresh.nil, ?_⟩
    rfl)
theorem has_to_spec (w : World) (dx x : Nat) (p : PS) (M own : Led) (v : Value) (mn : Option Int) (hP : PartL w.params dx x p own M) (hv : OptInt v mn) (hz : p.W.size ≤ 1000) (hzB : p.B.length ≤ 1000) :
    RSpec w 2 16 147 [.ref x, v] M own (fun r => r = .bool (hasToSend p mn)) := by
  k_with_none
  (k_with "call type:list" => (k_here; (with_reducible show wpAny _ _ (call (Value.type _) [Value.ref _]) _ _ _); k_dflt (refine' r_list ?nsF ?nsN ?nsm ?nsz ?_; (case nsF => k_asm); (case nsN => k_asm); (case nsm => k_mem); (case nsz => omega)); intro D' c' h' F' N' l1; (try k_lt l1); (try k_sweep)))
  (k_with "binaryOp Add ref ref" => (k_here; (with_reducible show wpAny _ _ (binaryOp _ (Value.ref _) (Value.ref _)) _ _ _); k_dflt (refine' r_cat ?nsF ?nsN ?nsm ?nsb ?nsz ?_; (case nsF => k_asm); (case nsN => k_asm); (case nsm => k_mem); (case nsb => k_mem); (case nsz => (simp only [List.length_cons, List.length_nil]; omega))); intro D' h' F' N' l1; (try k_lt l1); (try k_sweep)))
  (k_with "call builtin:list.append" => (k_here; (with_reducible show wpAny _ _ (call (Value.builtin _) [Value.ref _, _]) _ _ _); k_dflt (refine' r_append ?nsF ?nsN ?nsU ?nsz ?_; (case nsF => k_asm); (case nsN => k_asm); (case nsU => k_upd); (case nsz => (simp only [List.length_append, List.length_cons, List.length_nil]; omega))); intro h' F' N'; (try k_sweep)))
  (k_with "exec For Tuple Name cons nil" => (k_here; (rename Fr _ _ _ _ => lF'); (with_unfolding_all refine' For_turns lF' ?_); (try k_fold)))
  (k_with "sub" => (repeat' (first | (with_reducible exact Sub.refl _) | (with_reducible exact Sub.nil) | (with_reducible assumption) | ((with_reducible show Sub (_ :: _) _); refine Sub.consL (by k_mem) ?_) | (with_reducible refine Sub.appL ?_ ?_) | (with_reducible exact Sub.appR1 (Sub.refl _)) | (with_reducible exact Sub.appR2 (Sub.refl _)) | (with_reducible exact Sub.appR1 (Sub.appR1 (Sub.refl _))) | (with_reducible exact Sub.appR1 (Sub.appR2 (Sub.refl _))) | (with_reducible refine Sub.consR ?_) | (with_reducible refine Sub.appR2 ?_))))
  (k_with "call builtin:list.pop" => (k_here; (with_reducible show wpAny _ _ (call (Value.builtin _) [Value.ref _, Value.int _ _]) _ _ _); k_dflt (refine' pop0 ?nsF ?nsN ?nsU ?nsz ?_; (case nsF => k_asm); (case nsN => k_asm); (case nsU => k_upd); (case nsz => omega)); (intro h' F' N')))
  (k_with "call builtin:len" => (k_here; (with_reducible show wpAny _ _ (call (Value.builtin "len") [Value.ref _]) _ _ _); k_dflt (refine' r_len ?nsF ?nsN ?nsm ?nse ?nsz ?_; (case nsF => k_asm); (case nsN => k_asm); (case nsm => k_mem); (case nse => first | exact rfl | assumption | (simp only [List.length_cons, List.length_nil]; exact rfl)); (case nsz => ((try simp only [List.length_cons, List.length_nil, List.length_append, List.length_map]); omega))); (try simp only [List.length_cons, List.length_nil])))
  (k_with "subscriptTail" => (k_here; (with_reducible show wpAny _ _ (subscriptTail _ _ (Value.ref _) (Value.int _ _)) _ _ _); (with_unfolding_all refine' r_item ?nsN ?nsm ?nsh0 ?nshi ?nshx ?_ ?nshs; (case nsN => k_asm); (case nsm => k_mem); (case nsh0 => decide); (case nshi => decide); (case nshx => rfl); (case nshs => with_unfolding_all rfl); k_whole)))
  (k_with "compareOp In str ref" => (k_here; (with_reducible show wpAny _ _ (compareOp _ (Value.str _ _) (Value.ref _)) _ _ _); (first | (with_unfolding_all refine' r_instr true ?nsht ?nshi ?nshb ?_; (case nsht => first | exact News.isTup (by k_asm) (by k_mem) | exact kun_topT (by k_asm) (by k_asm) (by k_is)); (case nshi => kde_strs); (case nshb => decide)) | (with_unfolding_all refine' r_instr false ?nsht ?nshi ?nshb ?_; (case nsht => first | exact News.isTup (by k_asm) (by k_mem) | exact kun_topT (by k_asm) (by k_asm) (by k_is)); (case nshi => kde_strs); (case nshb => decide)) | (with_unfolding_all refine' r_instr _ ?nsht ?nshi ?nshb ?_; (case nsht => first | exact News.isTup (by k_asm) (by k_mem) | exact kun_topT (by k_asm) (by k_asm) (by k_is)); (case nshi => kde_strs); (case nshb => walk_at "st in")))))
  (k_with "compareOp NotIn str ref" => (k_here; (with_reducible show wpAny _ _ (compareOp _ (Value.str _ _) (Value.ref _)) _ _ _); (first | (with_unfolding_all refine' r_notinstr true ?nsht ?nshi ?nshb ?_; (case nsht => first | exact News.isTup (by k_asm) (by k_mem) | exact kun_topT (by k_asm) (by k_asm) (by k_is)); (case nshi => kde_strs); (case nshb => decide)) | (with_unfolding_all refine' r_notinstr false ?nsht ?nshi ?nshb ?_; (case nsht => first | exact News.isTup (by k_asm) (by k_mem) | exact kun_topT (by k_asm) (by k_asm) (by k_is)); (case nshi => kde_strs); (case nshb => decide)) | (with_unfolding_all refine' r_notinstr _ ?nsht ?nshi ?nshb ?_; (case nsht => first | exact News.isTup (by k_asm) (by k_mem) | exact kun_topT (by k_asm) (by k_asm) (by k_is)); (case nshi => kde_strs); (case nshb => walk_at "st in")))))
  (k_with "exec If" => k_dflt (k_extra "my if"))
  (k_with "eval BoolOp" => k_dflt (k_extra "my bool"))
  (k_with "eval IfExp" => k_dflt (k_extra "my ifexp"))
  (k_with "isTrue BoolOp" => k_dflt (k_extra "my test"))
  (k_with "call ref" => k_dflt (k_extra "my call"))
  (k_with "subscriptTail" => (k_here; (with_reducible show wpAny _ _ (subscriptTail _ (Expr.Slice _ _ none _) (Value.bytes _ _) (Value.ref _)) _ _ _); (with_reducible rename Fr _ _ _ _ => F'); (with_reducible rename News _ _ _ _ => N'); k_dflt (refine r_bslice (s := ⟨_, _, _, _, _⟩) F' N' (by constructor) (by constructor) (by omega) ?_); intro _ _ _ _ _))
  (k_with "call type:bytes" => (k_here; (with_reducible show wpAny _ _ (call (Value.type "bytes") [Value.bytes _ _]) _ _ _); refine call_bytes_bytes ?_))
  (k_with "newTuple" => (k_here; k_dflt (refine' r_newTuple ?nsF ?nsN ?nsz ?_; (case nsF => k_asm); (case nsN => k_asm); (case nsz => exact Nat.le_of_ble_eq_true rfl)); intro D' h' F' N' l1; (have l0 := l1); (try k_lt l1); (try k_sweep)))
  (k_with "newList" => (k_here; k_dflt (refine' r_newList ?nsF ?nsN ?nsz ?_; (case nsF => k_asm); (case nsN => k_asm); (case nsz => exact Nat.le_of_ble_eq_true rfl)); intro D' h' F' N' l1; (have l0 := l1); (try k_lt l1); (try k_sweep)))
  (k_with "binaryOp Add bytes bytes" => (k_here; (with_reducible show wpAny _ _ (binaryOp _ (Value.bytes _ _) (Value.bytes _ _)) _ _ _); refine r_badd (by omega) ?_; intro _ _))
  (k_with "exec For Tuple Call cons nil" => (k_here; (rename Fr _ _ _ _ => lF'); (with_unfolding_all refine' For_turns lF' ?_); (try k_fold)))
  refine PartL.elim hP ?_
  clear hP
  intro k t1 t2 t3 t4 la lb hA hB
  have hP0 := PartL.of (P := w.params) (dx := dx) (x := x) k t1 t2 t3 t4 la lb hA hB
  intro own₀ hsub hM
  have m1 := hM _ (.head _)
  have m2 := hM _ (.tail _ (.head _))
  obtain ⟨l, vs, n, e, hl, hp⟩ := hB
  cases e
  have hl₀ := hsub _ hl
  have hvl := hp.length
  dsimp only [partEs] at m1
  unfold Spec
  k_fill
  intro mean mg mb dp un gd cn cs a ccd cl outer A₀ base h₀ L m s Q E B F X N T hk hd hu hret
  refine wpAny_call ?_
  k_dflt cell_enter
  (k_with "my call" => (
    (with_reducible show wpAny _ _ (call (Value.ref 133) [Value.ref _, _]) _ _ _)
    refine' Spec.use (room_spec _ _ _ _ _ _ _ _ hP0 hv hz _ ?hsub ?hM) ?B ?F ?X ?N ?T ?hk ?hd ?hu (Sub.refl _) ?_
    (case B => k_asm)
    (case F => k_asm)
    (case X => k_asm)
    (case N => k_asm)
    (case T => k_asm)
    (case hk => exact rfl)
    (case hd => ktr_room)
    (case hu => ktr_units)
    (case hsub => assumption)
    (case hM => assumption)
    rintro r9 _ h9 tk9 F9 N9 ⟨T9, rfl, hf9, t9, rfl⟩
    (try dsimp only)
    (try k_fold)))
  k_steps
  · have h1 : 0 < (vs.length : Int) := by assumption
    have h2 : p.B ≠ [] := fun e => by rw [e, List.length_nil] at hvl; omega
    refine hret _ ([] ++ own₀) _ _ (by k_asm) (by k_asm) ⟨_, rfl, Fresh.nil, congrArg Value.bool ?_⟩
    simp [hasToSend, h2]
  · have h2 : 0 < newRoom p mn := by assumption
    refine hret _ (T9 ++ own₀) _ _ (by k_asm) (by k_asm) ⟨_, rfl, hf9, congrArg Value.bool ?_⟩
    simp [hasToSend, h2]
  · have h1 : ¬ 0 < (vs.length : Int) := by assumption
    have h0 : p.B = [] := List.length_eq_zero_iff.mp (by omega)
    have h2 : ¬ 0 < newRoom p mn := by assumption
    have h3 : p.ow = true := by assumption
    refine hret _ (T9 ++ own₀) _ _ (by k_asm) (by k_asm) ⟨_, rfl, hf9, congrArg Value.bool ?_⟩
    rw [Bool.eq_iff_iff]
    simp [hasToSend, h0, h2, h3]
    exact Iff.rfl
  · have h1 : ¬ 0 < (vs.length : Int) := by assumption
    have h0 : p.B = [] := List.length_eq_zero_iff.mp (by omega)
    have h2 : ¬ 0 < newRoom p mn := by assumption
    have h3 : p.ow = false := by assumption
    refine hret _ (T9 ++ own₀) _ _ (by k_asm) (by k_asm) ⟨_, rfl, hf9, congrArg Value.bool ?_⟩
    rw [Bool.eq_iff_iff]
    simp [hasToSend, h0, h2, h3]
theorem next_spec (w : World) (dx x : Nat) (p : PS) (M own : Led) (most : Int) (tm : Tok) (v : Value) (mn : Option Int) (hne : dx < x) (hP : PartL w.params dx x p own M) (hv : OptInt v mn) (hz : p.W.size ≤ 1000) (hzB : p.B.length ≤ 1000)
    (hlo : 0 ≤ (chunkSpan p most mn).1) (hle : (chunkSpan p most mn).1 ≤ (chunkSpan p most mn).2) (hhi : (chunkSpan p most mn).2 ≤ p.n) :
    MSpec w 2 16 154 [.ref x, .int most tm, v] dx x M own (fun r p' own' =>
      let q := chunkSpan p most mn
      let e := chunkEnd p q.1 q.2
      if p.st = .recvd ∨ (q.1 = q.2 ∧ e = false) then r = .none ∧ p' = p else ChunkAt own' r (q.1, KBy.picked p.W (some q.1) (some q.2), e) ∧ p' = nextPS p q.1 q.2 e) := by
  k_with_none
  (k_with "call type:list" => (k_here; (with_reducible show wpAny _ _ (call (Value.type _) [Value.ref _]) _ _ _); k_dflt (refine' r_list ?nsF ?nsN ?nsm ?nsz ?_; (case nsF => k_asm); (case nsN => k_asm); (case nsm => k_mem); (case nsz => omega)); intro D' c' h' F' N' l1; (try k_lt l1); (try k_sweep)))
  (k_with "binaryOp Add ref ref" => (k_here; (with_reducible show wpAny _ _ (binaryOp _ (Value.ref _) (Value.ref _)) _ _ _); k_dflt (refine' r_cat ?nsF ?nsN ?nsm ?nsb ?nsz ?_; (case nsF => k_asm); (case nsN => k_asm); (case nsm => k_mem); (case nsb => k_mem); (case nsz => (simp only [List.length_cons, List.length_nil]; omega))); intro D' h' F' N' l1; (try k_lt l1); (try k_sweep)))
  (k_with "call builtin:list.append" => (k_here; (with_reducible show wpAny _ _ (call (Value.builtin _) [Value.ref _, _]) _ _ _); k_dflt (refine' r_append ?nsF ?nsN ?nsU ?nsz ?_; (case nsF => k_asm); (case nsN => k_asm); (case nsU => k_upd); (case nsz => (simp only [List.length_append, List.length_cons, List.length_nil]; omega))); intro h' F' N'; (try k_sweep)))
  (k_with "exec For Tuple Name cons nil" => (k_here; (rename Fr _ _ _ _ => lF'); (with_unfolding_all refine' For_turns lF' ?_); (try k_fold)))
  (k_with "sub" => (repeat' (first | (with_reducible exact Sub.refl _) | (with_reducible exact Sub.nil) | (with_reducible assumption) | ((with_reducible show Sub (_ :: _) _); refine Sub.consL (by k_mem) ?_) | (with_reducible refine Sub.appL ?_ ?_) | (with_reducible exact Sub.appR1 (Sub.refl _)) | (with_reducible exact Sub.appR2 (Sub.refl _)) | (with_reducible exact Sub.appR1 (Sub.appR1 (Sub.refl _))) | (with_reducible exact Sub.appR1 (Sub.appR2 (Sub.refl _))) | (with_reducible refine Sub.consR ?_) | (with_reducible refine Sub.appR2 ?_))))
  (k_with "call builtin:list.pop" => (k_here; (with_reducible show wpAny _ _ (call (Value.builtin _) [Value.ref _, Value.int _ _]) _ _ _); k_dflt (refine' pop0 ?nsF ?nsN ?nsU ?nsz ?_; (case nsF => k_asm); (case nsN => k_asm); (case nsU => k_upd); (case nsz => omega)); (intro h' F' N')))
  (k_with "call builtin:len" => (k_here; (with_reducible show wpAny _ _ (call (Value.builtin "len") [Value.ref _]) _ _ _); k_dflt (refine' r_len ?nsF ?nsN ?nsm ?nse ?nsz ?_; (case nsF => k_asm); (case nsN => k_asm); (case nsm => k_mem); (case nse => first | exact rfl | assumption | (simp only [List.length_cons, List.length_nil]; exact rfl)); (case nsz => ((try simp only [List.length_cons, List.length_nil, List.length_append, List.length_map]); omega))); (try simp only [List.length_cons, List.length_nil])))
  (k_with "subscriptTail" => (k_here; (with_reducible show wpAny _ _ (subscriptTail _ _ (Value.ref _) (Value.int _ _)) _ _ _); (with_unfolding_all refine' r_item ?nsN ?nsm ?nsh0 ?nshi ?nshx ?_ ?nshs; (case nsN => k_asm); (case nsm => k_mem); (case nsh0 => decide); (case nshi => decide); (case nshx => rfl); (case nshs => with_unfolding_all rfl); k_whole)))
  (k_with "compareOp In str ref" => (k_here; (with_reducible show wpAny _ _ (compareOp _ (Value.str _ _) (Value.ref _)) _ _ _); (first | (with_unfolding_all refine' r_instr true ?nsht ?nshi ?nshb ?_; (case nsht => first | exact News.isTup (by k_asm) (by k_mem) | exact kun_topT (by k_asm) (by k_asm) (by k_is)); (case nshi => kde_strs); (case nshb => decide)) | (with_unfolding_all refine' r_instr false ?nsht ?nshi ?nshb ?_; (case nsht => first | exact News.isTup (by k_asm) (by k_mem) | exact kun_topT (by k_asm) (by k_asm) (by k_is)); (case nshi => kde_strs); (case nshb => decide)) | (with_unfolding_all refine' r_instr _ ?nsht ?nshi ?nshb ?_; (case nsht => first | exact News.isTup (by k_asm) (by k_mem) | exact kun_topT (by k_asm) (by k_asm) (by k_is)); (case nshi => kde_strs); (case nshb => walk_at "st in")))))
  (k_with "compareOp NotIn str ref" => (k_here; (with_reducible show wpAny _ _ (compareOp _ (Value.str _ _) (Value.ref _)) _ _ _); (first | (with_unfolding_all refine' r_notinstr true ?nsht ?nshi ?nshb ?_; (case nsht => first | exact News.isTup (by k_asm) (by k_mem) | exact kun_topT (by k_asm) (by k_asm) (by k_is)); (case nshi => kde_strs); (case nshb => decide)) | (with_unfolding_all refine' r_notinstr false ?nsht ?nshi ?nshb ?_; (case nsht => first | exact News.isTup (by k_asm) (by k_mem) | exact kun_topT (by k_asm) (by k_asm) (by k_is)); (case nshi => kde_strs); (case nshb => decide)) | (with_unfolding_all refine' r_notinstr _ ?nsht ?nshi ?nshb ?_; (case nsht => first | exact News.isTup (by k_asm) (by k_mem) | exact kun_topT (by k_asm) (by k_asm) (by k_is)); (case nshi => kde_strs); (case nshb => walk_at "st in")))))
  (k_with "exec If" => k_dflt (k_extra "my if"))
  (k_with "eval BoolOp" => k_dflt (k_extra "my bool"))
  (k_with "eval IfExp" => k_dflt (k_extra "my ifexp"))
  (k_with "isTrue BoolOp" => k_dflt (k_extra "my test"))
  (k_with "call ref" => k_dflt (k_extra "my call"))
  (k_with "subscriptTail" => (k_here; (with_reducible show wpAny _ _ (subscriptTail _ (Expr.Slice _ _ none _) (Value.bytes _ _) (Value.ref _)) _ _ _); (with_reducible rename Fr _ _ _ _ => F'); (with_reducible rename News _ _ _ _ => N'); k_dflt (refine r_bslice (s := ⟨_, _, _, _, _⟩) F' N' (by constructor) (by constructor) (by omega) ?_); intro _ _ _ _ _))
  (k_with "call type:bytes" => (k_here; (with_reducible show wpAny _ _ (call (Value.type "bytes") [Value.bytes _ _]) _ _ _); refine call_bytes_bytes ?_))
  (k_with "newTuple" => (k_here; k_dflt (refine' r_newTuple ?nsF ?nsN ?nsz ?_; (case nsF => k_asm); (case nsN => k_asm); (case nsz => exact Nat.le_of_ble_eq_true rfl)); intro D' h' F' N' l1; (have l0 := l1); (try k_lt l1); (try k_sweep)))
  (k_with "newList" => (k_here; k_dflt (refine' r_newList ?nsF ?nsN ?nsz ?_; (case nsF => k_asm); (case nsN => k_asm); (case nsz => exact Nat.le_of_ble_eq_true rfl)); intro D' h' F' N' l1; (have l0 := l1); (try k_lt l1); (try k_sweep)))
  (k_with "binaryOp Add bytes bytes" => (k_here; (with_reducible show wpAny _ _ (binaryOp _ (Value.bytes _ _) (Value.bytes _ _)) _ _ _); refine r_badd (by omega) ?_; intro _ _))
  (k_with "exec For Tuple Call cons nil" => (k_here; (rename Fr _ _ _ _ => lF'); (with_unfolding_all refine' For_turns lF' ?_); (try k_fold)))
  (k_with "st in" => first | exact congrArg not (st_in _) | exact congrArg not (st_lost _) | exact st_in _ | exact st_lost _)
  (k_with "lt" => (intro b hb; (simp only [List.mem_cons, List.not_mem_nil, or_false] at hb); rcases hb with rfl | rfl <;> omega))
  (k_with "apart" => ((try simp only [List.cons_append, List.nil_append]); (repeat' (first | exact offNil | (refine offCons (by k_all) ?_)))))
  refine PartL.elim hP ?_
  clear hP
  intro k t1 t2 t3 t4 la lb hA hB
  have hP0 := PartL.of (P := w.params) (dx := dx) (x := x) k t1 t2 t3 t4 la lb hA hB
  refine MSpec.start ?_
  intro own₀ hsub hoff Rp hRp
  unfold Spec
  k_fill
  intro mean mg mb dp un gd cn cs a ccd cl outer A₀ base h₀ L m s Q E B F X N T hk hd hu hret
  dsimp only [partEs, List.cons_append, List.nil_append] at N
  replace N : News h₀ L s.heap (_ :: _ :: (([] : Led) ++ own₀)) := N
  have hf : FreshM [] own₀ [dx, x] := FreshM.nil
  have off : OwnOff ([] ++ own₀) [dx, x] := hoff
  replace hA : SpansAt ([] ++ own) (.ref la) p.A := hA
  replace hB : SpansAt ([] ++ own) (.ref lb) p.B := hB
  refine wpAny_call ?_
  k_dflt cell_enter
  (k_with "my test" => (
    (with_reducible show wpAny _ _ (isTrue (Expr.BoolOp _ [Expr.Compare (Expr.Attribute _ _ _) _ _ _, _] _) _ _) _ _ _)
    (fail_if_success (with_reducible show wpAny _ _ _ (JoinP _ _) _ _))
    refine cutE (fun b => b = decide (p.st = .recvd)) ?cutA ?_
    (case cutA =>
      k_steps
      all_goals (first | exact joinP rfl (st_r1 (by assumption)) | exact joinP rfl (st_r3 (by assumption)) | exact joinP rfl (st_r2 (by assumption) (by assumption))))
    rintro _ tk9 rfl))
  (k_with "my call" => (
    (with_reducible show wpAny _ _ (call (Value.ref 69) [Value.ref _, Value.int _ _]) _ _ _)
    refine' PSpec.useM (M := [(dx, _), (x, _)]) (own₀ := own₀) (adr := [dx, x]) (first_spec _ _ _ _ _ _ ?hs ?hz) rfl hsub ?hf ?off ?B ?F ?X ?N ?T ?hk ?hd ?hu ?hn ?_
    (case hf => assumption)
    (case off => assumption)
    (case B => k_asm)
    (case F => k_asm)
    (case X => k_asm)
    (case N => k_asm)
    (case T => k_asm)
    (case hk => exact rfl)
    (case hd => ktr_room)
    (case hu => ktr_units)
    (case hs => assumption)
    (case hz => assumption)
    (case hn => walk_at "sub")
    rintro r9 T9 h9 tk9 F9 N9 hf9 off9 hs9 hp9
    dsimp only [List.cons_append, List.nil_append] at N9
    replace hA := hA.mono hs9
    replace hB := hB.mono hs9
    clear hf off hs9
    have hf := hf9
    have off := off9
    clear hf9 off9
    all_goals (try dsimp only)
    all_goals (try k_fold)))
  (k_with "my call" => (
    (with_reducible show wpAny _ _ (call (Value.ref 133) [Value.ref _, _]) _ _ _)
    refine' RSpec.useM (M := [(dx, _), (x, _)]) (own₀ := own₀) (adr := [dx, x]) (room_spec _ _ _ _ _ _ _ _ hP0 hv hz) rfl hsub ?hf ?off ?B ?F ?X ?N ?T ?hk ?hd ?hu ?hn ?_
    (case hf => assumption)
    (case off => assumption)
    (case B => k_asm)
    (case F => k_asm)
    (case X => k_asm)
    (case N => k_asm)
    (case T => k_asm)
    (case hk => exact rfl)
    (case hd => ktr_room)
    (case hu => ktr_units)
    (case hn => walk_at "sub")
    rintro r9 T9 h9 tk9 F9 N9 hf9 off9 hs9 ⟨t9, rfl⟩
    dsimp only [List.cons_append, List.nil_append] at N9
    replace hA := hA.mono hs9
    replace hB := hB.mono hs9
    clear hf off hs9
    have hf := hf9
    have off := off9
    clear hf9 off9
    all_goals (try dsimp only)
    all_goals (try k_fold)))
  (k_with "my if" => (
    (with_reducible show wpAny _ _ (exec (Stmt.If (Expr.Compare (Expr.Name (Str.ofString "span") _) _ _ _) _ _ _) _) _ _ _)
    (fail_if_success (with_reducible show wpAny _ _ _ (JoinQ _ _ _ _) _ _))
    refine cutH (by k_asm) (fun (f : Flow) (m' : Str → Option Value) (nx : Led) => f = Flow.next ∧ ∃ (T : Led) (a : Nat) (t u : Tok) (n : Nat), nx = (dx, dictOf (partEs w.params k (.int p.lim t1) (.str p.st.str t2) (.bytes p.W t3) (.int p.se t4) (.ref la) (.ref lb) (.bool p.fin) (.bool p.ow) (.bool p.ea)) 11) :: (x, instObj 199 dx) :: (T ++ own₀) ∧ FreshM T own₀ [dx, x] ∧ SpansAt (T ++ own) (.ref la) p.A ∧ SpansAt (T ++ own) (.ref lb) p.B ∧
      (a, ({ cls := .type "tuple", data := .seq #[.int (chunkSpan p most mn).1 t, .int (chunkSpan p most mn).2 u] n } : Obj)) ∈ T ++ own₀ ∧ m' (Str.ofString "span") = some (.ref a) ∧ m' (Str.ofString "self") = some (.ref x)) ?cutA ?_
    (case cutA =>
      rcases first_cases hp9 with ⟨hfs, rfl⟩ | ⟨q91, q92, a9, t9, u9, n9, hfs, rfl, hm9⟩
      all_goals k_steps
      · have e9 : chunkSpan p most mn = (p.se, p.se + max 0 (min most (newRoom p mn))) := by simp [chunkSpan, hfs]
        rw [e9]
        rename News _ _ _ (_ :: _ :: _ :: _) => N₉
        simp only [min_is, max_is] at N₉
        exact joinQ (by k_asm) (News.sub N₉ (by walk_at "sub")) ⟨rfl, (_, _) :: T9, _, _, _, _, rfl, FreshM.one hf (allLt_sub (And.right (And.right (by assumption))) (Sub.refl _)) (two_lt (by assumption)), hA.mono (Sub.consR (Sub.refl _)), hB.mono (Sub.consR (Sub.refl _)), .head _, rfl, rfl⟩
      · have e9 : chunkSpan p most mn = (q91, q92) := by simp [chunkSpan, hfs]
        rw [e9]
        exact joinQ (by k_asm) (News.sub (by assumption) (by walk_at "sub")) ⟨rfl, T9, a9, t9, u9, n9, rfl, hf, hA, hB, Sub.appL (Sub.appR1 (Sub.refl _)) (Sub.appR2 hsub) _ hm9, rfl, rfl⟩)
    rintro _ h8 tk8 m8 _ F8 N8 ⟨rfl, T8, a8, t8, u8, n8, rfl, hf8, hA8, hB8, hm8, hn1, hn2⟩
    clear hf off hA hB
    have hf := hf8
    have off := hf8.off hoff
    have hA := hA8
    have hB := hB8
    clear hf8 hA8 hB8
    replace F8 := frNames [(Str.ofString "span", .ref a8), (Str.ofString "self", .ref x)] F8 (by intro p hp; simp only [List.mem_cons, List.not_mem_nil, or_false] at hp; rcases hp with rfl | rfl <;> assumption)
    (generalize chunkSpan p most mn = q8 at *)
    obtain ⟨q1, q2⟩ := q8
    dsimp only at *
    (try k_fold)))
  (k_with "my bool" => (
    (with_reducible show wpAny _ _ (eval (Expr.BoolOp BoolOp.And [Expr.Attribute _ _ _, _, _] _) _) _ _ _)
    (fail_if_success (with_reducible show wpAny _ _ _ (JoinP _ _) _ _))
    refine cutE (fun v => v = Value.bool (chunkEnd p q1 q2)) ?cutA ?_
    (case cutA =>
      k_steps
      all_goals (first | exact joinP rfl (ce1 (by assumption) (by assumption) (by assumption)) | exact joinP rfl (ce2 (by assumption) (by assumption) (by assumption)) | exact joinP rfl (ce3 (by assumption) (by assumption)) | exact joinP rfl (ce4 (by assumption))))
    rintro _ tk9 rfl))
  (k_with "my ifexp" => (
    (with_reducible show wpAny _ _ (eval (Expr.IfExp (Expr.BoolOp BoolOp.Or _ _) _ _ _) _) _ _ _)
    (fail_if_success (with_reducible show wpAny _ _ _ (JoinP _ _) _ _))
    refine cutE (fun v => ∃ u, v = Value.str (if chunkEnd p q1 q2 || decide (p.st = .sent) then St.sent else St.send).str u) ?cutA ?_
    (case cutA =>
      k_steps
      all_goals (first | exact joinP rfl (se1 (by assumption)) | exact joinP rfl (se2 (by assumption)) | exact joinP rfl (se3 (by assumption) (by assumption))))
    rintro _ tk9 ⟨u7, rfl⟩))
  (k_with "call ref" => (
    (with_reducible show wpAny _ _ (call (Value.ref 55) [Value.ref _, Value.int _ _, Value.int _ _]) _ _ _)
    refine' PSpec.useM (M := [(dx, _), (x, _)]) (own₀ := own₀) (adr := [dx, x]) (cut_spec _ _ _ _ _ _ _ _ ?hs ?hz) rfl hsub ?hf ?off ?B ?F ?X ?N ?T ?hk ?hd ?hu ?hn ?_
    (case hf => assumption)
    (case off => assumption)
    (case B => k_asm)
    (case F => k_asm)
    (case X => k_asm)
    (case N => k_asm)
    (case T => k_asm)
    (case hk => exact rfl)
    (case hd => ktr_room)
    (case hu => ktr_units)
    (case hs => assumption)
    (case hz => assumption)
    (case hn => walk_at "sub")
    rintro r9 T9 h9 tk9 F9 N9 hf9 off9 hs9 hp9
    dsimp only [List.cons_append, List.nil_append] at N9
    replace hA := hA.mono hs9
    replace hB := hB.mono hs9
    clear hf off hs9
    have hf := hf9
    have off := off9
    clear hf9 off9
    obtain ⟨l9, vs9, n9, rfl, hq9⟩ := id hp9
    clear hq9
    (try dsimp only)
    (try k_fold)))
  k_steps
  · have h1 : p.st = .recvd := by assumption
    refine hret _ ((dx, _) :: (x, _) :: (([] : Led) ++ own₀)) _ _ (by k_asm) (News.sub (by assumption) (by walk_at "sub")) (hRp _ ([] : Led) [(dx, _), (x, _)] p hf (PartL.of k t1 t2 t3 t4 la lb hA hB) ?_)
    dsimp only
    rw [if_pos (Or.inl h1)]
    exact ⟨rfl, rfl⟩
  · have hx : ¬ p.st = .recvd := by assumption
    rename News _ _ _ (_ :: _ :: _ :: _) => N₉
    simp only [max_is] at N₉
    have hE : chunkEnd p q1 q2 = true := by assumption
    refine hret _ ((dx, _) :: (x, _) :: (((_, _) :: T9) ++ own₀)) _ _ (by k_asm) (News.sub N₉ (by walk_at "sub")) (hRp _ ((_, _) :: T9) [(dx, _), (x, _)] { p with B := cutSpan p.B q1 q2, se := max p.se q2, ow := false, st := (if chunkEnd p q1 q2 || decide (p.st = .sent) then .sent else .send) } (FreshM.one hf (allLt_sub (And.right (And.right (by assumption))) (Sub.refl _)) (two_lt (by assumption))) (PartL.of k t1 u7 t3 _ la l9 (hA.mono (Sub.consR (Sub.refl _))) (hp9.mono (Sub.consR (Sub.refl _)))) ?_)
    rw [if_neg (by rintro (h | ⟨h, h2⟩); exact hx h; rw [hE] at h2; cases h2)]
    exact ⟨⟨_, _, _, _, rfl, .head _⟩, by simp [nextPS, hE]⟩
  · have h1 : q1 = q2 := by assumption
    have h2 : chunkEnd p q1 q2 = false := by assumption
    refine hret _ ((dx, _) :: (x, _) :: (T8 ++ own₀)) _ _ (by k_asm) (News.sub (by assumption) (by walk_at "sub")) (hRp _ T8 [(dx, _), (x, _)] p hf (PartL.of k t1 t2 t3 t4 la lb hA hB) ?_)
    rw [if_pos (Or.inr ⟨h1, h2⟩)]
    exact ⟨rfl, rfl⟩
  · have hx : ¬ p.st = .recvd := by assumption
    rename News _ _ _ (_ :: _ :: _ :: _) => N₉
    simp only [max_is] at N₉
    have hE : chunkEnd p q1 q2 = true := by assumption
    refine hret _ ((dx, _) :: (x, _) :: (((_, _) :: T9) ++ own₀)) _ _ (by k_asm) (News.sub N₉ (by walk_at "sub")) (hRp _ ((_, _) :: T9) [(dx, _), (x, _)] { p with B := cutSpan p.B q1 q2, se := max p.se q2, ow := false, st := (if chunkEnd p q1 q2 || decide (p.st = .sent) then .sent else .send) } (FreshM.one hf (allLt_sub (And.right (And.right (by assumption))) (Sub.refl _)) (two_lt (by assumption))) (PartL.of k t1 u7 t3 _ la l9 (hA.mono (Sub.consR (Sub.refl _))) (hp9.mono (Sub.consR (Sub.refl _)))) ?_)
    rw [if_neg (by rintro (h | ⟨h, h2⟩); exact hx h; rw [hE] at h2; cases h2)]
    exact ⟨⟨_, _, _, _, rfl, .head _⟩, by simp [nextPS, hE]⟩
  · have hx : ¬ p.st = .recvd := by assumption
    have hy : q1 ≠ q2 := by assumption
    rename News _ _ _ (_ :: _ :: _ :: _) => N₉
    simp only [max_is] at N₉
    have hE : chunkEnd p q1 q2 = false := by assumption
    refine hret _ ((dx, _) :: (x, _) :: (((_, _) :: T9) ++ own₀)) _ _ (by k_asm) (News.sub N₉ (by walk_at "sub")) (hRp _ ((_, _) :: T9) [(dx, _), (x, _)] { p with B := cutSpan p.B q1 q2, se := max p.se q2, ow := p.ow, st := (if chunkEnd p q1 q2 || decide (p.st = .sent) then .sent else .send) } (FreshM.one hf (allLt_sub (And.right (And.right (by assumption))) (Sub.refl _)) (two_lt (by assumption))) (PartL.of k t1 u7 t3 _ la l9 (hA.mono (Sub.consR (Sub.refl _))) (hp9.mono (Sub.consR (Sub.refl _)))) ?_)
    rw [if_neg (by rintro (h | ⟨h, h2⟩); exact hx h; exact hy h)]
    exact ⟨⟨_, _, _, _, rfl, .head _⟩, by simp [nextPS, hE]⟩
theorem acked_spec (w : World) (dx x : Nat) (p : PS) (M own : Led) (of sz : Int) (to tz : Tok) (e : Bool) (hne : dx < x) (hP : PartL w.params dx x p own M) (hz : p.W.size ≤ 1000) (hzA : p.A.length ≤ 1000) (hzB : p.B.length ≤ 1000) (hzA' : (addSpan p.A of (of + sz)).length ≤ 1000) :
    MSpec w 2 16 168 [.ref x, .int of to, .int sz tz, .bool e] dx x M own (fun r p' own' => r = .none ∧ p' = ackPS p of sz e) := by
  k_with_none
  (k_with "call type:list" => (k_here; (with_reducible show wpAny _ _ (call (Value.type _) [Value.ref _]) _ _ _); k_dflt (refine' r_list ?nsF ?nsN ?nsm ?nsz ?_; (case nsF => k_asm); (case nsN => k_asm); (case nsm => k_mem); (case nsz => omega)); intro D' c' h' F' N' l1; (try k_lt l1); (try k_sweep)))
  (k_with "binaryOp Add ref ref" => (k_here; (with_reducible show wpAny _ _ (binaryOp _ (Value.ref _) (Value.ref _)) _ _ _); k_dflt (refine' r_cat ?nsF ?nsN ?nsm ?nsb ?nsz ?_; (case nsF => k_asm); (case nsN => k_asm); (case nsm => k_mem); (case nsb => k_mem); (case nsz => (simp only [List.length_cons, List.length_nil]; omega))); intro D' h' F' N' l1; (try k_lt l1); (try k_sweep)))
  (k_with "call builtin:list.append" => (k_here; (with_reducible show wpAny _ _ (call (Value.builtin _) [Value.ref _, _]) _ _ _); k_dflt (refine' r_append ?nsF ?nsN ?nsU ?nsz ?_; (case nsF => k_asm); (case nsN => k_asm); (case nsU => k_upd); (case nsz => (simp only [List.length_append, List.length_cons, List.length_nil]; omega))); intro h' F' N'; (try k_sweep)))
  (k_with "exec For Tuple Name cons nil" => (k_here; (rename Fr _ _ _ _ => lF'); (with_unfolding_all refine' For_turns lF' ?_); (try k_fold)))
  (k_with "sub" => (repeat' (first | (with_reducible exact Sub.refl _) | (with_reducible exact Sub.nil) | (with_reducible assumption) | ((with_reducible show Sub (_ :: _) _); refine Sub.consL (by k_mem) ?_) | (with_reducible refine Sub.appL ?_ ?_) | (with_reducible exact Sub.appR1 (Sub.refl _)) | (with_reducible exact Sub.appR2 (Sub.refl _)) | (with_reducible exact Sub.appR1 (Sub.appR1 (Sub.refl _))) | (with_reducible exact Sub.appR1 (Sub.appR2 (Sub.refl _))) | (with_reducible refine Sub.consR ?_) | (with_reducible refine Sub.appR2 ?_))))
  (k_with "call builtin:list.pop" => (k_here; (with_reducible show wpAny _ _ (call (Value.builtin _) [Value.ref _, Value.int _ _]) _ _ _); k_dflt (refine' pop0 ?nsF ?nsN ?nsU ?nsz ?_; (case nsF => k_asm); (case nsN => k_asm); (case nsU => k_upd); (case nsz => omega)); (intro h' F' N')))
  (k_with "call builtin:len" => (k_here; (with_reducible show wpAny _ _ (call (Value.builtin "len") [Value.ref _]) _ _ _); k_dflt (refine' r_len ?nsF ?nsN ?nsm ?nse ?nsz ?_; (case nsF => k_asm); (case nsN => k_asm); (case nsm => k_mem); (case nse => first | exact rfl | assumption | (simp only [List.length_cons, List.length_nil]; exact rfl)); (case nsz => ((try simp only [List.length_cons, List.length_nil, List.length_append, List.length_map]); omega))); (try simp only [List.length_cons, List.length_nil])))
  (k_with "subscriptTail" => (k_here; (with_reducible show wpAny _ _ (subscriptTail _ _ (Value.ref _) (Value.int _ _)) _ _ _); (with_unfolding_all refine' r_item ?nsN ?nsm ?nsh0 ?nshi ?nshx ?_ ?nshs; (case nsN => k_asm); (case nsm => k_mem); (case nsh0 => decide); (case nshi => decide); (case nshx => rfl); (case nshs => with_unfolding_all rfl); k_whole)))
  (k_with "compareOp In str ref" => (k_here; (with_reducible show wpAny _ _ (compareOp _ (Value.str _ _) (Value.ref _)) _ _ _); (first | (with_unfolding_all refine' r_instr true ?nsht ?nshi ?nshb ?_; (case nsht => first | exact News.isTup (by k_asm) (by k_mem) | exact kun_topT (by k_asm) (by k_asm) (by k_is)); (case nshi => kde_strs); (case nshb => decide)) | (with_unfolding_all refine' r_instr false ?nsht ?nshi ?nshb ?_; (case nsht => first | exact News.isTup (by k_asm) (by k_mem) | exact kun_topT (by k_asm) (by k_asm) (by k_is)); (case nshi => kde_strs); (case nshb => decide)) | (with_unfolding_all refine' r_instr _ ?nsht ?nshi ?nshb ?_; (case nsht => first | exact News.isTup (by k_asm) (by k_mem) | exact kun_topT (by k_asm) (by k_asm) (by k_is)); (case nshi => kde_strs); (case nshb => walk_at "st in")))))
  (k_with "compareOp NotIn str ref" => (k_here; (with_reducible show wpAny _ _ (compareOp _ (Value.str _ _) (Value.ref _)) _ _ _); (first | (with_unfolding_all refine' r_notinstr true ?nsht ?nshi ?nshb ?_; (case nsht => first | exact News.isTup (by k_asm) (by k_mem) | exact kun_topT (by k_asm) (by k_asm) (by k_is)); (case nshi => kde_strs); (case nshb => decide)) | (with_unfolding_all refine' r_notinstr false ?nsht ?nshi ?nshb ?_; (case nsht => first | exact News.isTup (by k_asm) (by k_mem) | exact kun_topT (by k_asm) (by k_asm) (by k_is)); (case nshi => kde_strs); (case nshb => decide)) | (with_unfolding_all refine' r_notinstr _ ?nsht ?nshi ?nshb ?_; (case nsht => first | exact News.isTup (by k_asm) (by k_mem) | exact kun_topT (by k_asm) (by k_asm) (by k_is)); (case nshi => kde_strs); (case nshb => walk_at "st in")))))
  (k_with "exec If" => k_dflt (k_extra "my if"))
  (k_with "eval BoolOp" => k_dflt (k_extra "my bool"))
  (k_with "eval IfExp" => k_dflt (k_extra "my ifexp"))
  (k_with "isTrue BoolOp" => k_dflt (k_extra "my test"))
  (k_with "call ref" => k_dflt (k_extra "my call"))
  (k_with "subscriptTail" => (k_here; (with_reducible show wpAny _ _ (subscriptTail _ (Expr.Slice _ _ none _) (Value.bytes _ _) (Value.ref _)) _ _ _); (with_reducible rename Fr _ _ _ _ => F'); (with_reducible rename News _ _ _ _ => N'); k_dflt (refine r_bslice (s := ⟨_, _, _, _, _⟩) F' N' (by constructor) (by constructor) (by omega) ?_); intro _ _ _ _ _))
  (k_with "call type:bytes" => (k_here; (with_reducible show wpAny _ _ (call (Value.type "bytes") [Value.bytes _ _]) _ _ _); refine call_bytes_bytes ?_))
  (k_with "newTuple" => (k_here; k_dflt (refine' r_newTuple ?nsF ?nsN ?nsz ?_; (case nsF => k_asm); (case nsN => k_asm); (case nsz => exact Nat.le_of_ble_eq_true rfl)); intro D' h' F' N' l1; (have l0 := l1); (try k_lt l1); (try k_sweep)))
  (k_with "newList" => (k_here; k_dflt (refine' r_newList ?nsF ?nsN ?nsz ?_; (case nsF => k_asm); (case nsN => k_asm); (case nsz => exact Nat.le_of_ble_eq_true rfl)); intro D' h' F' N' l1; (have l0 := l1); (try k_lt l1); (try k_sweep)))
  (k_with "binaryOp Add bytes bytes" => (k_here; (with_reducible show wpAny _ _ (binaryOp _ (Value.bytes _ _) (Value.bytes _ _)) _ _ _); refine r_badd (by omega) ?_; intro _ _))
  (k_with "exec For Tuple Call cons nil" => (k_here; (rename Fr _ _ _ _ => lF'); (with_unfolding_all refine' For_turns lF' ?_); (try k_fold)))
  (k_with "st in" => first | exact congrArg not (st_in _) | exact congrArg not (st_lost _) | exact st_in _ | exact st_lost _)
  (k_with "lt" => (intro b hb; (simp only [List.mem_cons, List.not_mem_nil, or_false] at hb); rcases hb with rfl | rfl <;> omega))
  (k_with "apart" => ((try simp only [List.cons_append, List.nil_append]); (repeat' (first | exact offNil | (refine offCons (by k_all) ?_)))))
  refine PartL.elim hP ?_
  clear hP
  intro k t1 t2 t3 t4 la lb hA hB
  refine MSpec.start ?_
  intro own₀ hsub hoff Rp hRp
  unfold Spec
  k_fill
  intro mean mg mb dp un gd cn cs a ccd cl outer A₀ base h₀ L m s Q E B F X N T hk hd hu hret
  dsimp only [partEs, List.cons_append, List.nil_append] at N
  replace N : News h₀ L s.heap (_ :: _ :: (([] : Led) ++ own₀)) := N
  have hf : FreshM [] own₀ [dx, x] := FreshM.nil
  have off : OwnOff ([] ++ own₀) [dx, x] := hoff
  replace hA : SpansAt ([] ++ own) (.ref la) p.A := hA
  replace hB : SpansAt ([] ++ own) (.ref lb) p.B := hB
  refine wpAny_call ?_
  k_dflt cell_enter
  (k_with "call ref" => (
    (with_reducible show wpAny _ _ (call (Value.ref 48) [Value.ref _, Value.int _ _, Value.int _ _]) _ _ _)
    refine' PSpec.useM (M := [(dx, _), (x, _)]) (own₀ := own₀) (adr := [dx, x]) (add_spec _ _ _ _ _ _ _ _ ?hs ?hz) rfl hsub ?hf ?off ?B ?F ?X ?N ?T ?hk ?hd ?hu ?hn ?_
    (case hf => assumption)
    (case off => assumption)
    (case B => k_asm)
    (case F => k_asm)
    (case X => k_asm)
    (case N => k_asm)
    (case T => k_asm)
    (case hk => exact rfl)
    (case hd => ktr_room)
    (case hu => ktr_units)
    (case hs => assumption)
    (case hz => assumption)
    (case hn => walk_at "sub")
    rintro r9 T9 h9 tk9 F9 N9 hf9 off9 hs9 hp9
    dsimp only [List.cons_append, List.nil_append] at N9
    replace hA := hA.mono hs9
    replace hB := hB.mono hs9
    clear hf off hs9
    have hf := hf9
    have off := off9
    clear hf9 off9
    obtain ⟨l7, vs9, n9, rfl, hq9⟩ := id hp9
    clear hq9 hA
    have hA := hp9
    clear hp9
    (try dsimp only)
    (try k_fold)))
  (k_with "call ref" => (
    (with_reducible show wpAny _ _ (call (Value.ref 55) [Value.ref _, Value.int _ _, Value.int _ _]) _ _ _)
    refine' PSpec.useM (M := [(dx, _), (x, _)]) (own₀ := own₀) (adr := [dx, x]) (cut_spec _ _ _ _ _ _ _ _ ?hs ?hz) rfl hsub ?hf ?off ?B ?F ?X ?N ?T ?hk ?hd ?hu ?hn ?_
    (case hf => assumption)
    (case off => assumption)
    (case B => k_asm)
    (case F => k_asm)
    (case X => k_asm)
    (case N => k_asm)
    (case T => k_asm)
    (case hk => exact rfl)
    (case hd => ktr_room)
    (case hu => ktr_units)
    (case hs => assumption)
    (case hz => assumption)
    (case hn => walk_at "sub")
    rintro r9 T9 h9 tk9 F9 N9 hf9 off9 hs9 hp9
    dsimp only [List.cons_append, List.nil_append] at N9
    replace hA := hA.mono hs9
    replace hB := hB.mono hs9
    clear hf off hs9
    have hf := hf9
    have off := off9
    clear hf9 off9
    obtain ⟨l8, vs9, n9, rfl, hq9⟩ := id hp9
    clear hq9 hB
    have hB := hp9
    clear hp9
    (try dsimp only)
    (try k_fold)))
  (k_with "call ref" => (
    (with_reducible show wpAny _ _ (call (Value.ref 62) [Value.ref _, Value.int _ _, Value.int _ _]) _ _ _)
    refine' PSpec.useM (M := [(dx, _), (x, _)]) (own₀ := own₀) (adr := [dx, x]) (has_spec _ _ _ _ _ _ _ _ ?hs ?hz) rfl hsub ?hf ?off ?B ?F ?X ?N ?T ?hk ?hd ?hu ?hn ?_
    (case hf => assumption)
    (case off => assumption)
    (case B => k_asm)
    (case F => k_asm)
    (case X => k_asm)
    (case N => k_asm)
    (case T => k_asm)
    (case hk => exact rfl)
    (case hd => ktr_room)
    (case hu => ktr_units)
    (case hs => assumption)
    (case hz => assumption)
    (case hn => walk_at "sub")
    rintro r9 T9 h9 tk9 F9 N9 hf9 off9 hs9 rfl
    dsimp only [List.cons_append, List.nil_append] at N9
    replace hA := hA.mono hs9
    replace hB := hB.mono hs9
    clear hf off hs9
    have hf := hf9
    have off := off9
    clear hf9 off9
    (try dsimp only)
    (try k_fold)))
  cases e
  all_goals k_steps
  · have hst := ack_recvd (p := p) (off := of) (sz := sz) (e := false) (st_sent (by assumption)) (by assumption : p.ea = true) (by assumption)
    refine hret _ ((dx, _) :: (x, _) :: (T9 ++ own₀)) _ _ (by k_asm) (News.sub (by assumption) (by walk_at "sub")) (hRp _ T9 [(dx, _), (x, _)] (ackPS p of sz _) hf (PartL.of' k t1 _ t3 t4 l7 l8 (by rw [hst]; rfl) hA hB) ⟨rfl, rfl⟩)
  · have hst := ack_st3 (p := p) (off := of) (sz := sz) (e := false) (by assumption)
    refine hret _ ((dx, _) :: (x, _) :: (T9 ++ own₀)) _ _ (by k_asm) (News.sub (by assumption) (by walk_at "sub")) (hRp _ T9 [(dx, _), (x, _)] (ackPS p of sz _) hf (PartL.of' k t1 _ t3 t4 l7 l8 (by rw [hst]; rfl) hA hB) ⟨rfl, rfl⟩)
  · have hst := ack_st2 (p := p) (off := of) (sz := sz) (e := false) (by assumption : p.ea = false)
    refine hret _ ((dx, _) :: (x, _) :: (T9 ++ own₀)) _ _ (by k_asm) (News.sub (by assumption) (by walk_at "sub")) (hRp _ T9 [(dx, _), (x, _)] (ackPS p of sz _) hf (PartL.of' k t1 _ t3 t4 l7 l8 (by rw [hst]; rfl) hA hB) ⟨rfl, rfl⟩)
  · have hst := ack_st1 (p := p) (off := of) (sz := sz) (e := false) (st_unsent (by assumption))
    refine hret _ ((dx, _) :: (x, _) :: (T9 ++ own₀)) _ _ (by k_asm) (News.sub (by assumption) (by walk_at "sub")) (hRp _ T9 [(dx, _), (x, _)] (ackPS p of sz _) hf (PartL.of' k t1 _ t3 t4 l7 l8 (by rw [hst]; rfl) hA hB) ⟨rfl, rfl⟩)
  · have hst := ack_recvd (p := p) (off := of) (sz := sz) (e := true) (st_sent (by assumption)) rfl (by assumption)
    refine hret _ ((dx, _) :: (x, _) :: (T9 ++ own₀)) _ _ (by k_asm) (News.sub (by assumption) (by walk_at "sub")) (hRp _ T9 [(dx, _), (x, _)] (ackPS p of sz _) hf (PartL.of' k t1 _ t3 t4 l7 l8 (by rw [hst]; rfl) hA hB) ⟨rfl, rfl⟩)
  · have hst := ack_st3 (p := p) (off := of) (sz := sz) (e := true) (by assumption)
    refine hret _ ((dx, _) :: (x, _) :: (T9 ++ own₀)) _ _ (by k_asm) (News.sub (by assumption) (by walk_at "sub")) (hRp _ T9 [(dx, _), (x, _)] (ackPS p of sz _) hf (PartL.of' k t1 _ t3 t4 l7 l8 (by rw [hst]; rfl) hA hB) ⟨rfl, rfl⟩)
  · have hst := ack_st1 (p := p) (off := of) (sz := sz) (e := true) (st_unsent (by assumption))
    refine hret _ ((dx, _) :: (x, _) :: (T9 ++ own₀)) _ _ (by k_asm) (News.sub (by assumption) (by walk_at "sub")) (hRp _ T9 [(dx, _), (x, _)] (ackPS p of sz _) hf (PartL.of' k t1 _ t3 t4 l7 l8 (by rw [hst]; rfl) hA hB) ⟨rfl, rfl⟩)
theorem addAll_take {b ls : Sp} {i : Nat} {q : Int × Int} (h : ls[i]? = some q) : addAll b (ls.take (i + 1)) = addSpan (addAll b (ls.take i)) q.1 q.2 := by
  unfold addAll
  rw [List.take_add_one, h, List.foldl_append]
  rfl
def LostJ (P : Params) (dx x : Nat) (p : PS) (own own₀ T₁ : Led) (e : Bool) (ls : Sp) (i : Nat) (m : Str → Option Value) (nx : Led) : Prop :=
  ∃ (T M : Led), nx = M ++ (T ++ own₀) ∧ Sub T₁ T ∧ FreshM T own₀ [dx, x] ∧ PartL P dx x { p with B := addAll p.B (ls.take i) } (T ++ own) M ∧ m (Str.ofString "self") = some (.ref x) ∧ m (Str.ofString "is_end") = some (.bool e)
theorem lost_close {P : Params} {dx x : Nat} {p : PS} {h₀ h' : Heap} {L : Addr} {own own₀ own₁ T T₁ T' M M' R : Led} {e : Bool} {ls : Sp} {i : Nat} {m' : Str → Option Value} {s₁ : Shared} {tk : Nat} {Q : Flow → Shared → Prop} {news' : Led} {q : Int × Int} {l : Addr} {ol : Obj}
    (hR : R = T ++ own₀ ++ own₁) (off : OwnOff own₁ ((M ++ (T ++ own₀)).map (·.1))) (eM : M.map (·.1) = [dx, x]) (hl : (l, ol) ∈ T₁ ++ own₀) (h1 : Sub T₁ T) (hfT : FreshM T own₀ [dx, x]) (hf : FreshM T' R [dx, x]) (hpi : ls[i]? = some q)
    (F : Fr h₀ L h' m') (N : News h₀ L h' news') (hN : Sub (M' ++ (T' ++ R)) news') (hP : PartL P dx x { p with B := addSpan (addAll p.B (ls.take i)) q.1 q.2 } (T' ++ (T ++ own)) M')
    (hm1 : m' (Str.ofString "self") = some (.ref x)) (hm2 : m' (Str.ofString "is_end") = some (.bool e)) :
    TEnd h₀ L (fun m' nx => (l, ol) ∈ nx ∧ LostJ P dx x p own own₀ T₁ e ls (i + 1) m' nx) own₁ s₁ Q .next { s₁ with heap := h', toks := tk } := by
  subst hR
  have eM' : M'.map (·.1) = [dx, x] := by obtain ⟨⟨_, _, _, _, _, _, _, rfl, _⟩⟩ := hP; rfl
  refine TEnd.next (M' ++ ((T' ++ T) ++ own₀)) F N (fun q hq => hN q ?_) (fun q hq => hN q ?_) ?_ ⟨?_, T' ++ T, M', rfl, Sub.appR2 h1, ?_, ?_, hm1, hm2⟩
  · simp only [List.mem_append] at hq ⊢
    rcases hq with h | (h | h) | h <;> simp [h]
  · simp only [List.mem_append]; simp [hq]
  · intro q hq b hb
    simp only [List.map_append, List.mem_append, eM'] at hb
    rcases hb with h | (h | h) | h
    · exact off q hq b (by simp only [List.map_append, List.mem_append, eM]; exact .inl h)
    · exact Fresh.off hf.1 q (by simp [hq]) b h
    · exact off q hq b (by simp only [List.map_append, List.mem_append]; exact .inr (.inl h))
    · exact off q hq b (by simp only [List.map_append, List.mem_append]; exact .inr (.inr h))
  · rcases List.mem_append.mp hl with h | h
    · simp [h1 _ h]
    · simp [h]
  · refine ⟨Fresh.app (hf.1.sub (fun q hq => by simp [hq])) hfT.1, fun q hq b hb => ?_⟩
    rcases List.mem_append.mp hq with h | h
    · exact hf.2 q h b hb
    · exact hfT.2 q h b hb
  · rw [addAll_take hpi, List.append_assoc]; exact hP
/-- the spans that the loop runs over -/
def LostV (P : Params) (k : Nat → Tok) (t1 t2 t3 t4 : Tok) (la lb dx x : Nat) (p : PS) (own own₀ : Led) (e : Bool) (ls : Sp) (v : Value) (m' : Str → Option Value) (nx : Led) : Prop :=
  ∃ (T : Led) (l : Nat) (vs : List Value) (n : Nat), v = .ref l ∧ nx = (dx, dictOf (partEs P k (.int p.lim t1) (.str p.st.str t2) (.bytes p.W t3) (.int p.se t4) (.ref la) (.ref lb) (.bool p.fin) (.bool p.ow) (.bool p.ea)) 11) :: (x, instObj 199 dx) :: (T ++ own₀) ∧ FreshM T own₀ [dx, x] ∧ (l, listOf vs.toArray n) ∈ T ++ own ∧ PairsAt (T ++ own) vs ls ∧ m' (Str.ofString "self") = some (.ref x) ∧ m' (Str.ofString "is_end") = some (.bool e)
@[elab_as_elim] theorem LostV.elim {P : Params} {k : Nat → Tok} {t1 t2 t3 t4 : Tok} {la lb dx x : Nat} {p : PS} {own own₀ : Led} {e : Bool} {ls : Sp} {v : Value} {m' : Str → Option Value} {nx : Led} {h₀ h : Heap} {L : Addr} {C : Value → Prop} (hV : LostV P k t1 t2 t3 t4 la lb dx x p own own₀ e ls v m' nx) (F : Fr h₀ L h m') (N : News h₀ L h nx)
    (c : ∀ (T : Led) (l : Nat) (vs : List Value) (n : Nat), Fr h₀ L h (kstB m' [(Str.ofString "self", .ref x), (Str.ofString "is_end", .bool e)]) → News h₀ L h ((dx, dictOf (partEs P k (.int p.lim t1) (.str p.st.str t2) (.bytes p.W t3) (.int p.se t4) (.ref la) (.ref lb) (.bool p.fin) (.bool p.ow) (.bool p.ea)) 11) :: (x, instObj 199 dx) :: (T ++ own₀)) → FreshM T own₀ [dx, x] → (l, listOf vs.toArray n) ∈ T ++ own → PairsAt (T ++ own) vs ls → C (.ref l)) : C v := by
  obtain ⟨T, l, vs, n, rfl, rfl, h1, h2, h3, h4, h5⟩ := hV
  exact c T l vs n (frNames _ F (by intro p hp; simp only [List.mem_cons, List.not_mem_nil, or_false] at hp; rcases hp with rfl | rfl; exact h4; exact h5)) N h1 h2 h3
theorem lostV_join {P : Params} {k : Nat → Tok} {t1 t2 t3 t4 : Tok} {la lb dx x : Nat} {p : PS} {own own₀ T : Led} {e : Bool} {ls : Sp} {v : Value} {m' : Str → Option Value} {news' : Led} {h₀ h' : Heap} {L : Addr} {s : Shared} {tk : Nat}
    (F : Fr h₀ L h' m') (N : News h₀ L h' news') (hN : Sub ((dx, dictOf (partEs P k (.int p.lim t1) (.str p.st.str t2) (.bytes p.W t3) (.int p.se t4) (.ref la) (.ref lb) (.bool p.fin) (.bool p.ow) (.bool p.ea)) 11) :: (x, instObj 199 dx) :: (T ++ own₀)) news') (hf : FreshM T own₀ [dx, x]) (hs : SpansAt (T ++ own) v ls) (h4 : m' (Str.ofString "self") = some (.ref x)) (h5 : m' (Str.ofString "is_end") = some (.bool e)) :
    JoinQ h₀ L (LostV P k t1 t2 t3 t4 la lb dx x p own own₀ e ls) s v { s with heap := h', toks := tk } := by
  obtain ⟨l, vs, n, rfl, h1, h2⟩ := hs
  exact joinQ F (News.sub N hN) ⟨T, l, vs, n, rfl, rfl, hf, h1, h2, h4, h5⟩
theorem lost_spec (w : World) (dx x : Nat) (p : PS) (M own : Led) (of sz : Int) (to tz : Tok) (e : Bool) (hne : dx < x) (hP : PartL w.params dx x p own M) (hst : p.st = .send ∨ p.st = .sent)
    (hzw : ∀ i, (withoutSpans (if sz > 0 then [(of, of + sz)] else []) (p.A.take i)).length ≤ 1000) (hzB : ∀ i, (addAll p.B ((lostSpans p of sz).take i)).length ≤ 1000) :
    MSpec w 3 24 175 [.ref x, .int of to, .int sz tz, .bool e] dx x M own (fun r p' own' => r = .none ∧ p' = lostPS p of sz e) := by
  k_with_none
  (k_with "call type:list" => (k_here; (with_reducible show wpAny _ _ (call (Value.type _) [Value.ref _]) _ _ _); k_dflt (refine' r_list ?nsF ?nsN ?nsm ?nsz ?_; (case nsF => k_asm); (case nsN => k_asm); (case nsm => k_mem); (case nsz => omega)); intro D' c' h' F' N' l1; (try k_lt l1); (try k_sweep)))
  (k_with "binaryOp Add ref ref" => (k_here; (with_reducible show wpAny _ _ (binaryOp _ (Value.ref _) (Value.ref _)) _ _ _); k_dflt (refine' r_cat ?nsF ?nsN ?nsm ?nsb ?nsz ?_; (case nsF => k_asm); (case nsN => k_asm); (case nsm => k_mem); (case nsb => k_mem); (case nsz => (simp only [List.length_cons, List.length_nil]; omega))); intro D' h' F' N' l1; (try k_lt l1); (try k_sweep)))
  (k_with "call builtin:list.append" => (k_here; (with_reducible show wpAny _ _ (call (Value.builtin _) [Value.ref _, _]) _ _ _); k_dflt (refine' r_append ?nsF ?nsN ?nsU ?nsz ?_; (case nsF => k_asm); (case nsN => k_asm); (case nsU => k_upd); (case nsz => (simp only [List.length_append, List.length_cons, List.length_nil]; omega))); intro h' F' N'; (try k_sweep)))
  (k_with "exec For Tuple Name cons nil" => (k_here; (rename Fr _ _ _ _ => lF'); (with_unfolding_all refine' For_turns lF' ?_); (try k_fold)))
  (k_with "sub" => (repeat' (first | (with_reducible exact Sub.refl _) | (with_reducible exact Sub.nil) | (with_reducible assumption) | ((with_reducible show Sub (_ :: _) _); refine Sub.consL (by k_mem) ?_) | (with_reducible refine Sub.appL ?_ ?_) | (with_reducible exact Sub.appR1 (Sub.refl _)) | (with_reducible exact Sub.appR2 (Sub.refl _)) | (with_reducible exact Sub.appR1 (Sub.appR1 (Sub.refl _))) | (with_reducible exact Sub.appR1 (Sub.appR2 (Sub.refl _))) | (with_reducible refine Sub.consR ?_) | (with_reducible refine Sub.appR2 ?_))))
  (k_with "call builtin:list.pop" => (k_here; (with_reducible show wpAny _ _ (call (Value.builtin _) [Value.ref _, Value.int _ _]) _ _ _); k_dflt (refine' pop0 ?nsF ?nsN ?nsU ?nsz ?_; (case nsF => k_asm); (case nsN => k_asm); (case nsU => k_upd); (case nsz => omega)); (intro h' F' N')))
  (k_with "call builtin:len" => (k_here; (with_reducible show wpAny _ _ (call (Value.builtin "len") [Value.ref _]) _ _ _); k_dflt (refine' r_len ?nsF ?nsN ?nsm ?nse ?nsz ?_; (case nsF => k_asm); (case nsN => k_asm); (case nsm => k_mem); (case nse => first | exact rfl | assumption | (simp only [List.length_cons, List.length_nil]; exact rfl)); (case nsz => ((try simp only [List.length_cons, List.length_nil, List.length_append, List.length_map]); omega))); (try simp only [List.length_cons, List.length_nil])))
  (k_with "subscriptTail" => (k_here; (with_reducible show wpAny _ _ (subscriptTail _ _ (Value.ref _) (Value.int _ _)) _ _ _); (with_unfolding_all refine' r_item ?nsN ?nsm ?nsh0 ?nshi ?nshx ?_ ?nshs; (case nsN => k_asm); (case nsm => k_mem); (case nsh0 => decide); (case nshi => decide); (case nshx => rfl); (case nshs => with_unfolding_all rfl); k_whole)))
  (k_with "compareOp In str ref" => (k_here; (with_reducible show wpAny _ _ (compareOp _ (Value.str _ _) (Value.ref _)) _ _ _); (first | (with_unfolding_all refine' r_instr true ?nsht ?nshi ?nshb ?_; (case nsht => first | exact News.isTup (by k_asm) (by k_mem) | exact kun_topT (by k_asm) (by k_asm) (by k_is)); (case nshi => kde_strs); (case nshb => decide)) | (with_unfolding_all refine' r_instr false ?nsht ?nshi ?nshb ?_; (case nsht => first | exact News.isTup (by k_asm) (by k_mem) | exact kun_topT (by k_asm) (by k_asm) (by k_is)); (case nshi => kde_strs); (case nshb => decide)) | (with_unfolding_all refine' r_instr _ ?nsht ?nshi ?nshb ?_; (case nsht => first | exact News.isTup (by k_asm) (by k_mem) | exact kun_topT (by k_asm) (by k_asm) (by k_is)); (case nshi => kde_strs); (case nshb => walk_at "st in")))))
  (k_with "compareOp NotIn str ref" => (k_here; (with_reducible show wpAny _ _ (compareOp _ (Value.str _ _) (Value.ref _)) _ _ _); (first | (with_unfolding_all refine' r_notinstr true ?nsht ?nshi ?nshb ?_; (case nsht => first | exact News.isTup (by k_asm) (by k_mem) | exact kun_topT (by k_asm) (by k_asm) (by k_is)); (case nshi => kde_strs); (case nshb => decide)) | (with_unfolding_all refine' r_notinstr false ?nsht ?nshi ?nshb ?_; (case nsht => first | exact News.isTup (by k_asm) (by k_mem) | exact kun_topT (by k_asm) (by k_asm) (by k_is)); (case nshi => kde_strs); (case nshb => decide)) | (with_unfolding_all refine' r_notinstr _ ?nsht ?nshi ?nshb ?_; (case nsht => first | exact News.isTup (by k_asm) (by k_mem) | exact kun_topT (by k_asm) (by k_asm) (by k_is)); (case nshi => kde_strs); (case nshb => walk_at "st in")))))
  (k_with "exec If" => k_dflt (k_extra "my if"))
  (k_with "eval BoolOp" => k_dflt (k_extra "my bool"))
  (k_with "eval IfExp" => k_dflt (k_extra "my ifexp"))
  (k_with "isTrue BoolOp" => k_dflt (k_extra "my test"))
  (k_with "call ref" => k_dflt (k_extra "my call"))
  (k_with "subscriptTail" => (k_here; (with_reducible show wpAny _ _ (subscriptTail _ (Expr.Slice _ _ none _) (Value.bytes _ _) (Value.ref _)) _ _ _); (with_reducible rename Fr _ _ _ _ => F'); (with_reducible rename News _ _ _ _ => N'); k_dflt (refine r_bslice (s := ⟨_, _, _, _, _⟩) F' N' (by constructor) (by constructor) (by omega) ?_); intro _ _ _ _ _))
  (k_with "call type:bytes" => (k_here; (with_reducible show wpAny _ _ (call (Value.type "bytes") [Value.bytes _ _]) _ _ _); refine call_bytes_bytes ?_))
  (k_with "newTuple" => (k_here; k_dflt (refine' r_newTuple ?nsF ?nsN ?nsz ?_; (case nsF => k_asm); (case nsN => k_asm); (case nsz => exact Nat.le_of_ble_eq_true rfl)); intro D' h' F' N' l1; (have l0 := l1); (try k_lt l1); (try k_sweep)))
  (k_with "newList" => (k_here; k_dflt (refine' r_newList ?nsF ?nsN ?nsz ?_; (case nsF => k_asm); (case nsN => k_asm); (case nsz => exact Nat.le_of_ble_eq_true rfl)); intro D' h' F' N' l1; (have l0 := l1); (try k_lt l1); (try k_sweep)))
  (k_with "binaryOp Add bytes bytes" => (k_here; (with_reducible show wpAny _ _ (binaryOp _ (Value.bytes _ _) (Value.bytes _ _)) _ _ _); refine r_badd (by omega) ?_; intro _ _))
  (k_with "exec For Tuple Call cons nil" => (k_here; (rename Fr _ _ _ _ => lF'); (with_unfolding_all refine' For_turns lF' ?_); (try k_fold)))
  (k_with "st in" => first | exact congrArg not (st_in _) | exact congrArg not (st_lost _) | exact st_in _ | exact st_lost _)
  (k_with "lt" => (intro b hb; (simp only [List.mem_cons, List.not_mem_nil, or_false] at hb); rcases hb with rfl | rfl <;> omega))
  (k_with "apart" => ((try simp only [List.cons_append, List.nil_append]); (repeat' (first | exact offNil | (refine offCons (by k_all) ?_)))))
  have hso : (decide (p.st = .send) || decide (p.st = .sent)) = true := by rcases hst with h | h <;> simp [h]
  refine PartL.elim hP ?_
  clear hP
  intro k t1 t2 t3 t4 la lb hA hB
  refine MSpec.start ?_
  intro own₀ hsub hoff Rp hRp
  unfold Spec
  k_fill
  intro mean mg mb dp un gd cn cs a ccd cl outer A₀ base h₀ L m s Q E B F X N T hk hd hu hret
  dsimp only [partEs, List.cons_append, List.nil_append] at N
  replace N : News h₀ L s.heap (_ :: _ :: (([] : Led) ++ own₀)) := N
  have hf : FreshM [] own₀ [dx, x] := FreshM.nil
  have off : OwnOff ([] ++ own₀) [dx, x] := hoff
  replace hA : SpansAt ([] ++ own) (.ref la) p.A := hA
  replace hB : SpansAt ([] ++ own) (.ref lb) p.B := hB
  refine wpAny_call ?_
  k_dflt cell_enter
  (k_with "my call" => (
    (with_reducible show wpAny _ _ (call (Value.ref 76) [Value.ref _, Value.ref _]) _ _ _)
    first
    | (
    refine' PSpec.useM (M := [(dx, _), (x, _)]) (own₀ := own₀) (adr := [dx, x]) (T₀ := [(_, listOf [Value.ref _].toArray _), (_, ({ cls := .type "tuple", data := .seq #[.int of to, .int (of + sz) _] _ } : Obj))]) (without_spec _ _ _ [(of, of + sz)] p.A _ ?hs1 ?hs ?hz) rfl hsub ?hf ?off ?B ?F ?X ?N ?T ?hk ?hd ?hu ?hn ?_
    (case B => k_asm)
    (case F => k_asm)
    (case X => k_asm)
    (case N => k_asm)
    (case T => k_asm)
    (case hk => exact rfl)
    (case hd => ktr_room)
    (case hu => ktr_units)
    (case hz => (simp only [if_pos hsz] at hzw; exact hzw))
    (case hn => walk_at "sub")
    (case hs1 => exact ⟨_, _, _, rfl, .head _, .cons ⟨_, _, _, _, rfl, .tail _ (.head _)⟩ .nil⟩)
    (case hs => exact hA.mono (Sub.appL Sub.nil (Sub.appR2 (Sub.refl _))))
    (case hf => exact FreshM.one (FreshM.one FreshM.nil (ltSub (by assumption) (by walk_at "sub")) (by walk_at "lt")) (ltSub (by assumption) (by walk_at "sub")) (by walk_at "lt"))
    (case off => exact FreshM.off (by exact FreshM.one (FreshM.one FreshM.nil (ltSub (by assumption) (by walk_at "sub")) (by walk_at "lt")) (ltSub (by assumption) (by walk_at "sub")) (by walk_at "lt")) hoff)
      )
    | (
    refine' PSpec.useM (M := [(dx, _), (x, _)]) (own₀ := own₀) (adr := [dx, x]) (T₀ := [(_, listOf [].toArray _)]) (without_spec _ _ _ [] p.A _ ?hs1b ?hsb ?hzb) rfl hsub ?hfb ?offb ?Bb ?Fb ?Xb ?Nb ?Tb ?hkb ?hdb ?hub ?hnb ?_
    (case Bb => k_asm)
    (case Fb => k_asm)
    (case Xb => k_asm)
    (case Nb => k_asm)
    (case Tb => k_asm)
    (case hkb => exact rfl)
    (case hdb => ktr_room)
    (case hub => ktr_units)
    (case hzb => (simp only [if_neg hsz] at hzw; exact hzw))
    (case hnb => walk_at "sub")
    (case hs1b => exact ⟨_, _, _, rfl, .head _, .nil⟩)
    (case hsb => exact hA.mono (Sub.appL Sub.nil (Sub.appR2 (Sub.refl _))))
    (case hfb => exact FreshM.one FreshM.nil (ltSub (by assumption) (by walk_at "sub")) (by walk_at "lt"))
    (case offb => exact FreshM.off (by exact FreshM.one FreshM.nil (ltSub (by assumption) (by walk_at "sub")) (by walk_at "lt")) hoff)
      )
    rintro r9 T9 h9 tk9 F9 N9 hf9 off9 hs9 hp9
    dsimp only [List.cons_append, List.nil_append] at N9
    all_goals (try dsimp only)
    all_goals (try k_fold)))
  (k_with "my call" => (
    (with_reducible show wpAny _ _ (call (Value.ref 48) [Value.ref _, Value.int _ _, Value.int _ _]) _ _ _)
    refine' PSpec.useM (M := [(dx, _), (x, _)]) (own₀ := R) (own := T ++ own) (adr := [dx, x]) (T₀ := []) (add_spec _ _ _ _ _ _ _ _ hB' ?hz) rfl hsubR FreshM.nil offR ?B ?F ?X ?N ?T ?hk ?hd ?hu ?hn ?_
    (case B => k_asm)
    (case F => k_asm)
    (case X => k_asm)
    (case N => k_asm)
    (case T => k_asm)
    (case hk => exact rfl)
    (case hd => ktr_room)
    (case hu => ktr_units)
    (case hz => exact hzB i)
    (case hn => walk_at "sub")
    rintro r9 T9 h9 tk9 F9 N9 hf9 off9 hs9 hp9
    dsimp only [List.cons_append, List.nil_append] at N9
    obtain ⟨l9', vs9', n9', rfl, hq9'⟩ := id hp9
    clear hq9'
    all_goals (try dsimp only)
    all_goals (try k_fold)))
  obtain ⟨ls, hls⟩ : ∃ ls, ls = lostSpans p of sz := ⟨_, rfl⟩
  rw [← hls] at hzB
  (k_with "eval Call" => (k_dflt (k_extra "my evcall")))
  (k_with "my evcall" => (
    (with_reducible show wpAny _ _ (eval (Expr.Call (Expr.Name (Str.ofString "without_spans") _) _ _ _) _) _ _ _)
    (fail_if_success (have hh := inCutW))
    refine cutH (by k_asm) (LostV w.params k t1 t2 t3 t4 la lb dx x p own own₀ e ls) ?cutA ?_
    (case cutA =>
     have inCutW : True := trivial
     by_cases hsz : sz > 0
     all_goals (
      k_steps
      first | (have hls2 : ls = withoutSpans [(of, of + sz)] p.A := by rw [hls, lostSpans, if_pos hsz]) | (have hls2 : ls = withoutSpans [] p.A := by rw [hls, lostSpans, if_neg hsz])
      rw [← hls2] at hp9
      exact lostV_join (by k_asm) (by assumption) (by walk_at "sub") hf9 hp9 rfl rfl))
    intro v8 h8 tk8 m8 nx8 F8 N8 hV8
    refine LostV.elim hV8 F8 N8 ?_
    clear hV8 F8 N8 hf off
    intro T9 l9 vs9 n9 F8 N8 hf hl9 hq9
    replace hA := hA.mono (Sub.appL Sub.nil (Sub.appR2 (Sub.refl _)) : Sub ([] ++ own) (T9 ++ own))
    replace hB := hB.mono (Sub.appL Sub.nil (Sub.appR2 (Sub.refl _)) : Sub ([] ++ own) (T9 ++ own))
    (try dsimp only)
    (try k_fold)))
  k_steps
  (
    rename News _ _ _ (_ :: _ :: _) => N₁
    rename Fr _ _ _ _ => F₁
    refine loopL (l := l9) (vs := vs9) (nn := n9) (news := [(dx, _), (x, _)] ++ (T9 ++ own₀)) (LostJ w.params dx x p own own₀ T9 e ls) rfl (Sub.appR2 (Sub.appL (Sub.appR1 (Sub.refl _)) (Sub.appR2 hsub)) _ hl9) F₁ (News.sub N₁ (by walk_at "sub")) ?_ ?_ ?_
    · exact ⟨T9, [(dx, _), (x, _)], rfl, Sub.refl _, hf, (PartL.of k t1 t2 t3 t4 la lb hA hB), rfl, rfl⟩
    · rintro i v m₁ nx h tk own₁ hv off₁ hl₁ ⟨T, M, rfl, h1, hfT, ⟨⟨k', u1, u2, u3, u4, la', lb', rfl, hA', hB'⟩⟩, hm1, hm2⟩ F₂ N₂
      clear N₁ F₁
      obtain ⟨⟨p1, p2⟩, hpi, a1, t1', u1', n1', rfl, ha1⟩ := hq9.get hv
      have F₃ := frNames [(Str.ofString "self", .ref x), (Str.ofString "is_end", .bool e)] F₂ (by intro p hp; simp only [List.mem_cons, List.not_mem_nil, or_false] at hp; rcases hp with rfl | rfl <;> assumption)
      clear F₂
      obtain ⟨R, hR⟩ : ∃ R, R = T ++ own₀ ++ own₁ := ⟨_, rfl⟩
      simp only [List.cons_append, List.nil_append, List.append_assoc] at N₂
      rw [← List.append_assoc, ← hR] at N₂
      replace N₂ : News _ _ _ (_ :: _ :: (([] : Led) ++ R)) := N₂
      have hsubR : Sub (T ++ own) R := by rw [hR]; exact Sub.appL (Sub.appR1 (Sub.appR1 (Sub.refl _))) (Sub.appR1 (Sub.appR2 hsub))
      have offR : OwnOff ([] ++ R) [dx, x] := by
        rw [hR]; exact offApp offNil (offApp (hfT.off hoff) (fun q hq b hb => off₁ q hq b (by simp only [List.cons_append, List.nil_append, List.map_cons, List.mem_cons] at hb ⊢; rcases hb with h | h | h; simp [h]; simp [h]; cases h)))
      have ha2 : (a1, ({ cls := Value.type "tuple", data := Data.seq #[Value.int p1 t1', Value.int p2 u1'] n1' } : Obj)) ∈ [] ++ R := hsubR _ (Sub.appL (Sub.appR1 h1) (Sub.appR2 (Sub.refl _)) _ ha1)
      dsimp only at ha1 ha2
      k_steps
      exact lost_close (M' := [(dx, _), (x, _)]) (T' := T9) hR off₁ rfl (Sub.appL (Sub.appR1 (Sub.refl _)) (Sub.appR2 hsub) _ hl9) h1 hfT hf9 hpi (by k_asm) (by k_asm) (by walk_at "sub") (PartL.of k' u1 u2 u3 u4 la' l9' (hA'.mono (Sub.appR2 (Sub.refl _))) hp9) rfl rfl
    · rintro m₁ nx h tk hl₁ ⟨T, M, rfl, h1, hfT, ⟨⟨k', u1, u2, u3, u4, la', lb', rfl, hA', hB'⟩⟩, hm1, hm2⟩ F₂ N₂
      clear N₁ F₁
      have F₃ := frNames [(Str.ofString "self", .ref x), (Str.ofString "is_end", .bool e)] F₂ (by intro p hp; simp only [List.mem_cons, List.not_mem_nil, or_false] at hp; rcases hp with rfl | rfl <;> assumption)
      clear F₂
      dsimp only [List.cons_append, List.nil_append] at N₂ ⊢
      have hfull : ls.take vs9.length = ls := by rw [hq9.length, List.take_length]
      rw [hfull] at hB'
      have offT := hfT.off hoff
      k_steps
      · have how := lost_ow1 (off := of) (sz := sz) (e := e) (by assumption : p.ea = true)
        refine hret _ ((dx, _) :: (x, _) :: (T ++ own₀)) _ _ (by k_asm) (News.sub (by assumption) (by walk_at "sub")) (hRp _ T [(dx, _), (x, _)] (lostPS p of sz e) hfT (PartL.of' k' u1 u2 u3 u4 la' lb' (by rw [how]; rfl) hA' (by rw [hls] at hB'; exact hB')) ⟨rfl, rfl⟩)
      · have how := lost_ow2 (off := of) (sz := sz) (by assumption : e = true) (by assumption : p.ea = false)
        refine hret _ ((dx, _) :: (x, _) :: (T ++ own₀)) _ _ (by k_asm) (News.sub (by assumption) (by walk_at "sub")) (hRp _ T [(dx, _), (x, _)] (lostPS p of sz e) hfT (PartL.of' k' u1 u2 u3 u4 la' lb' (by rw [how]; rfl) hA' (by rw [hls] at hB'; exact hB')) ⟨rfl, rfl⟩)
      · have how := lost_ow3 (p := p) (off := of) (sz := sz) (by assumption : e = false)
        refine hret _ ((dx, _) :: (x, _) :: (T ++ own₀)) _ _ (by k_asm) (News.sub (by assumption) (by walk_at "sub")) (hRp _ T [(dx, _), (x, _)] (lostPS p of sz e) hfT (PartL.of' k' u1 u2 u3 u4 la' lb' (by rw [how]; rfl) hA' (by rw [hls] at hB'; exact hB')) ⟨rfl, rfl⟩))
theorem write_spec (w : World) (dx x : Nat) (p : PS) (M own : Led) (d : Array UInt8) (td : Tok) (hne : dx < x) (hP : PartL w.params dx x p own M) (hz : p.W.size ≤ 1000) (hzd : d.size ≤ 100) (ho : p.st.isOpen = true) (hfin : p.fin = false) :
    MSpec w 2 16 98 [.ref x, .bytes d td] dx x M own (fun r p' own' => r = .none ∧ p' = { p with W := p.W ++ d }) := by
  k_with_none
  (k_with "call type:list" => (k_here; (with_reducible show wpAny _ _ (call (Value.type _) [Value.ref _]) _ _ _); k_dflt (refine' r_list ?nsF ?nsN ?nsm ?nsz ?_; (case nsF => k_asm); (case nsN => k_asm); (case nsm => k_mem); (case nsz => omega)); intro D' c' h' F' N' l1; (try k_lt l1); (try k_sweep)))
  (k_with "binaryOp Add ref ref" => (k_here; (with_reducible show wpAny _ _ (binaryOp _ (Value.ref _) (Value.ref _)) _ _ _); k_dflt (refine' r_cat ?nsF ?nsN ?nsm ?nsb ?nsz ?_; (case nsF => k_asm); (case nsN => k_asm); (case nsm => k_mem); (case nsb => k_mem); (case nsz => (simp only [List.length_cons, List.length_nil]; omega))); intro D' h' F' N' l1; (try k_lt l1); (try k_sweep)))
  (k_with "call builtin:list.append" => (k_here; (with_reducible show wpAny _ _ (call (Value.builtin _) [Value.ref _, _]) _ _ _); k_dflt (refine' r_append ?nsF ?nsN ?nsU ?nsz ?_; (case nsF => k_asm); (case nsN => k_asm); (case nsU => k_upd); (case nsz => (simp only [List.length_append, List.length_cons, List.length_nil]; omega))); intro h' F' N'; (try k_sweep)))
  (k_with "exec For Tuple Name cons nil" => (k_here; (rename Fr _ _ _ _ => lF'); (with_unfolding_all refine' For_turns lF' ?_); (try k_fold)))
  (k_with "sub" => (repeat' (first | (with_reducible exact Sub.refl _) | (with_reducible exact Sub.nil) | (with_reducible assumption) | ((with_reducible show Sub (_ :: _) _); refine Sub.consL (by k_mem) ?_) | (with_reducible refine Sub.appL ?_ ?_) | (with_reducible exact Sub.appR1 (Sub.refl _)) | (with_reducible exact Sub.appR2 (Sub.refl _)) | (with_reducible exact Sub.appR1 (Sub.appR1 (Sub.refl _))) | (with_reducible exact Sub.appR1 (Sub.appR2 (Sub.refl _))) | (with_reducible refine Sub.consR ?_) | (with_reducible refine Sub.appR2 ?_))))
  (k_with "call builtin:list.pop" => (k_here; (with_reducible show wpAny _ _ (call (Value.builtin _) [Value.ref _, Value.int _ _]) _ _ _); k_dflt (refine' pop0 ?nsF ?nsN ?nsU ?nsz ?_; (case nsF => k_asm); (case nsN => k_asm); (case nsU => k_upd); (case nsz => omega)); (intro h' F' N')))
  (k_with "call builtin:len" => (k_here; (with_reducible show wpAny _ _ (call (Value.builtin "len") [Value.ref _]) _ _ _); k_dflt (refine' r_len ?nsF ?nsN ?nsm ?nse ?nsz ?_; (case nsF => k_asm); (case nsN => k_asm); (case nsm => k_mem); (case nse => first | exact rfl | assumption | (simp only [List.length_cons, List.length_nil]; exact rfl)); (case nsz => ((try simp only [List.length_cons, List.length_nil, List.length_append, List.length_map]); omega))); (try simp only [List.length_cons, List.length_nil])))
  (k_with "subscriptTail" => (k_here; (with_reducible show wpAny _ _ (subscriptTail _ _ (Value.ref _) (Value.int _ _)) _ _ _); (with_unfolding_all refine' r_item ?nsN ?nsm ?nsh0 ?nshi ?nshx ?_ ?nshs; (case nsN => k_asm); (case nsm => k_mem); (case nsh0 => decide); (case nshi => decide); (case nshx => rfl); (case nshs => with_unfolding_all rfl); k_whole)))
  (k_with "compareOp In str ref" => (k_here; (with_reducible show wpAny _ _ (compareOp _ (Value.str _ _) (Value.ref _)) _ _ _); (first | (with_unfolding_all refine' r_instr true ?nsht ?nshi ?nshb ?_; (case nsht => first | exact News.isTup (by k_asm) (by k_mem) | exact kun_topT (by k_asm) (by k_asm) (by k_is)); (case nshi => kde_strs); (case nshb => decide)) | (with_unfolding_all refine' r_instr false ?nsht ?nshi ?nshb ?_; (case nsht => first | exact News.isTup (by k_asm) (by k_mem) | exact kun_topT (by k_asm) (by k_asm) (by k_is)); (case nshi => kde_strs); (case nshb => decide)) | (with_unfolding_all refine' r_instr _ ?nsht ?nshi ?nshb ?_; (case nsht => first | exact News.isTup (by k_asm) (by k_mem) | exact kun_topT (by k_asm) (by k_asm) (by k_is)); (case nshi => kde_strs); (case nshb => walk_at "st in")))))
  (k_with "compareOp NotIn str ref" => (k_here; (with_reducible show wpAny _ _ (compareOp _ (Value.str _ _) (Value.ref _)) _ _ _); (first | (with_unfolding_all refine' r_notinstr true ?nsht ?nshi ?nshb ?_; (case nsht => first | exact News.isTup (by k_asm) (by k_mem) | exact kun_topT (by k_asm) (by k_asm) (by k_is)); (case nshi => kde_strs); (case nshb => decide)) | (with_unfolding_all refine' r_notinstr false ?nsht ?nshi ?nshb ?_; (case nsht => first | exact News.isTup (by k_asm) (by k_mem) | exact kun_topT (by k_asm) (by k_asm) (by k_is)); (case nshi => kde_strs); (case nshb => decide)) | (with_unfolding_all refine' r_notinstr _ ?nsht ?nshi ?nshb ?_; (case nsht => first | exact News.isTup (by k_asm) (by k_mem) | exact kun_topT (by k_asm) (by k_asm) (by k_is)); (case nshi => kde_strs); (case nshb => walk_at "st in")))))
  (k_with "exec If" => k_dflt (k_extra "my if"))
  (k_with "eval BoolOp" => k_dflt (k_extra "my bool"))
  (k_with "eval IfExp" => k_dflt (k_extra "my ifexp"))
  (k_with "isTrue BoolOp" => k_dflt (k_extra "my test"))
  (k_with "call ref" => k_dflt (k_extra "my call"))
  (k_with "subscriptTail" => (k_here; (with_reducible show wpAny _ _ (subscriptTail _ (Expr.Slice _ _ none _) (Value.bytes _ _) (Value.ref _)) _ _ _); (with_reducible rename Fr _ _ _ _ => F'); (with_reducible rename News _ _ _ _ => N'); k_dflt (refine r_bslice (s := ⟨_, _, _, _, _⟩) F' N' (by constructor) (by constructor) (by omega) ?_); intro _ _ _ _ _))
  (k_with "call type:bytes" => (k_here; (with_reducible show wpAny _ _ (call (Value.type "bytes") [Value.bytes _ _]) _ _ _); refine call_bytes_bytes ?_))
  (k_with "newTuple" => (k_here; k_dflt (refine' r_newTuple ?nsF ?nsN ?nsz ?_; (case nsF => k_asm); (case nsN => k_asm); (case nsz => exact Nat.le_of_ble_eq_true rfl)); intro D' h' F' N' l1; (have l0 := l1); (try k_lt l1); (try k_sweep)))
  (k_with "newList" => (k_here; k_dflt (refine' r_newList ?nsF ?nsN ?nsz ?_; (case nsF => k_asm); (case nsN => k_asm); (case nsz => exact Nat.le_of_ble_eq_true rfl)); intro D' h' F' N' l1; (have l0 := l1); (try k_lt l1); (try k_sweep)))
  (k_with "binaryOp Add bytes bytes" => (k_here; (with_reducible show wpAny _ _ (binaryOp _ (Value.bytes _ _) (Value.bytes _ _)) _ _ _); refine r_badd (by omega) ?_; intro _ _))
  (k_with "exec For Tuple Call cons nil" => (k_here; (rename Fr _ _ _ _ => lF'); (with_unfolding_all refine' For_turns lF' ?_); (try k_fold)))
  (k_with "st in" => first | exact congrArg not (st_in _) | exact congrArg not (st_lost _) | exact st_in _ | exact st_lost _)
  (k_with "lt" => (intro b hb; (simp only [List.mem_cons, List.not_mem_nil, or_false] at hb); rcases hb with rfl | rfl <;> omega))
  (k_with "apart" => ((try simp only [List.cons_append, List.nil_append]); (repeat' (first | exact offNil | (refine offCons (by k_all) ?_)))))
  refine PartL.elim hP ?_
  clear hP
  intro k t1 t2 t3 t4 la lb hA hB
  refine MSpec.start ?_
  intro own₀ hsub hoff Rp hRp
  unfold Spec
  k_fill
  intro mean mg mb dp un gd cn cs a ccd cl outer A₀ base h₀ L m s Q E B F X N T hk hd hu hret
  dsimp only [partEs, List.cons_append, List.nil_append] at N
  replace N : News h₀ L s.heap (_ :: _ :: (([] : Led) ++ own₀)) := N
  have hf : FreshM [] own₀ [dx, x] := FreshM.nil
  have off : OwnOff ([] ++ own₀) [dx, x] := hoff
  replace hA : SpansAt ([] ++ own) (.ref la) p.A := hA
  replace hB : SpansAt ([] ++ own) (.ref lb) p.B := hB
  refine wpAny_call ?_
  k_dflt cell_enter
  k_steps
  refine hret _ ((dx, _) :: (x, _) :: (([] : Led) ++ own₀)) _ _ (by k_asm) (News.sub (by assumption) (by walk_at "sub")) (hRp _ [] [(dx, _), (x, _)] { p with W := p.W ++ d } hf (PartL.of k t1 t2 _ t4 la lb hA hB) ⟨rfl, rfl⟩)
theorem finish_spec (w : World) (dx x : Nat) (p : PS) (M own : Led) (hne : dx < x) (hP : PartL w.params dx x p own M) (ho : p.st.isOpen = true) (hfin : p.fin = false) :
    MSpec w 2 16 105 [.ref x] dx x M own (fun r p' own' => r = .none ∧ p' = { p with fin := true, ow := true }) := by
  k_with_none
  (k_with "call type:list" => (k_here; (with_reducible show wpAny _ _ (call (Value.type _) [Value.ref _]) _ _ _); k_dflt (refine' r_list ?nsF ?nsN ?nsm ?nsz ?_; (case nsF => k_asm); (case nsN => k_asm); (case nsm => k_mem); (case nsz => omega)); intro D' c' h' F' N' l1; (try k_lt l1); (try k_sweep)))
  (k_with "binaryOp Add ref ref" => (k_here; (with_reducible show wpAny _ _ (binaryOp _ (Value.ref _) (Value.ref _)) _ _ _); k_dflt (refine' r_cat ?nsF ?nsN ?nsm ?nsb ?nsz ?_; (case nsF => k_asm); (case nsN => k_asm); (case nsm => k_mem); (case nsb => k_mem); (case nsz => (simp only [List.length_cons, List.length_nil]; omega))); intro D' h' F' N' l1; (try k_lt l1); (try k_sweep)))
  (k_with "call builtin:list.append" => (k_here; (with_reducible show wpAny _ _ (call (Value.builtin _) [Value.ref _, _]) _ _ _); k_dflt (refine' r_append ?nsF ?nsN ?nsU ?nsz ?_; (case nsF => k_asm); (case nsN => k_asm); (case nsU => k_upd); (case nsz => (simp only [List.length_append, List.length_cons, List.length_nil]; omega))); intro h' F' N'; (try k_sweep)))
  (k_with "exec For Tuple Name cons nil" => (k_here; (rename Fr _ _ _ _ => lF'); (with_unfolding_all refine' For_turns lF' ?_); (try k_fold)))
  (k_with "sub" => (repeat' (first | (with_reducible exact Sub.refl _) | (with_reducible exact Sub.nil) | (with_reducible assumption) | ((with_reducible show Sub (_ :: _) _); refine Sub.consL (by k_mem) ?_) | (with_reducible refine Sub.appL ?_ ?_) | (with_reducible exact Sub.appR1 (Sub.refl _)) | (with_reducible exact Sub.appR2 (Sub.refl _)) | (with_reducible exact Sub.appR1 (Sub.appR1 (Sub.refl _))) | (with_reducible exact Sub.appR1 (Sub.appR2 (Sub.refl _))) | (with_reducible refine Sub.consR ?_) | (with_reducible refine Sub.appR2 ?_))))
  (k_with "call builtin:list.pop" => (k_here; (with_reducible show wpAny _ _ (call (Value.builtin _) [Value.ref _, Value.int _ _]) _ _ _); k_dflt (refine' pop0 ?nsF ?nsN ?nsU ?nsz ?_; (case nsF => k_asm); (case nsN => k_asm); (case nsU => k_upd); (case nsz => omega)); (intro h' F' N')))
  (k_with "call builtin:len" => (k_here; (with_reducible show wpAny _ _ (call (Value.builtin "len") [Value.ref _]) _ _ _); k_dflt (refine' r_len ?nsF ?nsN ?nsm ?nse ?nsz ?_; (case nsF => k_asm); (case nsN => k_asm); (case nsm => k_mem); (case nse => first | exact rfl | assumption | (simp only [List.length_cons, List.length_nil]; exact rfl)); (case nsz => ((try simp only [List.length_cons, List.length_nil, List.length_append, List.length_map]); omega))); (try simp only [List.length_cons, List.length_nil])))
  (k_with "subscriptTail" => (k_here; (with_reducible show wpAny _ _ (subscriptTail _ _ (Value.ref _) (Value.int _ _)) _ _ _); (with_unfolding_all refine' r_item ?nsN ?nsm ?nsh0 ?nshi ?nshx ?_ ?nshs; (case nsN => k_asm); (case nsm => k_mem); (case nsh0 => decide); (case nshi => decide); (case nshx => rfl); (case nshs => with_unfolding_all rfl); k_whole)))
  (k_with "compareOp In str ref" => (k_here; (with_reducible show wpAny _ _ (compareOp _ (Value.str _ _) (Value.ref _)) _ _ _); (first | (with_unfolding_all refine' r_instr true ?nsht ?nshi ?nshb ?_; (case nsht => first | exact News.isTup (by k_asm) (by k_mem) | exact kun_topT (by k_asm) (by k_asm) (by k_is)); (case nshi => kde_strs); (case nshb => decide)) | (with_unfolding_all refine' r_instr false ?nsht ?nshi ?nshb ?_; (case nsht => first | exact News.isTup (by k_asm) (by k_mem) | exact kun_topT (by k_asm) (by k_asm) (by k_is)); (case nshi => kde_strs); (case nshb => decide)) | (with_unfolding_all refine' r_instr _ ?nsht ?nshi ?nshb ?_; (case nsht => first | exact News.isTup (by k_asm) (by k_mem) | exact kun_topT (by k_asm) (by k_asm) (by k_is)); (case nshi => kde_strs); (case nshb => walk_at "st in")))))
  (k_with "compareOp NotIn str ref" => (k_here; (with_reducible show wpAny _ _ (compareOp _ (Value.str _ _) (Value.ref _)) _ _ _); (first | (with_unfolding_all refine' r_notinstr true ?nsht ?nshi ?nshb ?_; (case nsht => first | exact News.isTup (by k_asm) (by k_mem) | exact kun_topT (by k_asm) (by k_asm) (by k_is)); (case nshi => kde_strs); (case nshb => decide)) | (with_unfolding_all refine' r_notinstr false ?nsht ?nshi ?nshb ?_; (case nsht => first | exact News.isTup (by k_asm) (by k_mem) | exact kun_topT (by k_asm) (by k_asm) (by k_is)); (case nshi => kde_strs); (case nshb => decide)) | (with_unfolding_all refine' r_notinstr _ ?nsht ?nshi ?nshb ?_; (case nsht => first | exact News.isTup (by k_asm) (by k_mem) | exact kun_topT (by k_asm) (by k_asm) (by k_is)); (case nshi => kde_strs); (case nshb => walk_at "st in")))))
  (k_with "exec If" => k_dflt (k_extra "my if"))
  (k_with "eval BoolOp" => k_dflt (k_extra "my bool"))
  (k_with "eval IfExp" => k_dflt (k_extra "my ifexp"))
  (k_with "isTrue BoolOp" => k_dflt (k_extra "my test"))
  (k_with "call ref" => k_dflt (k_extra "my call"))
  (k_with "subscriptTail" => (k_here; (with_reducible show wpAny _ _ (subscriptTail _ (Expr.Slice _ _ none _) (Value.bytes _ _) (Value.ref _)) _ _ _); (with_reducible rename Fr _ _ _ _ => F'); (with_reducible rename News _ _ _ _ => N'); k_dflt (refine r_bslice (s := ⟨_, _, _, _, _⟩) F' N' (by constructor) (by constructor) (by omega) ?_); intro _ _ _ _ _))
  (k_with "call type:bytes" => (k_here; (with_reducible show wpAny _ _ (call (Value.type "bytes") [Value.bytes _ _]) _ _ _); refine call_bytes_bytes ?_))
  (k_with "newTuple" => (k_here; k_dflt (refine' r_newTuple ?nsF ?nsN ?nsz ?_; (case nsF => k_asm); (case nsN => k_asm); (case nsz => exact Nat.le_of_ble_eq_true rfl)); intro D' h' F' N' l1; (have l0 := l1); (try k_lt l1); (try k_sweep)))
  (k_with "newList" => (k_here; k_dflt (refine' r_newList ?nsF ?nsN ?nsz ?_; (case nsF => k_asm); (case nsN => k_asm); (case nsz => exact Nat.le_of_ble_eq_true rfl)); intro D' h' F' N' l1; (have l0 := l1); (try k_lt l1); (try k_sweep)))
  (k_with "binaryOp Add bytes bytes" => (k_here; (with_reducible show wpAny _ _ (binaryOp _ (Value.bytes _ _) (Value.bytes _ _)) _ _ _); refine r_badd (by omega) ?_; intro _ _))
  (k_with "exec For Tuple Call cons nil" => (k_here; (rename Fr _ _ _ _ => lF'); (with_unfolding_all refine' For_turns lF' ?_); (try k_fold)))
  (k_with "st in" => first | exact congrArg not (st_in _) | exact congrArg not (st_lost _) | exact st_in _ | exact st_lost _)
  (k_with "lt" => (intro b hb; (simp only [List.mem_cons, List.not_mem_nil, or_false] at hb); rcases hb with rfl | rfl <;> omega))
  (k_with "apart" => ((try simp only [List.cons_append, List.nil_append]); (repeat' (first | exact offNil | (refine offCons (by k_all) ?_)))))
  refine PartL.elim hP ?_
  clear hP
  intro k t1 t2 t3 t4 la lb hA hB
  refine MSpec.start ?_
  intro own₀ hsub hoff Rp hRp
  unfold Spec
  k_fill
  intro mean mg mb dp un gd cn cs a ccd cl outer A₀ base h₀ L m s Q E B F X N T hk hd hu hret
  dsimp only [partEs, List.cons_append, List.nil_append] at N
  replace N : News h₀ L s.heap (_ :: _ :: (([] : Led) ++ own₀)) := N
  have hf : FreshM [] own₀ [dx, x] := FreshM.nil
  have off : OwnOff ([] ++ own₀) [dx, x] := hoff
  replace hA : SpansAt ([] ++ own) (.ref la) p.A := hA
  replace hB : SpansAt ([] ++ own) (.ref lb) p.B := hB
  refine wpAny_call ?_
  k_dflt cell_enter
  k_steps
  refine hret _ ((dx, _) :: (x, _) :: (([] : Led) ++ own₀)) _ _ (by k_asm) (News.sub (by assumption) (by walk_at "sub")) (hRp _ [] [(dx, _), (x, _)] { p with fin := true, ow := true } hf (PartL.of k t1 t2 t3 t4 la lb hA hB) ⟨rfl, rfl⟩)
theorem raise_spec (w : World) (dx x : Nat) (p : PS) (M own : Led) (l : Int) (t : Tok) (hne : dx < x) (hP : PartL w.params dx x p own M) :
    MSpec w 2 16 126 [.ref x, .int l t] dx x M own (fun r p' own' => r = .none ∧ p' = { p with lim := max p.lim l }) := by
  k_with_none
  (k_with "call type:list" => (k_here; (with_reducible show wpAny _ _ (call (Value.type _) [Value.ref _]) _ _ _); k_dflt (refine' r_list ?nsF ?nsN ?nsm ?nsz ?_; (case nsF => k_asm); (case nsN => k_asm); (case nsm => k_mem); (case nsz => omega)); intro D' c' h' F' N' l1; (try k_lt l1); (try k_sweep)))
  (k_with "binaryOp Add ref ref" => (k_here; (with_reducible show wpAny _ _ (binaryOp _ (Value.ref _) (Value.ref _)) _ _ _); k_dflt (refine' r_cat ?nsF ?nsN ?nsm ?nsb ?nsz ?_; (case nsF => k_asm); (case nsN => k_asm); (case nsm => k_mem); (case nsb => k_mem); (case nsz => (simp only [List.length_cons, List.length_nil]; omega))); intro D' h' F' N' l1; (try k_lt l1); (try k_sweep)))
  (k_with "call builtin:list.append" => (k_here; (with_reducible show wpAny _ _ (call (Value.builtin _) [Value.ref _, _]) _ _ _); k_dflt (refine' r_append ?nsF ?nsN ?nsU ?nsz ?_; (case nsF => k_asm); (case nsN => k_asm); (case nsU => k_upd); (case nsz => (simp only [List.length_append, List.length_cons, List.length_nil]; omega))); intro h' F' N'; (try k_sweep)))
  (k_with "exec For Tuple Name cons nil" => (k_here; (rename Fr _ _ _ _ => lF'); (with_unfolding_all refine' For_turns lF' ?_); (try k_fold)))
  (k_with "sub" => (repeat' (first | (with_reducible exact Sub.refl _) | (with_reducible exact Sub.nil) | (with_reducible assumption) | ((with_reducible show Sub (_ :: _) _); refine Sub.consL (by k_mem) ?_) | (with_reducible refine Sub.appL ?_ ?_) | (with_reducible exact Sub.appR1 (Sub.refl _)) | (with_reducible exact Sub.appR2 (Sub.refl _)) | (with_reducible exact Sub.appR1 (Sub.appR1 (Sub.refl _))) | (with_reducible exact Sub.appR1 (Sub.appR2 (Sub.refl _))) | (with_reducible refine Sub.consR ?_) | (with_reducible refine Sub.appR2 ?_))))
  (k_with "call builtin:list.pop" => (k_here; (with_reducible show wpAny _ _ (call (Value.builtin _) [Value.ref _, Value.int _ _]) _ _ _); k_dflt (refine' pop0 ?nsF ?nsN ?nsU ?nsz ?_; (case nsF => k_asm); (case nsN => k_asm); (case nsU => k_upd); (case nsz => omega)); (intro h' F' N')))
  (k_with "call builtin:len" => (k_here; (with_reducible show wpAny _ _ (call (Value.builtin "len") [Value.ref _]) _ _ _); k_dflt (refine' r_len ?nsF ?nsN ?nsm ?nse ?nsz ?_; (case nsF => k_asm); (case nsN => k_asm); (case nsm => k_mem); (case nse => first | exact rfl | assumption | (simp only [List.length_cons, List.length_nil]; exact rfl)); (case nsz => ((try simp only [List.length_cons, List.length_nil, List.length_append, List.length_map]); omega))); (try simp only [List.length_cons, List.length_nil])))
  (k_with "subscriptTail" => (k_here; (with_reducible show wpAny _ _ (subscriptTail _ _ (Value.ref _) (Value.int _ _)) _ _ _); (with_unfolding_all refine' r_item ?nsN ?nsm ?nsh0 ?nshi ?nshx ?_ ?nshs; (case nsN => k_asm); (case nsm => k_mem); (case nsh0 => decide); (case nshi => decide); (case nshx => rfl); (case nshs => with_unfolding_all rfl); k_whole)))
  (k_with "compareOp In str ref" => (k_here; (with_reducible show wpAny _ _ (compareOp _ (Value.str _ _) (Value.ref _)) _ _ _); (first | (with_unfolding_all refine' r_instr true ?nsht ?nshi ?nshb ?_; (case nsht => first | exact News.isTup (by k_asm) (by k_mem) | exact kun_topT (by k_asm) (by k_asm) (by k_is)); (case nshi => kde_strs); (case nshb => decide)) | (with_unfolding_all refine' r_instr false ?nsht ?nshi ?nshb ?_; (case nsht => first | exact News.isTup (by k_asm) (by k_mem) | exact kun_topT (by k_asm) (by k_asm) (by k_is)); (case nshi => kde_strs); (case nshb => decide)) | (with_unfolding_all refine' r_instr _ ?nsht ?nshi ?nshb ?_; (case nsht => first | exact News.isTup (by k_asm) (by k_mem) | exact kun_topT (by k_asm) (by k_asm) (by k_is)); (case nshi => kde_strs); (case nshb => walk_at "st in")))))
  (k_with "compareOp NotIn str ref" => (k_here; (with_reducible show wpAny _ _ (compareOp _ (Value.str _ _) (Value.ref _)) _ _ _); (first | (with_unfolding_all refine' r_notinstr true ?nsht ?nshi ?nshb ?_; (case nsht => first | exact News.isTup (by k_asm) (by k_mem) | exact kun_topT (by k_asm) (by k_asm) (by k_is)); (case nshi => kde_strs); (case nshb => decide)) | (with_unfolding_all refine' r_notinstr false ?nsht ?nshi ?nshb ?_; (case nsht => first | exact News.isTup (by k_asm) (by k_mem) | exact kun_topT (by k_asm) (by k_asm) (by k_is)); (case nshi => kde_strs); (case nshb => decide)) | (with_unfolding_all refine' r_notinstr _ ?nsht ?nshi ?nshb ?_; (case nsht => first | exact News.isTup (by k_asm) (by k_mem) | exact kun_topT (by k_asm) (by k_asm) (by k_is)); (case nshi => kde_strs); (case nshb => walk_at "st in")))))
  (k_with "exec If" => k_dflt (k_extra "my if"))
  (k_with "eval BoolOp" => k_dflt (k_extra "my bool"))
  (k_with "eval IfExp" => k_dflt (k_extra "my ifexp"))
  (k_with "isTrue BoolOp" => k_dflt (k_extra "my test"))
  (k_with "call ref" => k_dflt (k_extra "my call"))
  (k_with "subscriptTail" => (k_here; (with_reducible show wpAny _ _ (subscriptTail _ (Expr.Slice _ _ none _) (Value.bytes _ _) (Value.ref _)) _ _ _); (with_reducible rename Fr _ _ _ _ => F'); (with_reducible rename News _ _ _ _ => N'); k_dflt (refine r_bslice (s := ⟨_, _, _, _, _⟩) F' N' (by constructor) (by constructor) (by omega) ?_); intro _ _ _ _ _))
  (k_with "call type:bytes" => (k_here; (with_reducible show wpAny _ _ (call (Value.type "bytes") [Value.bytes _ _]) _ _ _); refine call_bytes_bytes ?_))
  (k_with "newTuple" => (k_here; k_dflt (refine' r_newTuple ?nsF ?nsN ?nsz ?_; (case nsF => k_asm); (case nsN => k_asm); (case nsz => exact Nat.le_of_ble_eq_true rfl)); intro D' h' F' N' l1; (have l0 := l1); (try k_lt l1); (try k_sweep)))
  (k_with "newList" => (k_here; k_dflt (refine' r_newList ?nsF ?nsN ?nsz ?_; (case nsF => k_asm); (case nsN => k_asm); (case nsz => exact Nat.le_of_ble_eq_true rfl)); intro D' h' F' N' l1; (have l0 := l1); (try k_lt l1); (try k_sweep)))
  (k_with "binaryOp Add bytes bytes" => (k_here; (with_reducible show wpAny _ _ (binaryOp _ (Value.bytes _ _) (Value.bytes _ _)) _ _ _); refine r_badd (by omega) ?_; intro _ _))
  (k_with "exec For Tuple Call cons nil" => (k_here; (rename Fr _ _ _ _ => lF'); (with_unfolding_all refine' For_turns lF' ?_); (try k_fold)))
  (k_with "st in" => first | exact congrArg not (st_in _) | exact congrArg not (st_lost _) | exact st_in _ | exact st_lost _)
  (k_with "lt" => (intro b hb; (simp only [List.mem_cons, List.not_mem_nil, or_false] at hb); rcases hb with rfl | rfl <;> omega))
  (k_with "apart" => ((try simp only [List.cons_append, List.nil_append]); (repeat' (first | exact offNil | (refine offCons (by k_all) ?_)))))
  refine PartL.elim hP ?_
  clear hP
  intro k t1 t2 t3 t4 la lb hA hB
  refine MSpec.start ?_
  intro own₀ hsub hoff Rp hRp
  unfold Spec
  k_fill
  intro mean mg mb dp un gd cn cs a ccd cl outer A₀ base h₀ L m s Q E B F X N T hk hd hu hret
  dsimp only [partEs, List.cons_append, List.nil_append] at N
  replace N : News h₀ L s.heap (_ :: _ :: (([] : Led) ++ own₀)) := N
  have hf : FreshM [] own₀ [dx, x] := FreshM.nil
  have off : OwnOff ([] ++ own₀) [dx, x] := hoff
  replace hA : SpansAt ([] ++ own) (.ref la) p.A := hA
  replace hB : SpansAt ([] ++ own) (.ref lb) p.B := hB
  refine wpAny_call ?_
  k_dflt cell_enter
  k_steps
  rename News _ _ _ (_ :: _ :: _) => N₉
  simp only [max_is] at N₉
  refine hret _ ((dx, _) :: (x, _) :: (([] : Led) ++ own₀)) _ _ (by k_asm) (News.sub N₉ (by walk_at "sub")) (hRp _ [] [(dx, _), (x, _)] { p with lim := max p.lim l } hf (PartL.of k _ t2 t3 t4 la lb hA hB) ⟨rfl, rfl⟩)
abbrev Key := KeyP Str
/-! dicts keyed by ints and strs at once -/
def mixIs : Key → Value → Bool
  | .inl i, v => Value.isInt i v
  | .inr x, v => Value.isStrOf x v
theorem mixIs_int {i : Int} {v : Value} (h : mixIs (.inl i) v = true) : ∃ t, v = .int i t := Value.isInt_shape h
theorem mixIs_str {x : Str} {v : Value} (h : mixIs (.inr x) v = true) : ∃ t, v = .str x t := Value.isStrOf_shape h
theorem mix_int (i : Int) (t : Tok) : mixIs (.inl i) (.int i t) = true := by simp [mixIs, Value.isInt]
theorem mix_str (x : Str) (t : Tok) : mixIs (.inr x) (.str x t) = true := by simp [mixIs, Value.isStrOf]
theorem eqBool_int_str {prog : Program} {w : World} {A : Around} {E : Value → Shared → Prop} {s : Shared} {a : Int} {b : Str} {t u : Tok} {Q : Bool → Shared → Prop} (h : Q false s) : wpAny (model prog w) A (eqBool (.int a t) (.str b u)) Q E s := by
  unfold eqBool
  refine wpAny_holding ?_
  rw [if_neg (by intro x; have := eq_of_beq x; cases this)]
  show wpAny _ _ (do let x ← richCompare CmpOp.Eq (Value.int a t) (Value.str b u); truthOfDropped x) Q E s
  exact wpAny_bind (wpAny_mono (EqMixed.eq_int_str (Q := fun v s' => v = .bool false ∧ s' = s) ⟨rfl, rfl⟩) (fun v s' ⟨e1, e2⟩ => by subst e1; subst e2; exact wpAny_truthy_bool h) fun _ _ x => x)
theorem eqBool_str_int {prog : Program} {w : World} {A : Around} {E : Value → Shared → Prop} {s : Shared} {a : Int} {b : Str} {t u : Tok} {Q : Bool → Shared → Prop} (h : Q false s) : wpAny (model prog w) A (eqBool (.str b u) (.int a t)) Q E s := by
  unfold eqBool
  refine wpAny_holding ?_
  rw [if_neg (by intro x; have := eq_of_beq x; cases this)]
  show wpAny _ _ (do let x ← richCompare CmpOp.Eq (Value.str b u) (Value.int a t); truthOfDropped x) Q E s
  exact wpAny_bind (wpAny_mono (EqMixed.eq_str_int (Q := fun v s' => v = .bool false ∧ s' = s) ⟨rfl, rfl⟩) (fun v s' ⟨e1, e2⟩ => by subst e1; subst e2; exact wpAny_truthy_bool h) fun _ _ x => x)
def mixKind (prog : Program) (w : World) : KeyKind prog w Key where
  is := mixIs
  hash k := match k with | .inl i => (intKind prog w).hash i | .inr x => (strKind prog w).hash x
  inj v a b ha hb := by
    cases a <;> cases b
    · exact congrArg KeyP.inl (Value.isInt_inj v _ _ ha hb)
    · obtain ⟨t, rfl⟩ := mixIs_int ha; obtain ⟨u, e⟩ := mixIs_str hb; cases e
    · obtain ⟨t, rfl⟩ := mixIs_str ha; obtain ⟨u, e⟩ := mixIs_int hb; cases e
    · exact congrArg KeyP.inr (Value.isStrOf_inj v _ _ ha hb)
  byValue k v h := by
    cases k
    · obtain ⟨t, rfl⟩ := mixIs_int h; rfl
    · obtain ⟨t, rfl⟩ := mixIs_str h; rfl
  pyHash := fun {A E s k v Q} hv h => by
    cases k with
    | inl i => exact (intKind prog w).pyHash (k := i) hv h
    | inr x => exact (strKind prog w).pyHash (k := x) hv h
  eqBool := fun {A E s a b u v Q} hu hv h => by
    cases a with
    | inl i =>
      cases b with
      | inl j => exact (intKind prog w).eqBool (a := i) (b := j) hu hv (by simpa using h)
      | inr y =>
        obtain ⟨t, rfl⟩ := mixIs_int hu; obtain ⟨t', rfl⟩ := mixIs_str hv
        exact eqBool_int_str (by simpa using h)
    | inr x =>
      cases b with
      | inl j =>
        obtain ⟨t, rfl⟩ := mixIs_str hu; obtain ⟨t', rfl⟩ := mixIs_int hv
        exact eqBool_str_int (by simpa using h)
      | inr y => exact (strKind prog w).eqBool (a := x) (b := y) hu hv (by simpa using h)
  «strs» k x t v h := by
    cases k with
    | inl i => obtain ⟨u, e⟩ := mixIs_int h; cases e
    | inr y => exact (strKind prog w).strs y x t v h
/-- a dict whose keys are ks, whose values are all True -/
def DictK (w : World) (o : Obj) (ks : List Key) : Prop := o.IsDictOf (mixKind PySem.Challenge.rw_no0075_01.row.prog w) (ks.map fun k => (k, Value.bool true))
theorem DictK.nodup {w : World} {o : Obj} {ks : List Key} (h : DictK w o ks) : ks.Nodup := by
  obtain ⟨_, _, _, _, _, _, hn⟩ := h
  rw [List.map_map] at hn
  have e : (fun x : Key × Value => x.1) ∘ (fun k : Key => (k, Value.bool true)) = id := rfl
  rw [e, List.map_id] at hn
  exact hn
theorem keys_at (ks : List Key) (k : Key) : valueAt (ks.map fun k => (k, Value.bool true)) k = if k ∈ ks then some (.bool true) else none := by
  induction ks with
  | nil => rfl
  | cons a r ih =>
    unfold valueAt at ih ⊢
    rw [List.map_cons, List.find?_cons]
    by_cases h : a = k
    · subst h; simp
    · simp only [h, decide_false]
      rw [ih]
      have h2 : ¬ k = a := fun e => h e.symm
      simp [h2]
theorem keys_stored (ks : List Key) (k : Key) : stored (ks.map fun k => (k, Value.bool true)) k (.bool true) = (keyPut ks k).map fun k => (k, Value.bool true) := by
  unfold stored keyPut
  by_cases h : k ∈ ks
  · rw [if_pos (by rw [List.any_map]; exact List.any_eq_true.mpr ⟨k, h, by simp⟩), if_pos h, List.map_map]
    refine List.map_congr_left fun a ha => ?_
    simp only [Function.comp]
    split <;> rfl
  · rw [if_neg (by rw [List.any_map]; intro x; obtain ⟨a, ha, e⟩ := List.any_eq_true.mp x; simp at e; subst e; exact h ha), if_neg h, List.map_append]
    rfl
theorem keys_without (ks : List Key) (k : Key) : without (ks.map fun k => (k, Value.bool true)) k = (keyDel ks k).map fun k => (k, Value.bool true) := by
  unfold without keyDel
  rw [List.filter_map]
  rfl
section
variable {w : World} {A : Around} {E : Value → Shared → Prop} {s : Shared} {h₀ : Heap} {L d : Addr} {m : Str → Option Value} {news : Led} {g : Obj → Led} {o : Obj} {ks : List Key} {k : Key} {key v : Value}
theorem dk_in {Q : Value → Shared → Prop} (N : News h₀ L s.heap news) (hp : (d, o) ∈ news) (hd : DictK w o ks) (lo : (d == sysModules) = false) (hkey : mixIs k key = true) (h : Q (.bool (decide (k ∈ ks))) { s with toks := s.toks + 1 }) :
    wpAny (model PySem.Challenge.rw_no0075_01.row.prog w) A (compareOp .In key (.ref d)) Q E s :=
  kda_in (knd := mixKind _ w) N hp hd lo hkey _ (by rw [keys_at]; split <;> simp [*]) h
theorem dk_notin {Q : Value → Shared → Prop} (N : News h₀ L s.heap news) (hp : (d, o) ∈ news) (hd : DictK w o ks) (lo : (d == sysModules) = false) (hkey : mixIs k key = true) (h : Q (.bool (!decide (k ∈ ks))) { s with toks := s.toks + 1 }) :
    wpAny (model PySem.Challenge.rw_no0075_01.row.prog w) A (compareOp .NotIn key (.ref d)) Q E s :=
  kdg_notin (knd := mixKind _ w) N hp hd lo hkey _ (by rw [keys_at]; split <;> simp [*]) h
theorem dk_len {Q : Value → Shared → Prop} (N : News h₀ L s.heap news) (hp : (d, o) ∈ news) (hd : DictK w o ks) (lo : (d == sysModules) = false) (hz : ks.length ≤ 10000) (h : Q (.int (ks.length : Nat) (s.toks + 1)) { s with toks := s.toks + 1 + 1 }) :
    wpAny (model PySem.Challenge.rw_no0075_01.row.prog w) A (call (.builtin "len") [.ref d]) Q E s :=
  kda_len (knd := mixKind _ w) N hp hd lo (by rw [List.length_map]; omega) (by rw [List.length_map]; exact h)
theorem dk_set {Q : Unit → Shared → Prop} (F : Fr h₀ L s.heap m) (N : News h₀ L s.heap news) (U : UpdF d o news g) (hd : DictK w o ks) (hkey : mixIs k key = true) (hz : ks.length ≤ 10000)
    (h : ∀ h' o', Fr h₀ L h' m → News h₀ L h' (g o') → DictK w o' (keyPut ks k) → Q () { s with heap := h', toks := s.toks + 1 }) : wpAny (model PySem.Challenge.rw_no0075_01.row.prog w) A (setItem (.ref d) key (.bool true)) Q E s :=
  kda_set (knd := mixKind _ w) F N U hd hkey (by rw [List.length_map, sizeLine_eq]; omega) fun h' o' F' N' hd' => h h' o' F' N' (by rw [keys_stored] at hd'; exact hd')
theorem dk_popm {pl : Sem Bool} {Q : Value × List Value → Shared → Prop} (N : News h₀ L s.heap news) (hp : (d, o) ∈ news) (hd : DictK w o ks) (h : Q (.builtin "dict.pop", [.ref d]) s) : wpAny (model PySem.Challenge.rw_no0075_01.row.prog w) A (getMethod (.ref d) "pop" pl) Q E s :=
  have hD := kda_dict (knd := mixKind PySem.Challenge.rw_no0075_01.row.prog w) N hp hd
  getMethod_builtin hD.typeIs PySem.F.plainAttrs_dict PySem.F.slot_dict_pop PySem.F.type_dict_pop hD.mapOf.noDict h
theorem dk_pop {i : Int} {t : Tok} {Q : Value → Shared → Prop} (F : Fr h₀ L s.heap m) (N : News h₀ L s.heap news) (U : UpdF d o news g) (hd : DictK w o ks) (lo : (d == sysModules) = false) (hz : ks.length ≤ 10000)
    (h : ∀ h' o' r, Fr h₀ L h' m → News h₀ L h' (g o') → DictK w o' (keyDel ks (.inl i)) → Q r { s with heap := h', toks := s.toks + 1 }) : wpAny (model PySem.Challenge.rw_no0075_01.row.prog w) A (call (.builtin "dict.pop") [.ref d, .int i t, .none]) Q E s := by
  obtain ⟨pre, post, rfl, hg, a, b⟩ := U.split
  have hm := N (d, o) (List.mem_append_right _ (.head _))
  have hD : s.heap.DictOf (mixKind PySem.Challenge.rw_no0075_01.row.prog w) d (ks.map fun k => (k, Value.bool true)) := Heap.dictOf_iff.mpr ⟨o, hm.1, hd⟩
  have hkey : (mixKind PySem.Challenge.rw_no0075_01.row.prog w).is (.inl i) (.int i t) = true := intKind_is PySem.Challenge.rw_no0075_01.row.prog w i t
  by_cases hk : (KeyP.inl i : Key) ∈ ks
  · refine call_meetsIn PySem.F.slot_dict_pop hD.typeIs PySem.F.entry_dict_pop (PySem.F.args_dict_pop_3 _ _ _) (meets_dict_pop_there (mixKind PySem.Challenge.rw_no0075_01.row.prog w) d hkey [Value.none] (Or.inr ⟨_, rfl⟩) rfl) ⟨_, .bool true, hD, by rw [List.length_map, sizeLine_eq]; omega, by rw [keys_at, if_pos hk], fun h' hD' hs => ?_⟩
    obtain ⟨o', ho', hd'⟩ := Heap.dictOf_iff.mp hD'
    rw [keys_without] at hd'
    exact h h' o' _ (F.change hs hm.2.1 hm.2.2) (hg o' ▸ N.setIn a b hs ho') hd'
  · refine call_meetsIn PySem.F.slot_dict_pop hD.typeIs PySem.F.entry_dict_pop (PySem.F.args_dict_pop_3 _ _ _) (meets_dict_pop_default (mixKind PySem.Challenge.rw_no0075_01.row.prog w) d hkey lo rfl .none) ⟨_, hD, by rw [keys_at, if_neg hk], ?_⟩
    refine h s.heap o _ F (by rw [hg]; exact N) ?_
    have e : keyDel ks (.inl i) = ks := by
      unfold keyDel
      refine List.filter_eq_self.mpr fun x hx => ?_
      simp only [decide_eq_true_eq]
      exact fun e => hk (e ▸ hx)
    rw [e]; exact hd
end
structure LS where
  p : PS
  hw : Array UInt8
  fl : List (Int × Array UInt8 × Bool)
  kn : List Key
  ag : List Key
inductive ChunksAt (tl : Led) : List Value → List (Int × Array UInt8 × Bool) → Prop
  | nil : ChunksAt tl [] []
  | cons {v : Value} {vs : List Value} {c : Int × Array UInt8 × Bool} {cs : List (Int × Array UInt8 × Bool)} : ChunkAt tl v c → ChunksAt tl vs cs → ChunksAt tl (v :: vs) (c :: cs)
theorem ChunkAt.mono {a b : Led} (k : Sub a b) {v : Value} {c : Int × Array UInt8 × Bool} : ChunkAt a v c → ChunkAt b v c := fun ⟨x, t, u, n, e, h⟩ => ⟨x, t, u, n, e, k _ h⟩
theorem ChunksAt.mono {a b : Led} (k : Sub a b) {vs : List Value} {cs : List (Int × Array UInt8 × Bool)} (h : ChunksAt a vs cs) : ChunksAt b vs cs := by
  induction h with
  | nil => exact .nil
  | cons h _ ih => exact .cons (h.mono k) ih
theorem ChunksAt.length {a : Led} {vs : List Value} {cs : List (Int × Array UInt8 × Bool)} (h : ChunksAt a vs cs) : vs.length = cs.length := by
  induction h with
  | nil => rfl
  | cons _ _ ih => rw [List.length_cons, List.length_cons, ih]
theorem ChunksAt.append {a : Led} {vs us : List Value} {cs ds : List (Int × Array UInt8 × Bool)} (h : ChunksAt a vs cs) (k : ChunksAt a us ds) : ChunksAt a (vs ++ us) (cs ++ ds) := by
  induction h with
  | nil => exact k
  | cons h _ ih => exact .cons h ih
theorem ChunksAt.get {a : Led} {vs : List Value} {cs : List (Int × Array UInt8 × Bool)} (h : ChunksAt a vs cs) {i : Nat} {v : Value} (e : vs[i]? = some v) : ∃ c, cs[i]? = some c ∧ ChunkAt a v c := by
  induction h generalizing i with
  | nil => simp at e
  | cons h _ ih =>
    cases i with
    | zero => simp at e; subst e; exact ⟨_, rfl, h⟩
    | succ i => exact ih (by simpa using e)
theorem ChunksAt.erase {a : Led} {vs : List Value} {cs : List (Int × Array UInt8 × Bool)} (h : ChunksAt a vs cs) (i : Nat) : ChunksAt a (vs.eraseIdx i) (cs.eraseIdx i) := by
  induction h generalizing i with
  | nil => exact .nil
  | cons h k ih =>
    cases i with
    | zero => exact k
    | succ i => exact .cons h (ih i)
def hereKvs (W : Array UInt8) (tw : Tok) (fl kn ag : Nat) : List (Str × Value) := [(Str.ofString "written", .bytes W tw), (Str.ofString "flying", .ref fl), (Str.ofString "known", .ref kn), (Str.ofString "again", .ref ag)]
/-- the order of the eight objects' addresses; the three dicts are not the modules' -/
structure Ords (ib b dx x fl kn ag hr : Nat) : Prop where
  o : ib < b ∧ b < dx ∧ dx < x ∧ x < hr ∧ hr < fl ∧ fl < kn ∧ kn < ag
  k : (kn == sysModules) = false
  a : (ag == sysModules) = false
  h : (hr == sysModules) = false
theorem off2 {q : Addr × Obj} {a : Led} {x y : Nat} (h1 : q.1 ≠ x) (h2 : q.1 ≠ y) (k : OwnOff a [x, y]) : OwnOff (q :: a) [x, y] := offCons (List.forall_mem_cons.mpr ⟨h1, List.forall_mem_cons.mpr ⟨h2, fun _ h => nomatch h⟩⟩) k
theorem off3 {q : Addr × Obj} {a : Led} {x y z : Nat} (h1 : q.1 ≠ x) (h2 : q.1 ≠ y) (h3 : q.1 ≠ z) (k : OwnOff a [x, y, z]) : OwnOff (q :: a) [x, y, z] := offCons (List.forall_mem_cons.mpr ⟨h1, List.forall_mem_cons.mpr ⟨h2, List.forall_mem_cons.mpr ⟨h3, fun _ h => nomatch h⟩⟩⟩) k
theorem Ords.dxx {ib b dx x fl kn ag hr : Nat} (h : Ords ib b dx x fl kn ag hr) {q0 q1 q2 q3 q4 q5 : Obj} : OwnOff [(ib, q0), (b, q1), (fl, q2), (kn, q3), (ag, q4), (hr, q5)] [dx, x] := by
  obtain ⟨o1, o2, o3, o4, o5, o6, o7⟩ := h.o
  exact (off2 (Nat.ne_of_lt (Nat.lt_trans o1 o2)) (Nat.ne_of_lt (Nat.lt_trans o1 (Nat.lt_trans o2 o3))) (off2 (Nat.ne_of_lt o2) (Nat.ne_of_lt (Nat.lt_trans o2 o3)) (off2 (Nat.ne_of_gt (Nat.lt_trans o3 (Nat.lt_trans o4 o5))) (Nat.ne_of_gt (Nat.lt_trans o4 o5)) (off2 (Nat.ne_of_gt (Nat.lt_trans o3 (Nat.lt_trans o4 (Nat.lt_trans o5 o6)))) (Nat.ne_of_gt (Nat.lt_trans o4 (Nat.lt_trans o5 o6))) (off2 (Nat.ne_of_gt (Nat.lt_trans o3 (Nat.lt_trans o4 (Nat.lt_trans o5 (Nat.lt_trans o6 o7))))) (Nat.ne_of_gt (Nat.lt_trans o4 (Nat.lt_trans o5 (Nat.lt_trans o6 o7)))) (off2 (Nat.ne_of_gt (Nat.lt_trans o3 o4)) (Nat.ne_of_gt o4) offNil))))))
theorem Ords.kah {ib b dx x fl kn ag hr : Nat} (h : Ords ib b dx x fl kn ag hr) {q0 q1 q2 q3 q4 : Obj} : OwnOff [(ib, q0), (b, q1), (dx, q2), (x, q3), (fl, q4)] [kn, ag, hr] := by
  obtain ⟨o1, o2, o3, o4, o5, o6, o7⟩ := h.o
  exact (off3 (Nat.ne_of_lt (Nat.lt_trans o1 (Nat.lt_trans o2 (Nat.lt_trans o3 (Nat.lt_trans o4 (Nat.lt_trans o5 o6)))))) (Nat.ne_of_lt (Nat.lt_trans o1 (Nat.lt_trans o2 (Nat.lt_trans o3 (Nat.lt_trans o4 (Nat.lt_trans o5 (Nat.lt_trans o6 o7))))))) (Nat.ne_of_lt (Nat.lt_trans o1 (Nat.lt_trans o2 (Nat.lt_trans o3 o4)))) (off3 (Nat.ne_of_lt (Nat.lt_trans o2 (Nat.lt_trans o3 (Nat.lt_trans o4 (Nat.lt_trans o5 o6))))) (Nat.ne_of_lt (Nat.lt_trans o2 (Nat.lt_trans o3 (Nat.lt_trans o4 (Nat.lt_trans o5 (Nat.lt_trans o6 o7)))))) (Nat.ne_of_lt (Nat.lt_trans o2 (Nat.lt_trans o3 o4))) (off3 (Nat.ne_of_lt (Nat.lt_trans o3 (Nat.lt_trans o4 (Nat.lt_trans o5 o6)))) (Nat.ne_of_lt (Nat.lt_trans o3 (Nat.lt_trans o4 (Nat.lt_trans o5 (Nat.lt_trans o6 o7))))) (Nat.ne_of_lt (Nat.lt_trans o3 o4)) (off3 (Nat.ne_of_lt (Nat.lt_trans o4 (Nat.lt_trans o5 o6))) (Nat.ne_of_lt (Nat.lt_trans o4 (Nat.lt_trans o5 (Nat.lt_trans o6 o7)))) (Nat.ne_of_lt o4) (off3 (Nat.ne_of_lt o6) (Nat.ne_of_lt (Nat.lt_trans o6 o7)) (Nat.ne_of_gt o5) offNil)))))
theorem Ords.agh {ib b dx x fl kn ag hr : Nat} (h : Ords ib b dx x fl kn ag hr) {q0 q1 q2 q3 q4 q5 : Obj} : OwnOff [(ib, q0), (b, q1), (dx, q2), (x, q3), (fl, q4), (kn, q5)] [ag, hr] := by
  obtain ⟨o1, o2, o3, o4, o5, o6, o7⟩ := h.o
  exact (off2 (Nat.ne_of_lt (Nat.lt_trans o1 (Nat.lt_trans o2 (Nat.lt_trans o3 (Nat.lt_trans o4 (Nat.lt_trans o5 (Nat.lt_trans o6 o7))))))) (Nat.ne_of_lt (Nat.lt_trans o1 (Nat.lt_trans o2 (Nat.lt_trans o3 o4)))) (off2 (Nat.ne_of_lt (Nat.lt_trans o2 (Nat.lt_trans o3 (Nat.lt_trans o4 (Nat.lt_trans o5 (Nat.lt_trans o6 o7)))))) (Nat.ne_of_lt (Nat.lt_trans o2 (Nat.lt_trans o3 o4))) (off2 (Nat.ne_of_lt (Nat.lt_trans o3 (Nat.lt_trans o4 (Nat.lt_trans o5 (Nat.lt_trans o6 o7))))) (Nat.ne_of_lt (Nat.lt_trans o3 o4)) (off2 (Nat.ne_of_lt (Nat.lt_trans o4 (Nat.lt_trans o5 (Nat.lt_trans o6 o7)))) (Nat.ne_of_lt o4) (off2 (Nat.ne_of_lt (Nat.lt_trans o6 o7)) (Nat.ne_of_gt o5) (off2 (Nat.ne_of_lt o7) (Nat.ne_of_gt (Nat.lt_trans o5 o6)) offNil))))))
theorem Ords.dxxC {ib b dx x fl kn ag hr : Nat} (h : Ords ib b dx x fl kn ag hr) {c : Nat} (hc : ∀ z ∈ [ib, b, dx, x, fl, kn, ag, hr], @LT.lt Nat _ z c) {q0 q1 q2 q3 q4 q5 q6 : Obj} : OwnOff [(c, q0), (ib, q1), (b, q2), (fl, q3), (kn, q4), (ag, q5), (hr, q6)] [dx, x] := by
  obtain ⟨o1, o2, o3, o4, o5, o6, o7⟩ := h.o
  exact (off2 (Nat.ne_of_gt (hc dx (.tail _ (.tail _ (.head _))))) (Nat.ne_of_gt (hc x (.tail _ (.tail _ (.tail _ (.head _)))))) (off2 (Nat.ne_of_lt (Nat.lt_trans o1 o2)) (Nat.ne_of_lt (Nat.lt_trans o1 (Nat.lt_trans o2 o3))) (off2 (Nat.ne_of_lt o2) (Nat.ne_of_lt (Nat.lt_trans o2 o3)) (off2 (Nat.ne_of_gt (Nat.lt_trans o3 (Nat.lt_trans o4 o5))) (Nat.ne_of_gt (Nat.lt_trans o4 o5)) (off2 (Nat.ne_of_gt (Nat.lt_trans o3 (Nat.lt_trans o4 (Nat.lt_trans o5 o6)))) (Nat.ne_of_gt (Nat.lt_trans o4 (Nat.lt_trans o5 o6))) (off2 (Nat.ne_of_gt (Nat.lt_trans o3 (Nat.lt_trans o4 (Nat.lt_trans o5 (Nat.lt_trans o6 o7))))) (Nat.ne_of_gt (Nat.lt_trans o4 (Nat.lt_trans o5 (Nat.lt_trans o6 o7)))) (off2 (Nat.ne_of_gt (Nat.lt_trans o3 o4)) (Nat.ne_of_gt o4) offNil)))))))
theorem Ords.ibbC {ib b dx x fl kn ag hr : Nat} (h : Ords ib b dx x fl kn ag hr) {c : Nat} (hc : ∀ z ∈ [ib, b, dx, x, fl, kn, ag, hr], @LT.lt Nat _ z c) {q0 q1 q2 q3 q4 q5 q6 : Obj} : OwnOff [(c, q0), (dx, q1), (x, q2), (fl, q3), (kn, q4), (ag, q5), (hr, q6)] [ib, b] := by
  obtain ⟨o1, o2, o3, o4, o5, o6, o7⟩ := h.o
  exact (off2 (Nat.ne_of_gt (hc ib (.head _))) (Nat.ne_of_gt (hc b (.tail _ (.head _)))) (off2 (Nat.ne_of_gt (Nat.lt_trans o1 o2)) (Nat.ne_of_gt o2) (off2 (Nat.ne_of_gt (Nat.lt_trans o1 (Nat.lt_trans o2 o3))) (Nat.ne_of_gt (Nat.lt_trans o2 o3)) (off2 (Nat.ne_of_gt (Nat.lt_trans o1 (Nat.lt_trans o2 (Nat.lt_trans o3 (Nat.lt_trans o4 o5))))) (Nat.ne_of_gt (Nat.lt_trans o2 (Nat.lt_trans o3 (Nat.lt_trans o4 o5)))) (off2 (Nat.ne_of_gt (Nat.lt_trans o1 (Nat.lt_trans o2 (Nat.lt_trans o3 (Nat.lt_trans o4 (Nat.lt_trans o5 o6)))))) (Nat.ne_of_gt (Nat.lt_trans o2 (Nat.lt_trans o3 (Nat.lt_trans o4 (Nat.lt_trans o5 o6))))) (off2 (Nat.ne_of_gt (Nat.lt_trans o1 (Nat.lt_trans o2 (Nat.lt_trans o3 (Nat.lt_trans o4 (Nat.lt_trans o5 (Nat.lt_trans o6 o7))))))) (Nat.ne_of_gt (Nat.lt_trans o2 (Nat.lt_trans o3 (Nat.lt_trans o4 (Nat.lt_trans o5 (Nat.lt_trans o6 o7)))))) (off2 (Nat.ne_of_gt (Nat.lt_trans o1 (Nat.lt_trans o2 (Nat.lt_trans o3 o4)))) (Nat.ne_of_gt (Nat.lt_trans o2 (Nat.lt_trans o3 o4))) offNil)))))))
theorem Ords.cag {ib b dx x fl kn ag hr : Nat} (h : Ords ib b dx x fl kn ag hr) {c : Nat} (hc : ∀ z ∈ [ib, b, dx, x, fl, kn, ag, hr], @LT.lt Nat _ z c) {q0 q1 q2 q3 q4 q5 q6 : Obj} : OwnOff [(ib, q0), (b, q1), (dx, q2), (x, q3), (fl, q4), (kn, q5), (hr, q6)] [c, ag] := by
  obtain ⟨o1, o2, o3, o4, o5, o6, o7⟩ := h.o
  exact (off2 (Nat.ne_of_lt (hc ib (.head _))) (Nat.ne_of_lt (Nat.lt_trans o1 (Nat.lt_trans o2 (Nat.lt_trans o3 (Nat.lt_trans o4 (Nat.lt_trans o5 (Nat.lt_trans o6 o7))))))) (off2 (Nat.ne_of_lt (hc b (.tail _ (.head _)))) (Nat.ne_of_lt (Nat.lt_trans o2 (Nat.lt_trans o3 (Nat.lt_trans o4 (Nat.lt_trans o5 (Nat.lt_trans o6 o7)))))) (off2 (Nat.ne_of_lt (hc dx (.tail _ (.tail _ (.head _))))) (Nat.ne_of_lt (Nat.lt_trans o3 (Nat.lt_trans o4 (Nat.lt_trans o5 (Nat.lt_trans o6 o7))))) (off2 (Nat.ne_of_lt (hc x (.tail _ (.tail _ (.tail _ (.head _)))))) (Nat.ne_of_lt (Nat.lt_trans o4 (Nat.lt_trans o5 (Nat.lt_trans o6 o7)))) (off2 (Nat.ne_of_lt (hc fl (.tail _ (.tail _ (.tail _ (.tail _ (.head _))))))) (Nat.ne_of_lt (Nat.lt_trans o6 o7)) (off2 (Nat.ne_of_lt (hc kn (.tail _ (.tail _ (.tail _ (.tail _ (.tail _ (.head _)))))))) (Nat.ne_of_lt o7) (off2 (Nat.ne_of_lt (hc hr (.tail _ (.tail _ (.tail _ (.tail _ (.tail _ (.tail _ (.tail _ (.head _)))))))))) (Nat.ne_of_lt (Nat.lt_trans o5 (Nat.lt_trans o6 o7))) offNil)))))))
/-- the law's eight objects -/
structure LawL (w : World) (ib b dx x fl kn ag hr : Nat) (S : LS) (own M : Led) : Prop where
  ex : ∃ (vs : List Value) (ns : List Int) (n0 : Nat) (seed : Int) (ts : Tok) (n1 : Nat) (k : Nat → Tok) (t1 t2 t3 t4 : Tok) (la lb : Nat) (fvs : List Value) (n2 : Nat) (ok oa oh : Obj) (tw : Tok),
    M = [(ib, listOf vs.toArray n0), (b, listOf #[.ref ib, .int seed ts] n1), (dx, dictOf (partEs w.params k (.int S.p.lim t1) (.str S.p.st.str t2) (.bytes S.p.W t3) (.int S.p.se t4) (.ref la) (.ref lb) (.bool S.p.fin) (.bool S.p.ow) (.bool S.p.ea)) 11), (x, instObj 199 dx), (fl, listOf fvs.toArray n2), (kn, ok), (ag, oa), (hr, oh)] ∧
    IntsAre vs ns ∧ ns.length ≤ 40 ∧ 0 ≤ seed ∧ seed < 2147483647 ∧ SpansAt own (.ref la) S.p.A ∧ SpansAt own (.ref lb) S.p.B ∧ ChunksAt own fvs S.fl ∧ DictK w ok S.kn ∧ DictK w oa S.ag ∧ oh.IsDictOf (strKind PySem.Challenge.rw_no0075_01.row.prog w) (hereKvs S.hw tw fl kn ag)
theorem LawL.of {w : World} {ib b dx x fl kn ag hr : Nat} {S : LS} {own : Led} (vs : List Value) (ns : List Int) (n0 : Nat) (seed : Int) (ts : Tok) (n1 : Nat) (k : Nat → Tok) (t1 t2 t3 t4 : Tok) (la lb : Nat) (fvs : List Value) (n2 : Nat) (ok oa oh : Obj) (tw : Tok) (hi : IntsAre vs ns) (hl40 : ns.length ≤ 40) (hs0 : 0 ≤ seed) (hs1 : seed < 2147483647) (hA : SpansAt own (.ref la) S.p.A) (hB : SpansAt own (.ref lb) S.p.B) (hC : ChunksAt own fvs S.fl) (hK : DictK w ok S.kn) (hG : DictK w oa S.ag) (hH : oh.IsDictOf (strKind PySem.Challenge.rw_no0075_01.row.prog w) (hereKvs S.hw tw fl kn ag)) :
    LawL w ib b dx x fl kn ag hr S own [(ib, listOf vs.toArray n0), (b, listOf #[.ref ib, .int seed ts] n1), (dx, dictOf (partEs w.params k (.int S.p.lim t1) (.str S.p.st.str t2) (.bytes S.p.W t3) (.int S.p.se t4) (.ref la) (.ref lb) (.bool S.p.fin) (.bool S.p.ow) (.bool S.p.ea)) 11), (x, instObj 199 dx), (fl, listOf fvs.toArray n2), (kn, ok), (ag, oa), (hr, oh)] := ⟨⟨vs, ns, n0, seed, ts, n1, k, t1, t2, t3, t4, la, lb, fvs, n2, ok, oa, oh, tw, rfl, hi, hl40, hs0, hs1, hA, hB, hC, hK, hG, hH⟩⟩
@[elab_as_elim] theorem LawL.elim {w : World} {ib b dx x fl kn ag hr : Nat} {S : LS} {own : Led} {M : Led} {C : Led → Prop} (h : LawL w ib b dx x fl kn ag hr S own M)
    (c : ∀ (vs : List Value) (ns : List Int) (n0 : Nat) (seed : Int) (ts : Tok) (n1 : Nat) (k : Nat → Tok) (t1 t2 t3 t4 : Tok) (la lb : Nat) (fvs : List Value) (n2 : Nat) (ok oa oh : Obj) (tw : Tok), IntsAre vs ns → ns.length ≤ 40 → 0 ≤ seed → seed < 2147483647 → SpansAt own (.ref la) S.p.A → SpansAt own (.ref lb) S.p.B → ChunksAt own fvs S.fl → DictK w ok S.kn → DictK w oa S.ag → oh.IsDictOf (strKind PySem.Challenge.rw_no0075_01.row.prog w) (hereKvs S.hw tw fl kn ag) → C [(ib, listOf vs.toArray n0), (b, listOf #[.ref ib, .int seed ts] n1), (dx, dictOf (partEs w.params k (.int S.p.lim t1) (.str S.p.st.str t2) (.bytes S.p.W t3) (.int S.p.se t4) (.ref la) (.ref lb) (.bool S.p.fin) (.bool S.p.ow) (.bool S.p.ea)) 11), (x, instObj 199 dx), (fl, listOf fvs.toArray n2), (kn, ok), (ag, oa), (hr, oh)]) : C M := by
  obtain ⟨⟨vs, ns, n0, seed, ts, n1, k, t1, t2, t3, t4, la, lb, fvs, n2, ok, oa, oh, tw, rfl, hi, hl40, hs0, hs1, hA, hB, hC, hK, hG, hH⟩⟩ := h
  exact c vs ns n0 seed ts n1 k t1 t2 t3 t4 la lb fvs n2 ok oa oh tw hi hl40 hs0 hs1 hA hB hC hK hG hH
/-- a def of the law's -/
def LSpec (w : World) (D U : Nat) (f : Addr) (args : List Value) (ib b dx x fl kn ag hr : Nat) (M own : Led) (Post : Value → LS → Led → Prop) : Prop :=
  ∀ own₀, Sub own own₀ → OwnOff own₀ [ib, b, dx, x, fl, kn, ag, hr] → Spec w D U f args (M ++ own₀) (fun r news' => ∃ T M' S', news' = M' ++ (T ++ own₀) ∧ FreshM T own₀ [ib, b, dx, x, fl, kn, ag, hr] ∧ LawL w ib b dx x fl kn ag hr S' (T ++ own) M' ∧ Post r S' (T ++ own))
theorem LawL.adr {w : World} {ib b dx x fl kn ag hr : Nat} {S : LS} {own M : Led} (h : LawL w ib b dx x fl kn ag hr S own M) : M.map (·.1) = [ib, b, dx, x, fl, kn, ag, hr] := by
  refine LawL.elim h ?_
  intros
  rfl
theorem LSpec.start {w : World} {D U : Nat} {f : Addr} {args : List Value} {ib b dx x fl kn ag hr : Nat} {M own : Led} {Post : Value → LS → Led → Prop}
    (h : ∀ own₀, Sub own own₀ → OwnOff own₀ [ib, b, dx, x, fl, kn, ag, hr] → ∀ R : Value → Led → Prop, (∀ r T M' S', FreshM T own₀ [ib, b, dx, x, fl, kn, ag, hr] → LawL w ib b dx x fl kn ag hr S' (T ++ own) M' → Post r S' (T ++ own) → R r (M' ++ (T ++ own₀))) → Spec w D U f args (M ++ own₀) R) :
    LSpec w D U f args ib b dx x fl kn ag hr M own Post :=
  fun own₀ h1 h2 => h own₀ h1 h2 _ fun _ T M' S' hf hL hp => ⟨T, M', S', rfl, hf, hL, hp⟩
theorem LSpec.useL {w : World} {D U : Nat} {f : Addr} {args : List Value} {ib b dx x fl kn ag hr : Nat} {M T₀ own own₀ : Led} {Post : Value → LS → Led → Prop} (C : LSpec w D U f args ib b dx x fl kn ag hr M (T₀ ++ own) Post) (eM : M.map (·.1) = [ib, b, dx, x, fl, kn, ag, hr]) (hsub : Sub own own₀) (hf : FreshM T₀ own₀ [ib, b, dx, x, fl, kn, ag, hr]) (off : OwnOff (T₀ ++ own₀) [ib, b, dx, x, fl, kn, ag, hr])
    {mean : ExcName → Option Value} {mg mb : Str → Option Value} {dp un : Nat} {gd : Option (List Code)} {cn : Str} {cs : Scope} {a : Addr} {ccd : Value} {cl : List (Str × Addr)} {outer : List Env} {A₀ : Around} {base h₀ : Heap} {L : Addr} {m : Str → Option Value} {news₀ : Led} {s : Shared}
    {Q E : Value → Shared → Prop} (B : Below A₀ base outer h₀) (F : Fr h₀ L s.heap m) (X : (NH.hd.heap_39 w.params).In h₀) (N : News h₀ L s.heap news₀) (T : Top NH.hd.view_39 (looseW NH.hd.view_39 [Str.ofString "OPEN_STATES"]) mean mg mb h₀) (hk : cs.kind = .function)
    (hd : dp + D < recursionLimit) (hu : un + U < cLine) (hn : Sub (M ++ (T₀ ++ own₀)) news₀)
    (ret : ∀ r T M' S' h' tk', Fr h₀ L h' m → News h₀ L h' (M' ++ (T ++ own₀)) → FreshM T own₀ [ib, b, dx, x, fl, kn, ag, hr] → OwnOff (T ++ own₀) [ib, b, dx, x, fl, kn, ag, hr] → Sub (T₀ ++ own) (T ++ own) → LawL w ib b dx x fl kn ag hr S' (T ++ own) M' → Post r S' (T ++ own) → Q r { s with heap := h', toks := tk' }) :
    wpAny (model PySem.Challenge.rw_no0075_01.row.prog w) (ktrTop dp un gd cn cs L a ccd cl outer) (call (.ref f) args) Q E s := by
  refine Spec.use (C (T₀ ++ own₀) (Sub.appL (Sub.appR1 (Sub.refl _)) (Sub.appR2 hsub)) off) B F X N T hk hd hu hn ?_
  rintro r _ h' tk' F' N' ⟨T', M', S', rfl, hf', hL, hp⟩
  have hfT : FreshM (T' ++ T₀) own₀ [ib, b, dx, x, fl, kn, ag, hr] := by
    refine ⟨Fresh.app (hf'.1.sub (Sub.appR2 (Sub.refl _))) hf.1, fun q hq b hb => ?_⟩
    rcases List.mem_append.mp hq with h | h
    · exact hf'.2 q h b hb
    · exact hf.2 q h b hb
  refine ret r (T' ++ T₀) M' S' h' tk' F' (News.sub N' ?_) hfT (hfT.off (offSub (Sub.appR2 (Sub.refl _)) off)) (by rw [List.append_assoc]; exact Sub.appR2 (Sub.refl _)) (by rw [List.append_assoc]; exact hL) (by rw [List.append_assoc]; exact hp)
  intro p hp
  simp only [List.mem_append] at hp ⊢
  rcases hp with h | (h | h) | h <;> simp [h]
/-- the part's defs, called by the law's -/
theorem MSpec.useL {w : World} {D U : Nat} {f : Addr} {args : List Value} {dx x : Nat} {P R M2 T₀ own own₀ : Led} {adr : List Nat} {Post : Value → PS → Led → Prop} (C : MSpec w D U f args dx x M2 (T₀ ++ own) Post) (eM2 : M2.map (·.1) = [dx, x]) (eM : P.map (·.1) ++ ([dx, x] ++ R.map (·.1)) = adr) (hPR : OwnOff (P ++ R) [dx, x]) (hsub : Sub own own₀) (hf : FreshM T₀ own₀ adr) (off : OwnOff (T₀ ++ own₀) adr)
    {mean : ExcName → Option Value} {mg mb : Str → Option Value} {dp un : Nat} {gd : Option (List Code)} {cn : Str} {cs : Scope} {a : Addr} {ccd : Value} {cl : List (Str × Addr)} {outer : List Env} {A₀ : Around} {base h₀ : Heap} {L : Addr} {m : Str → Option Value} {news₀ : Led} {s : Shared}
    {Q E : Value → Shared → Prop} (B : Below A₀ base outer h₀) (F : Fr h₀ L s.heap m) (X : (NH.hd.heap_39 w.params).In h₀) (N : News h₀ L s.heap news₀) (T : Top NH.hd.view_39 (looseW NH.hd.view_39 [Str.ofString "OPEN_STATES"]) mean mg mb h₀) (hk : cs.kind = .function)
    (hd : dp + D < recursionLimit) (hu : un + U < cLine) (hn : Sub (P ++ (M2 ++ (R ++ (T₀ ++ own₀)))) news₀)
    (ret : ∀ r T M2' p' h' tk', Fr h₀ L h' m → News h₀ L h' (P ++ (M2' ++ (R ++ (T ++ own₀)))) → FreshM T own₀ adr → OwnOff (T ++ own₀) adr → Sub (T₀ ++ own) (T ++ own) → PartL w.params dx x p' (T ++ own) M2' → Post r p' (T ++ own) → Q r { s with heap := h', toks := tk' }) :
    wpAny (model PySem.Challenge.rw_no0075_01.row.prog w) (ktrTop dp un gd cn cs L a ccd cl outer) (call (.ref f) args) Q E s := by
  subst eM
  refine Spec.use (C ((P ++ R) ++ (T₀ ++ own₀)) (Sub.appR2 (Sub.appL (Sub.appR1 (Sub.refl _)) (Sub.appR2 hsub))) (offApp hPR ?_)) B F X N T hk hd hu (fun p hp => hn p ?_) ?_
  · exact fun q hq b hb => off q hq b (by simp only [List.mem_append]; exact .inr (.inl hb))
  · simp only [List.mem_append] at hp ⊢
    rcases hp with h | (h | h) | h | h <;> simp [h]
  rintro r _ h' tk' F' N' ⟨T', M2', p', rfl, hf', hL, hp⟩
  have hfT : FreshM (T' ++ T₀) own₀ (P.map (·.1) ++ ([dx, x] ++ R.map (·.1))) := by
    refine ⟨Fresh.app (hf'.1.sub (Sub.appR2 (Sub.appR2 (Sub.refl _)))) hf.1, fun q hq b hb => ?_⟩
    rcases List.mem_append.mp hq with h | h
    · simp only [List.mem_append] at hb
      rcases hb with hb | hb | hb
      · obtain ⟨z, hz, rfl⟩ := List.mem_map.mp hb
        exact hf'.1 q h z (by simp [hz])
      · exact hf'.2 q h b hb
      · obtain ⟨z, hz, rfl⟩ := List.mem_map.mp hb
        exact hf'.1 q h z (by simp [hz])
    · exact hf.2 q h b hb
  refine ret r (T' ++ T₀) M2' p' h' tk' F' (News.sub N' ?_) hfT (hfT.off (offSub (Sub.appR2 (Sub.refl _)) off)) (by rw [List.append_assoc]; exact Sub.appR2 (Sub.refl _)) (by rw [List.append_assoc]; exact hL) (by rw [List.append_assoc]; exact hp)
  intro p hp
  simp only [List.mem_append] at hp ⊢
  rcases hp with h | h | h | (h | h) | h <;> simp [h]
theorem RSpec.useL {w : World} {D U : Nat} {f : Addr} {args : List Value} {M M2 T₀ own own₀ : Led} {adr : List Addr} {Post : Value → Prop} (C : RSpec w D U f args M2 (T₀ ++ own) Post) (h2 : Sub M2 M) (eM : M.map (·.1) = adr) (hsub : Sub own own₀) (hf : FreshM T₀ own₀ adr) (off : OwnOff (T₀ ++ own₀) adr)
    {mean : ExcName → Option Value} {mg mb : Str → Option Value} {dp un : Nat} {gd : Option (List Code)} {cn : Str} {cs : Scope} {a : Addr} {ccd : Value} {cl : List (Str × Addr)} {outer : List Env} {A₀ : Around} {base h₀ : Heap} {L : Addr} {m : Str → Option Value} {news₀ : Led} {s : Shared}
    {Q E : Value → Shared → Prop} (B : Below A₀ base outer h₀) (F : Fr h₀ L s.heap m) (X : (NH.hd.heap_39 w.params).In h₀) (N : News h₀ L s.heap news₀) (T : Top NH.hd.view_39 (looseW NH.hd.view_39 [Str.ofString "OPEN_STATES"]) mean mg mb h₀) (hk : cs.kind = .function)
    (hd : dp + D < recursionLimit) (hu : un + U < cLine) (hn : Sub (M ++ (T₀ ++ own₀)) news₀)
    (ret : ∀ r T h' tk', Fr h₀ L h' m → News h₀ L h' (M ++ (T ++ own₀)) → FreshM T own₀ adr → OwnOff (T ++ own₀) adr → Sub (T₀ ++ own) (T ++ own) → Post r → Q r { s with heap := h', toks := tk' }) :
    wpAny (model PySem.Challenge.rw_no0075_01.row.prog w) (ktrTop dp un gd cn cs L a ccd cl outer) (call (.ref f) args) Q E s := by
  refine Spec.use (C (M ++ (T₀ ++ own₀)) (Sub.appR2 (Sub.appL (Sub.appR1 (Sub.refl _)) (Sub.appR2 hsub))) (h2.trans (Sub.appR1 (Sub.refl _)))) B F X N T hk hd hu hn ?_
  rintro r _ h' tk' F' N' ⟨T', rfl, hf', hp⟩
  have hfT := hf.app eM hf'
  refine ret r (T' ++ T₀) h' tk' F' (News.sub N' ?_) hfT (hfT.off (offSub (Sub.appR2 (Sub.refl _)) off)) (by rw [List.append_assoc]; exact Sub.appR2 (Sub.refl _)) hp
  intro p hp
  simp only [List.mem_append] at hp ⊢
  rcases hp with h | (h | h) | h <;> simp [h]
theorem take_spec (w : World) (wd : Int) (t : Tok) (ib b : Nat) (vs : List Value) (ns : List Int) (n : Nat) (seed : Int) (ts : Tok) (n₂ : Nat) (own : Led) (hwd : 0 < wd) (hwd2 : wd < 1000) (hi : IntsAre vs ns) (hl : ns.length ≤ 40) (h0 : 0 ≤ seed) (h1 : seed < 2147483647) (hne : ib < b) (off : OwnOff own [ib, b]) :
    Spec w 1 8 217 [.ref b, .int wd t] ((ib, listOf vs.toArray n) :: (b, listOf #[.ref ib, .int seed ts] n₂) :: own)
      (fun r news' => ∃ vs' ns' n' seed' ts' n₂', news' = (ib, listOf (List.toArray vs') n') :: (b, listOf #[.ref ib, .int seed' ts'] n₂') :: own ∧ IntsAre vs' ns' ∧ ns'.length ≤ 40 ∧ 0 ≤ seed' ∧ seed' < 2147483647 ∧ ∃ k tk, r = .int k tk ∧ 0 ≤ k ∧ k < wd) := by
  k_with_none
  (k_with "call type:list" => (k_here; (with_reducible show wpAny _ _ (call (Value.type _) [Value.ref _]) _ _ _); k_dflt (refine' r_list ?nsF ?nsN ?nsm ?nsz ?_; (case nsF => k_asm); (case nsN => k_asm); (case nsm => k_mem); (case nsz => omega)); intro D' c' h' F' N' l1; (try k_lt l1); (try k_sweep)))
  (k_with "binaryOp Add ref ref" => (k_here; (with_reducible show wpAny _ _ (binaryOp _ (Value.ref _) (Value.ref _)) _ _ _); k_dflt (refine' r_cat ?nsF ?nsN ?nsm ?nsb ?nsz ?_; (case nsF => k_asm); (case nsN => k_asm); (case nsm => k_mem); (case nsb => k_mem); (case nsz => (simp only [List.length_cons, List.length_nil]; omega))); intro D' h' F' N' l1; (try k_lt l1); (try k_sweep)))
  (k_with "call builtin:list.append" => (k_here; (with_reducible show wpAny _ _ (call (Value.builtin _) [Value.ref _, _]) _ _ _); k_dflt (refine' r_append ?nsF ?nsN ?nsU ?nsz ?_; (case nsF => k_asm); (case nsN => k_asm); (case nsU => k_upd); (case nsz => (simp only [List.length_append, List.length_cons, List.length_nil]; omega))); intro h' F' N'; (try k_sweep)))
  (k_with "exec For Tuple Name cons nil" => (k_here; (rename Fr _ _ _ _ => lF'); (with_unfolding_all refine' For_turns lF' ?_); (try k_fold)))
  (k_with "sub" => (repeat' (first | (with_reducible exact Sub.refl _) | (with_reducible exact Sub.nil) | (with_reducible assumption) | ((with_reducible show Sub (_ :: _) _); refine Sub.consL (by k_mem) ?_) | (with_reducible refine Sub.appL ?_ ?_) | (with_reducible exact Sub.appR1 (Sub.refl _)) | (with_reducible exact Sub.appR2 (Sub.refl _)) | (with_reducible exact Sub.appR1 (Sub.appR1 (Sub.refl _))) | (with_reducible exact Sub.appR1 (Sub.appR2 (Sub.refl _))) | (with_reducible refine Sub.consR ?_) | (with_reducible refine Sub.appR2 ?_))))
  (k_with "call builtin:list.pop" => (k_here; (with_reducible show wpAny _ _ (call (Value.builtin _) [Value.ref _, Value.int _ _]) _ _ _); k_dflt (refine' pop0 ?nsF ?nsN ?nsU ?nsz ?_; (case nsF => k_asm); (case nsN => k_asm); (case nsU => k_upd); (case nsz => omega)); (intro h' F' N')))
  (k_with "call builtin:len" => (k_here; (with_reducible show wpAny _ _ (call (Value.builtin "len") [Value.ref _]) _ _ _); k_dflt (refine' r_len ?nsF ?nsN ?nsm ?nse ?nsz ?_; (case nsF => k_asm); (case nsN => k_asm); (case nsm => k_mem); (case nse => first | exact rfl | assumption | (simp only [List.length_cons, List.length_nil]; exact rfl)); (case nsz => ((try simp only [List.length_cons, List.length_nil, List.length_append, List.length_map]); omega))); (try simp only [List.length_cons, List.length_nil])))
  (k_with "subscriptTail" => (k_here; (with_reducible show wpAny _ _ (subscriptTail _ _ (Value.ref _) (Value.int _ _)) _ _ _); (with_unfolding_all refine' r_item ?nsN ?nsm ?nsh0 ?nshi ?nshx ?_ ?nshs; (case nsN => k_asm); (case nsm => k_mem); (case nsh0 => decide); (case nshi => decide); (case nshx => rfl); (case nshs => with_unfolding_all rfl); k_whole)))
  (k_with "compareOp In str ref" => (k_here; (with_reducible show wpAny _ _ (compareOp _ (Value.str _ _) (Value.ref _)) _ _ _); (first | (with_unfolding_all refine' r_instr true ?nsht ?nshi ?nshb ?_; (case nsht => first | exact News.isTup (by k_asm) (by k_mem) | exact kun_topT (by k_asm) (by k_asm) (by k_is)); (case nshi => kde_strs); (case nshb => decide)) | (with_unfolding_all refine' r_instr false ?nsht ?nshi ?nshb ?_; (case nsht => first | exact News.isTup (by k_asm) (by k_mem) | exact kun_topT (by k_asm) (by k_asm) (by k_is)); (case nshi => kde_strs); (case nshb => decide)) | (with_unfolding_all refine' r_instr _ ?nsht ?nshi ?nshb ?_; (case nsht => first | exact News.isTup (by k_asm) (by k_mem) | exact kun_topT (by k_asm) (by k_asm) (by k_is)); (case nshi => kde_strs); (case nshb => walk_at "st in")))))
  (k_with "compareOp NotIn str ref" => (k_here; (with_reducible show wpAny _ _ (compareOp _ (Value.str _ _) (Value.ref _)) _ _ _); (first | (with_unfolding_all refine' r_notinstr true ?nsht ?nshi ?nshb ?_; (case nsht => first | exact News.isTup (by k_asm) (by k_mem) | exact kun_topT (by k_asm) (by k_asm) (by k_is)); (case nshi => kde_strs); (case nshb => decide)) | (with_unfolding_all refine' r_notinstr false ?nsht ?nshi ?nshb ?_; (case nsht => first | exact News.isTup (by k_asm) (by k_mem) | exact kun_topT (by k_asm) (by k_asm) (by k_is)); (case nshi => kde_strs); (case nshb => decide)) | (with_unfolding_all refine' r_notinstr _ ?nsht ?nshi ?nshb ?_; (case nsht => first | exact News.isTup (by k_asm) (by k_mem) | exact kun_topT (by k_asm) (by k_asm) (by k_is)); (case nshi => kde_strs); (case nshb => walk_at "st in")))))
  (k_with "exec If" => k_dflt (k_extra "my if"))
  (k_with "eval BoolOp" => k_dflt (k_extra "my bool"))
  (k_with "eval IfExp" => k_dflt (k_extra "my ifexp"))
  (k_with "isTrue BoolOp" => k_dflt (k_extra "my test"))
  (k_with "call ref" => k_dflt (k_extra "my call"))
  (k_with "subscriptTail" => (k_here; (with_reducible show wpAny _ _ (subscriptTail _ (Expr.Slice _ _ none _) (Value.bytes _ _) (Value.ref _)) _ _ _); (with_reducible rename Fr _ _ _ _ => F'); (with_reducible rename News _ _ _ _ => N'); k_dflt (refine r_bslice (s := ⟨_, _, _, _, _⟩) F' N' (by constructor) (by constructor) (by omega) ?_); intro _ _ _ _ _))
  (k_with "call type:bytes" => (k_here; (with_reducible show wpAny _ _ (call (Value.type "bytes") [Value.bytes _ _]) _ _ _); refine call_bytes_bytes ?_))
  (k_with "newTuple" => (k_here; k_dflt (refine' r_newTuple ?nsF ?nsN ?nsz ?_; (case nsF => k_asm); (case nsN => k_asm); (case nsz => exact Nat.le_of_ble_eq_true rfl)); intro D' h' F' N' l1; (have l0 := l1); (try k_lt l1); (try k_sweep)))
  (k_with "newList" => (k_here; k_dflt (refine' r_newList ?nsF ?nsN ?nsz ?_; (case nsF => k_asm); (case nsN => k_asm); (case nsz => exact Nat.le_of_ble_eq_true rfl)); intro D' h' F' N' l1; (have l0 := l1); (try k_lt l1); (try k_sweep)))
  (k_with "binaryOp Add bytes bytes" => (k_here; (with_reducible show wpAny _ _ (binaryOp _ (Value.bytes _ _) (Value.bytes _ _)) _ _ _); refine r_badd (by omega) ?_; intro _ _))
  (k_with "exec For Tuple Call cons nil" => (k_here; (rename Fr _ _ _ _ => lF'); (with_unfolding_all refine' For_turns lF' ?_); (try k_fold)))
  (k_with "st in" => first | exact congrArg not (st_in _) | exact congrArg not (st_lost _) | exact st_in _ | exact st_lost _)
  (k_with "lt" => (intro b hb; (simp only [List.mem_cons, List.not_mem_nil, or_false] at hb); rcases hb with rfl | rfl <;> omega))
  (k_with "apart" => ((try simp only [List.cons_append, List.nil_append]); (repeat' (first | exact offNil | (refine offCons (by k_all) ?_)))))
  unfold Spec
  k_fill
  have hmod : ∀ y : Int, 0 ≤ y.fmod wd ∧ y.fmod wd < wd := fun y => ⟨by rw [Int.fmod_eq_emod_of_nonneg y (by omega)]; exact Int.emod_nonneg y (by omega), by rw [Int.fmod_eq_emod_of_nonneg y (by omega)]; exact Int.emod_lt_of_pos y (by omega)⟩
  have hmod2 : ∀ y : Int, 0 ≤ y.fmod 2147483647 ∧ y.fmod 2147483647 < 2147483647 := fun y => ⟨by rw [Int.fmod_eq_emod_of_nonneg y (by omega)]; exact Int.emod_nonneg y (by omega), by rw [Int.fmod_eq_emod_of_nonneg y (by omega)]; exact Int.emod_lt_of_pos y (by omega)⟩
  cases hi with
  | nil =>
    intro mean mg mb dp un gd cn cs a ccd cl outer A₀ base h₀ L m s Q E B F X N T hk hd hu hret
    refine wpAny_call ?_
    k_dflt cell_enter
    k_steps
    exact hret _ _ _ _ (by k_asm) (by k_asm) ⟨[], [], _, _, _, _, rfl, .nil, hl, (hmod2 _).1, (hmod2 _).2, _, _, rfl, (hmod _).1, (hmod _).2⟩
  | @cons k t vs' ns' hi' =>
    have hl' := hi'.length
    simp only [List.length_cons] at hl
    intro mean mg mb dp un gd cn cs a ccd cl outer A₀ base h₀ L m s Q E B F X N T hk hd hu hret
    refine wpAny_call ?_
    k_dflt cell_enter
    k_steps
    exact hret _ _ _ _ (by k_asm) (by k_asm) ⟨vs', ns', _, _, _, _, rfl, hi', by omega, h0, h1, _, _, rfl, (hmod _).1, (hmod _).2⟩
theorem take_use {w : World} {wd : Int} {t : Tok} {ib b : Nat} {vs : List Value} {ns : List Int} {n : Nat} {seed : Int} {ts : Tok} {n₂ : Nat} {own : Led} (hwd : 0 < wd) (hwd2 : wd < 1000) (hi : IntsAre vs ns) (hl : ns.length ≤ 40) (h0 : 0 ≤ seed) (h1 : seed < 2147483647) (hne : ib < b) (off : OwnOff own [ib, b])
    {mean : ExcName → Option Value} {mg mb : Str → Option Value} {dp un : Nat} {gd : Option (List Code)} {cn : Str} {cs : Scope} {a : Addr} {ccd : Value} {cl : List (Str × Addr)} {outer : List Env} {A₀ : Around} {base h₀ : Heap} {L : Addr} {m : Str → Option Value} {news₀ : Led} {s : Shared}
    {Q E : Value → Shared → Prop} (B : Below A₀ base outer h₀) (F : Fr h₀ L s.heap m) (X : (NH.hd.heap_39 w.params).In h₀) (N : News h₀ L s.heap news₀) (T : Top NH.hd.view_39 (looseW NH.hd.view_39 [Str.ofString "OPEN_STATES"]) mean mg mb h₀) (hk : cs.kind = .function)
    (hd : dp + 1 < recursionLimit) (hu : un + 8 < cLine) (hn : Sub ((ib, listOf vs.toArray n) :: (b, listOf #[.ref ib, .int seed ts] n₂) :: own) news₀)
    (ret : ∀ vs' ns' n' seed' ts' n₂' k tk h' tk', Fr h₀ L h' m → News h₀ L h' ((ib, listOf (List.toArray vs') n') :: (b, listOf #[.ref ib, .int seed' ts'] n₂') :: own) → IntsAre vs' ns' → ns'.length ≤ 40 → 0 ≤ seed' → seed' < 2147483647 → 0 ≤ k → k < wd → Q (.int k tk) { s with heap := h', toks := tk' }) :
    wpAny (model PySem.Challenge.rw_no0075_01.row.prog w) (ktrTop dp un gd cn cs L a ccd cl outer) (call (.ref 217) [.ref b, .int wd t]) Q E s := by
  refine Spec.use (take_spec w wd t ib b vs ns n seed ts n₂ own hwd hwd2 hi hl h0 h1 hne off) B F X N T hk hd hu hn ?_
  rintro r _ h' tk' F' N' ⟨vs', ns', n', seed', ts', n₂', rfl, hi', hl', h0', h1', k, tk, rfl, k0, k1⟩
  exact ret vs' ns' n' seed' ts' n₂' k tk h' tk' F' N' hi' hl' h0' h1' k0 k1
def END : Str := Str.ofString "end"
def ackLS (S : LS) (c : Int × Array UInt8 × Bool) : LS :=
  { S with p := ackPS S.p c.1 c.2.1.size c.2.2, kn := (if c.2.2 then keyPut (putAll S.kn (rowI c.1 c.2.1.size)) (.inr END) else putAll S.kn (rowI c.1 c.2.1.size)), ag := delAll S.ag (rowI c.1 c.2.1.size) }
theorem dict_close {h₀ h' : Heap} {L : Addr} {J : (Str → Option Value) → Led → Prop} {own₁ M3 M3' R news' : Led} {s₁ : Shared} {tk : Nat} {Q : Flow → Shared → Prop} {m' : Str → Option Value}
    (off₁ : OwnOff own₁ ((M3 ++ R).map (·.1))) (F : Fr h₀ L h' m') (N : News h₀ L h' news') (hN : Sub (M3' ++ (R ++ own₁)) news') (eM : M3'.map (·.1) = M3.map (·.1)) (hJ : J m' (M3' ++ R)) : TEnd h₀ L J own₁ s₁ Q .next { s₁ with heap := h', toks := tk } :=
  TEnd.next (M3' ++ R) F N (fun q hq => hN q (by simp only [List.mem_append] at hq ⊢; rcases hq with h | h <;> simp [h])) (fun q hq => hN q (by simp [hq])) (by rw [List.map_append, eM, ← List.map_append]; exact off₁) hJ
theorem putAll_take {ks : List Key} {a : Int} {n i : Nat} (h : i < n) : putAll ks ((rowI a n).take (i + 1)) = keyPut (putAll ks ((rowI a n).take i)) (.inl (a + (i : Int))) := by
  unfold putAll
  rw [List.take_add_one, rowI_get h, List.foldl_append]
  rfl
theorem delAll_take {ks : List Key} {a : Int} {n i : Nat} (h : i < n) : delAll ks ((rowI a n).take (i + 1)) = keyDel (delAll ks ((rowI a n).take i)) (.inl (a + (i : Int))) := by
  unfold delAll
  rw [List.take_add_one, rowI_get h, List.foldl_append]
  rfl
theorem len_keyPut (ks : List Key) (k : Key) : (keyPut ks k).length ≤ ks.length + 1 := by
  unfold keyPut; split <;> simp
theorem len_putAll (is : List Int) : ∀ ks : List Key, (putAll ks is).length ≤ ks.length + is.length := by
  induction is with
  | nil => intro ks; exact Nat.le_refl _
  | cons a r ih => intro ks; refine Nat.le_trans (ih (keyPut ks (.inl a))) ?_; have := len_keyPut ks (.inl a); simp only [List.length_cons]; omega
theorem len_delAll (is : List Int) : ∀ ks : List Key, (delAll ks is).length ≤ ks.length := by
  induction is with
  | nil => intro ks; exact Nat.le_refl _
  | cons a r ih => intro ks; exact Nat.le_trans (ih _) (List.length_filter_le _ _)
theorem cellFacts {Lx : Addr} {cc : Nat} {p1 p2 p3 p4 p5 p6 p7 p8 : Addr × Obj} {tail : Led} (h : ∀ p ∈ p1 :: p2 :: p3 :: p4 :: p5 :: p6 :: p7 :: p8 :: tail, p.1 < Lx) (e : cc = Lx + 1) : (∀ p ∈ tail, p.1 ≠ cc) ∧ (∀ b ∈ [p1.1, p2.1, p3.1, p4.1, p5.1, p6.1, p7.1, p8.1], @LT.lt Nat _ b cc) := by
  subst e
  have h' : ∀ p ∈ p1 :: p2 :: p3 :: p4 :: p5 :: p6 :: p7 :: p8 :: tail, @LT.lt Nat _ p.1 (Lx + 1) := fun p hp => Nat.lt_succ_of_lt (h p hp)
  refine ⟨fun p hp => Nat.ne_of_lt (h' p (by simp [hp])), fun b hb => ?_⟩
  simp only [List.mem_cons, List.not_mem_nil, or_false] at hb
  rcases hb with rfl | rfl | rfl | rfl | rfl | rfl | rfl | rfl <;> exact h' _ (by simp)
/-- a def of the law's, with a word of the objects themselves -/
def LSpecM (w : World) (D U : Nat) (f : Addr) (args : List Value) (ib b dx x fl kn ag hr : Nat) (M own : Led) (Post : Value → LS → Led → Led → Prop) : Prop :=
  ∀ own₀, Sub own own₀ → OwnOff own₀ [ib, b, dx, x, fl, kn, ag, hr] → Spec w D U f args (M ++ own₀) (fun r news' => ∃ T M' S', news' = M' ++ (T ++ own₀) ∧ FreshM T own₀ [ib, b, dx, x, fl, kn, ag, hr] ∧ LawL w ib b dx x fl kn ag hr S' (T ++ own) M' ∧ Post r S' (T ++ own) M')
theorem LSpecM.start {w : World} {D U : Nat} {f : Addr} {args : List Value} {ib b dx x fl kn ag hr : Nat} {M own : Led} {Post : Value → LS → Led → Led → Prop}
    (h : ∀ own₀, Sub own own₀ → OwnOff own₀ [ib, b, dx, x, fl, kn, ag, hr] → ∀ R : Value → Led → Prop, (∀ r T M' S', FreshM T own₀ [ib, b, dx, x, fl, kn, ag, hr] → LawL w ib b dx x fl kn ag hr S' (T ++ own) M' → Post r S' (T ++ own) M' → R r (M' ++ (T ++ own₀))) → Spec w D U f args (M ++ own₀) R) :
    LSpecM w D U f args ib b dx x fl kn ag hr M own Post :=
  fun own₀ h1 h2 => h own₀ h1 h2 _ fun _ T M' S' hf hL hp => ⟨T, M', S', rfl, hf, hL, hp⟩
theorem LSpecM.toL {w : World} {D U : Nat} {f : Addr} {args : List Value} {ib b dx x fl kn ag hr : Nat} {M own : Led} {Post : Value → LS → Led → Led → Prop} {Post' : Value → LS → Led → Prop} (C : LSpecM w D U f args ib b dx x fl kn ag hr M own Post) (k : ∀ r S' O M', Post r S' O M' → Post' r S' O) : LSpec w D U f args ib b dx x fl kn ag hr M own Post' := by
  intro own₀ h1 h2 mean mg mb dp un gd cn cs a ccd cl outer A₀ base h₀ L m s Q E B F X N T hk hd hu hret
  refine C own₀ h1 h2 _ _ _ _ _ _ _ _ _ _ _ _ _ _ _ _ _ _ _ _ B F X N T hk hd hu fun r news' h' tk' F' N' hp => ?_
  obtain ⟨T, M', S', e, hf, hL, hp⟩ := hp
  exact hret r news' h' tk' F' N' ⟨T, M', S', e, hf, hL, k _ _ _ _ hp⟩
theorem acked_lawM (w : World) (ib b dx x fl kn ag hr : Nat) (S : LS) (M own : Led) (cv : Nat) (c : Int × Array UInt8 × Bool) (ho : Ords ib b dx x fl kn ag hr) (hP : LawL w ib b dx x fl kn ag hr S own M) (hc : ChunkAt own (.ref cv) c) (hz : S.p.W.size ≤ 1000) (hzA : S.p.A.length ≤ 1000) (hzB : S.p.B.length ≤ 1000) (hzA' : (addSpan S.p.A c.1 (c.1 + c.2.1.size)).length ≤ 1000)
    (hzk : S.kn.length ≤ 1000) (hzg : S.ag.length ≤ 1000) (hof : 0 ≤ c.1 ∧ c.1 ≤ 1000) (hcs : c.2.1.size ≤ 1000) :
    LSpecM w 4 32 229 [.ref x, .ref hr, .ref cv] ib b dx x fl kn ag hr M own (fun r S' _ M' => (r = .none ∧ S' = ackLS S c) ∧ M'[4]? = M[4]?) := by
  k_with_none
  (k_with "call type:list" => (k_here; (with_reducible show wpAny _ _ (call (Value.type _) [Value.ref _]) _ _ _); k_dflt (refine' r_list ?nsF ?nsN ?nsm ?nsz ?_; (case nsF => k_asm); (case nsN => k_asm); (case nsm => k_mem); (case nsz => omega)); intro D' c' h' F' N' l1; (try k_lt l1); (try k_sweep)))
  (k_with "binaryOp Add ref ref" => (k_here; (with_reducible show wpAny _ _ (binaryOp _ (Value.ref _) (Value.ref _)) _ _ _); k_dflt (refine' r_cat ?nsF ?nsN ?nsm ?nsb ?nsz ?_; (case nsF => k_asm); (case nsN => k_asm); (case nsm => k_mem); (case nsb => k_mem); (case nsz => (simp only [List.length_cons, List.length_nil]; omega))); intro D' h' F' N' l1; (try k_lt l1); (try k_sweep)))
  (k_with "call builtin:list.append" => (k_here; (with_reducible show wpAny _ _ (call (Value.builtin _) [Value.ref _, _]) _ _ _); k_dflt (refine' r_append ?nsF ?nsN ?nsU ?nsz ?_; (case nsF => k_asm); (case nsN => k_asm); (case nsU => k_upd); (case nsz => (simp only [List.length_append, List.length_cons, List.length_nil]; omega))); intro h' F' N'; (try k_sweep)))
  (k_with "exec For Tuple Name cons nil" => (k_here; (rename Fr _ _ _ _ => lF'); (with_unfolding_all refine' For_turns lF' ?_); (try k_fold)))
  (k_with "sub" => (repeat' (first | (with_reducible exact Sub.refl _) | (with_reducible exact Sub.nil) | (with_reducible assumption) | ((with_reducible show Sub (_ :: _) _); refine Sub.consL (by k_mem) ?_) | (with_reducible refine Sub.appL ?_ ?_) | (with_reducible exact Sub.appR1 (Sub.refl _)) | (with_reducible exact Sub.appR2 (Sub.refl _)) | (with_reducible exact Sub.appR1 (Sub.appR1 (Sub.refl _))) | (with_reducible exact Sub.appR1 (Sub.appR2 (Sub.refl _))) | (with_reducible refine Sub.consR ?_) | (with_reducible refine Sub.appR2 ?_))))
  (k_with "call builtin:list.pop" => (k_here; (with_reducible show wpAny _ _ (call (Value.builtin _) [Value.ref _, Value.int _ _]) _ _ _); k_dflt (refine' pop0 ?nsF ?nsN ?nsU ?nsz ?_; (case nsF => k_asm); (case nsN => k_asm); (case nsU => k_upd); (case nsz => omega)); (intro h' F' N')))
  (k_with "call builtin:len" => (k_here; (with_reducible show wpAny _ _ (call (Value.builtin "len") [Value.ref _]) _ _ _); k_dflt (refine' r_len ?nsF ?nsN ?nsm ?nse ?nsz ?_; (case nsF => k_asm); (case nsN => k_asm); (case nsm => k_mem); (case nse => first | exact rfl | assumption | (simp only [List.length_cons, List.length_nil]; exact rfl)); (case nsz => ((try simp only [List.length_cons, List.length_nil, List.length_append, List.length_map]); omega))); (try simp only [List.length_cons, List.length_nil])))
  (k_with "subscriptTail" => (k_here; (with_reducible show wpAny _ _ (subscriptTail _ _ (Value.ref _) (Value.int _ _)) _ _ _); (with_unfolding_all refine' r_item ?nsN ?nsm ?nsh0 ?nshi ?nshx ?_ ?nshs; (case nsN => k_asm); (case nsm => k_mem); (case nsh0 => decide); (case nshi => decide); (case nshx => rfl); (case nshs => with_unfolding_all rfl); k_whole)))
  (k_with "compareOp In str ref" => (k_here; (with_reducible show wpAny _ _ (compareOp _ (Value.str _ _) (Value.ref _)) _ _ _); (first | (with_unfolding_all refine' r_instr true ?nsht ?nshi ?nshb ?_; (case nsht => first | exact News.isTup (by k_asm) (by k_mem) | exact kun_topT (by k_asm) (by k_asm) (by k_is)); (case nshi => kde_strs); (case nshb => decide)) | (with_unfolding_all refine' r_instr false ?nsht ?nshi ?nshb ?_; (case nsht => first | exact News.isTup (by k_asm) (by k_mem) | exact kun_topT (by k_asm) (by k_asm) (by k_is)); (case nshi => kde_strs); (case nshb => decide)) | (with_unfolding_all refine' r_instr _ ?nsht ?nshi ?nshb ?_; (case nsht => first | exact News.isTup (by k_asm) (by k_mem) | exact kun_topT (by k_asm) (by k_asm) (by k_is)); (case nshi => kde_strs); (case nshb => walk_at "st in")))))
  (k_with "compareOp NotIn str ref" => (k_here; (with_reducible show wpAny _ _ (compareOp _ (Value.str _ _) (Value.ref _)) _ _ _); (first | (with_unfolding_all refine' r_notinstr true ?nsht ?nshi ?nshb ?_; (case nsht => first | exact News.isTup (by k_asm) (by k_mem) | exact kun_topT (by k_asm) (by k_asm) (by k_is)); (case nshi => kde_strs); (case nshb => decide)) | (with_unfolding_all refine' r_notinstr false ?nsht ?nshi ?nshb ?_; (case nsht => first | exact News.isTup (by k_asm) (by k_mem) | exact kun_topT (by k_asm) (by k_asm) (by k_is)); (case nshi => kde_strs); (case nshb => decide)) | (with_unfolding_all refine' r_notinstr _ ?nsht ?nshi ?nshb ?_; (case nsht => first | exact News.isTup (by k_asm) (by k_mem) | exact kun_topT (by k_asm) (by k_asm) (by k_is)); (case nshi => kde_strs); (case nshb => walk_at "st in")))))
  (k_with "exec If" => k_dflt (k_extra "my if"))
  (k_with "eval BoolOp" => k_dflt (k_extra "my bool"))
  (k_with "eval IfExp" => k_dflt (k_extra "my ifexp"))
  (k_with "isTrue BoolOp" => k_dflt (k_extra "my test"))
  (k_with "call ref" => k_dflt (k_extra "my call"))
  (k_with "subscriptTail" => (k_here; (with_reducible show wpAny _ _ (subscriptTail _ (Expr.Slice _ _ none _) (Value.bytes _ _) (Value.ref _)) _ _ _); (with_reducible rename Fr _ _ _ _ => F'); (with_reducible rename News _ _ _ _ => N'); k_dflt (refine r_bslice (s := ⟨_, _, _, _, _⟩) F' N' (by constructor) (by constructor) (by omega) ?_); intro _ _ _ _ _))
  (k_with "call type:bytes" => (k_here; (with_reducible show wpAny _ _ (call (Value.type "bytes") [Value.bytes _ _]) _ _ _); refine call_bytes_bytes ?_))
  (k_with "newTuple" => (k_here; k_dflt (refine' r_newTuple ?nsF ?nsN ?nsz ?_; (case nsF => k_asm); (case nsN => k_asm); (case nsz => exact Nat.le_of_ble_eq_true rfl)); intro D' h' F' N' l1; (have l0 := l1); (try k_lt l1); (try k_sweep)))
  (k_with "newList" => (k_here; k_dflt (refine' r_newList ?nsF ?nsN ?nsz ?_; (case nsF => k_asm); (case nsN => k_asm); (case nsz => exact Nat.le_of_ble_eq_true rfl)); intro D' h' F' N' l1; (have l0 := l1); (try k_lt l1); (try k_sweep)))
  (k_with "binaryOp Add bytes bytes" => (k_here; (with_reducible show wpAny _ _ (binaryOp _ (Value.bytes _ _) (Value.bytes _ _)) _ _ _); refine r_badd (by omega) ?_; intro _ _))
  (k_with "exec For Tuple Call cons nil" => (k_here; (rename Fr _ _ _ _ => lF'); (with_unfolding_all refine' For_turns lF' ?_); (try k_fold)))
  (k_with "st in" => first | exact congrArg not (st_in _) | exact congrArg not (st_lost _) | exact st_in _ | exact st_lost _)
  (k_with "lt" => (intro b hb; (simp only [List.mem_cons, List.not_mem_nil, or_false] at hb); rcases hb with rfl | rfl <;> omega))
  (k_with "apart" => ((try simp only [List.cons_append, List.nil_append]); (repeat' (first | exact offNil | (refine offCons (by k_all) ?_)))))
  (k_with "subscriptTail Name Constant ref str" => (k_here; (with_reducible show wpAny _ _ (subscriptTail _ _ (Value.ref _) (Value.str _ _)) _ _ _); k_dflt (refine' kda_item (knd := PySem.strKind PySem.Challenge.rw_no0075_01.row.prog _) ?nsN ?nsm ?nsd ?nsk ?nsl ?_ ?nshs ?nshg; (case nsN => k_asm); (case nsm => with_reducible k_mem); (case nsd => with_reducible assumption); (case nsk => exact strKind_is _ _ _ _); (case nsl => first | exact (rfl : _ = some (Value.ref _)) | exact (rfl : _ = some (Value.bytes _ _))); (case nshs => with_unfolding_all rfl); (case nshg => (intro _; with_unfolding_all rfl)); k_whole)))
  (k_with "setItem ref int" => (k_here; (with_reducible show wpAny _ _ (setItem (Value.ref _) (Value.int _ _) (Value.bool true)) _ _ _); k_dflt (refine' dk_set (k := KeyP.inl _) ?nsF ?nsN ?nsU ?nsd ?nsk ?nsz ?_; (case nsF => k_asm); (case nsN => k_asm); (case nsU => k_updF); (case nsd => with_reducible assumption); (case nsk => exact mix_int _ _); (case nsz => omega)); (intro h' o' F' N' hd'); (try k_sweep)))
  (k_with "setItem ref str" => (k_here; (with_reducible show wpAny _ _ (setItem (Value.ref _) (Value.str _ _) (Value.bool true)) _ _ _); k_dflt (refine' dk_set (k := KeyP.inr _) ?nsF ?nsN ?nsU ?nsd ?nsk ?nsz ?_; (case nsF => k_asm); (case nsN => k_asm); (case nsU => k_updF); (case nsd => with_reducible assumption); (case nsk => exact mix_str _ _); (case nsz => omega)); (intro h' o' F' N' hd'); (try k_sweep)))
  (k_with "getMethod ref" => (k_here; (with_reducible show wpAny _ _ (getMethod (Value.ref _) (PySem.Str.ofString "pop") _) _ _ _); k_dflt (refine' dk_popm ?nsN ?nsm ?nsd ?_; (case nsN => k_asm); (case nsm => with_reducible k_mem); (case nsd => with_reducible assumption))))
  (k_with "call builtin:dict.pop" => (k_here; (with_reducible show wpAny _ _ (call (Value.builtin _) [Value.ref _, Value.int _ _, Value.none]) _ _ _); k_dflt (refine' dk_pop ?nsF ?nsN ?nsU ?nsd ?nslo ?nsz ?_; (case nsF => k_asm); (case nsN => k_asm); (case nsU => k_updF); (case nsd => with_reducible assumption); (case nslo => assumption); (case nsz => omega)); (intro h' o' r' F' N' hd'); (try k_sweep)))
  (k_with "compareOp NotIn int ref" => (k_here; (with_reducible show wpAny _ _ (compareOp _ (Value.int _ _) (Value.ref _)) _ _ _); k_dflt (refine' dk_notin (k := KeyP.inl _) ?nsN ?nsm ?nsd ?nslo ?nsk ?_; (case nsN => k_asm); (case nsm => with_reducible k_mem); (case nsd => with_reducible assumption); (case nslo => assumption); (case nsk => exact mix_int _ _))))
  (k_with "compareOp In str ref" => (k_here; (with_reducible show wpAny _ _ (compareOp _ (Value.str _ _) (Value.ref _)) _ _ _); k_dflt (refine' dk_in (k := KeyP.inr _) ?nsN ?nsm ?nsd ?nslo ?nsk ?_; (case nsN => k_asm); (case nsm => with_reducible k_mem); (case nsd => with_reducible assumption); (case nslo => assumption); (case nsk => exact mix_str _ _))))
  (k_with "call builtin:len" => (k_here; (with_reducible show wpAny _ _ (call (Value.builtin "len") [Value.ref _]) _ _ _); k_dflt (refine' dk_len ?nsN ?nsm ?nsd ?nslo ?nsz ?_; (case nsN => k_asm); (case nsm => with_reducible k_mem); (case nsd => with_reducible assumption); (case nslo => assumption); (case nsz => omega))))
  (k_with "exec For Name Call cons nil" => (k_here; (rename Fr _ _ _ _ => lF'); (with_unfolding_all refine' For_turns lF' ?_); (try k_fold)))
  (k_with "call type:range" => (k_here; (with_reducible show wpAny _ _ (call _ [_, _]) _ _ _); k_dflt (refine' range2_rows ?nsF ?nsN ?_; (case nsF => k_asm); (case nsN => k_asm)); (intro h' tk' t1' t2' t3' hR' F' N' hk'; clear hk'); (try k_sweep)))
  have ho0 := ho
  obtain ⟨of, d, e⟩ := c
  refine LawL.elim hP ?_
  clear hP
  intro vs ns n0 seed ts n1 k t1 t2 t3 t4 la lb fvs n2 ok oa oh tw hi hl40 hs0 hs1 hA hB hC hK hG hH
  obtain ⟨⟨o1, o2, o3, o4, o5, o6, o7⟩, lok, loa, loh⟩ := ho
  refine LSpecM.start ?_
  intro own₀ hsub hoff Rp hRp
  unfold Spec
  k_fill
  intro mean mg mb dp un gd cn cs a ccd cl outer A₀ base h₀ L m s Q E B F X N T hk hd hu hret
  dsimp only [List.cons_append, List.nil_append] at N
  replace N : News h₀ L s.heap (_ :: _ :: _ :: _ :: _ :: _ :: _ :: _ :: (([] : Led) ++ own₀)) := N
  have hf : FreshM [] own₀ [ib, b, dx, x, fl, kn, ag, hr] := FreshM.nil
  have off : OwnOff ([] ++ own₀) [ib, b, dx, x, fl, kn, ag, hr] := hoff
  replace hA : SpansAt ([] ++ own) (.ref la) S.p.A := hA
  replace hB : SpansAt ([] ++ own) (.ref lb) S.p.B := hB
  replace hC : ChunksAt ([] ++ own) fvs S.fl := hC
  refine wpAny_call ?_
  k_dflt cell_enter
  obtain ⟨_, tc1, tc2, nc, ec, hc⟩ := hc
  cases ec
  dsimp only at *
  have hc0 : (cv, ({ cls := .type "tuple", data := .seq #[.int of tc1, .bytes d tc2, .bool e] nc } : Obj)) ∈ [] ++ own₀ := hsub _ hc
  (k_with "my call" => (
    (with_reducible show wpAny _ _ (call (Value.ref 168) [Value.ref _, Value.int _ _, Value.int _ _, Value.bool _]) _ _ _)
    refine' MSpec.useL (P := [(ib, _), (b, _)]) (M2 := [(dx, _), (x, _)]) (R := [(fl, _), (kn, _), (ag, _), (hr, _)]) (own₀ := own₀) (adr := [ib, b, dx, x, fl, kn, ag, hr]) (acked_spec _ _ _ S.p _ _ _ _ _ _ _ o3 ?hP hz hzA hzB ?hz) rfl rfl ?hPR hsub ?hf ?off ?B ?F ?X ?N ?T ?hk ?hd ?hu ?hn ?_
    (case hf => assumption)
    (case off => assumption)
    (case B => k_asm)
    (case F => k_asm)
    (case X => k_asm)
    (case N => k_asm)
    (case T => k_asm)
    (case hk => exact rfl)
    (case hd => ktr_room)
    (case hu => ktr_units)
    (case hn => walk_at "sub")
    (case hP => exact (PartL.of k t1 t2 t3 t4 la lb hA hB))
    (case hz => exact hzA')
    (case hPR => exact Ords.dxx ho0)
    rintro r9 T9 M9 p9 h9 tk9 F9 N9 hf9 off9 hs9 hL9 ⟨rfl, hp9⟩
    revert N9
    refine PartL.elim hL9 ?_
    clear hL9
    intro k9 u1 u2 u3 u4 la9 lb9 hA9 hB9 N9
    dsimp only [List.cons_append, List.nil_append] at N9
    replace hC := hC.mono hs9
    clear hf off hA hB
    have hf := hf9
    have off := off9
    have hA := hA9
    have hB := hB9
    clear hf9 off9 hA9 hB9
    all_goals (try dsimp only)
    all_goals (try k_fold)))
  k_steps
  rename News _ _ _ (_ :: _) => N₁
  rename Fr _ _ _ _ => F₁
  rename IsRange _ _ _ _ _ _ _ _ => hR₁
  obtain ⟨R, hRd⟩ : ∃ R : Led, R = [(ib, listOf vs.toArray n0), (b, listOf #[.ref ib, .int seed ts] n1), (dx, dictOf (partEs w.params k9 (.int p9.lim u1) (.str p9.st.str u2) (.bytes p9.W u3) (.int p9.se u4) (.ref la9) (.ref lb9) (.bool p9.fin) (.bool p9.ow) (.bool p9.ea)) 11), (x, instObj 199 dx), (fl, listOf fvs.toArray n2)] ++ (T9 ++ own₀) := ⟨_, rfl⟩
  have N₂ := News.sub (a := [(kn, ok), (ag, oa), (hr, oh)] ++ R) N₁ (by rw [hRd]; walk_at "sub")
  have offR : OwnOff R [kn, ag, hr] := by
    rw [hRd]; exact offApp (Ords.kah ho0) (fun q hq z hz => off q hq z (by simp only [List.mem_cons, List.not_mem_nil, or_false] at hz ⊢; rcases hz with rfl | rfl | rfl <;> simp))
  clear N₁
  refine loopR (news := [(kn, ok), (ag, oa), (hr, oh)] ++ R) (n := d.size) (fun i m nx => ∃ ok' oa', nx = [(kn, ok'), (ag, oa'), (hr, oh)] ++ R ∧ DictK w ok' (putAll S.kn ((rowI of d.size).take i)) ∧ DictK w oa' (delAll S.ag ((rowI of d.size).take i)) ∧ m (Str.ofString "here") = some (.ref hr) ∧ m (Str.ofString "is_end") = some (.bool e)) rfl hR₁ (by omega) (by omega) (by omega) F₁ N₂ ?_ ?_ ?_
  · exact ⟨ok, oa, rfl, hK, hG, rfl, rfl⟩
  · rintro i t m₁ nx h tk own₁ hin off₁ ⟨ok', oa', rfl, hk', hg', hm1, hm2⟩ F₂ N₃
    clear N₂ F₁ hR₁
    have F₃ := frNames [(Str.ofString "here", .ref hr), (Str.ofString "is_end", .bool e)] F₂ (by intro p hp; simp only [List.mem_cons, List.not_mem_nil, or_false] at hp; rcases hp with rfl | rfl <;> assumption)
    clear F₂
    simp only [List.cons_append, List.nil_append] at N₃
    have offR1 : OwnOff (R ++ own₁) [kn, ag, hr] := offApp offR (fun q hq z hz => off₁ q hq z (by simp only [List.cons_append, List.nil_append, List.map_cons, List.mem_cons, List.not_mem_nil, or_false] at hz ⊢; rcases hz with h | h | h <;> simp [h]))
    have hl1 := len_putAll ((rowI of d.size).take i) S.kn
    have hl2 := len_delAll ((rowI of d.size).take i) S.ag
    rw [List.length_take, rowI_length] at hl1
    k_steps
    all_goals (
      refine dict_close (M3 := [(kn, ok'), (ag, oa'), (hr, oh)]) (M3' := [(kn, _), (ag, _), (hr, oh)]) off₁ (by k_asm) (by k_asm) (by walk_at "sub") (by rfl) ?_
      exact ⟨_, _, rfl, by rw [putAll_take hin]; assumption, by rw [delAll_take hin]; assumption, rfl, rfl⟩)
  · rintro m₁ nx h tk ⟨ok', oa', rfl, hk', hg', hm1, hm2⟩ F₂ N₃
    clear N₂ F₁ hR₁
    have F₃ := frNames [(Str.ofString "here", .ref hr), (Str.ofString "is_end", .bool e)] F₂ (by intro p hp; simp only [List.mem_cons, List.not_mem_nil, or_false] at hp; rcases hp with rfl | rfl <;> assumption)
    clear F₂
    rw [List.take_of_length_le (Nat.le_of_eq (rowI_length of d.size))] at hk' hg'
    dsimp only [List.cons_append, List.nil_append] at N₃ ⊢
    have hl1 := len_putAll (rowI of d.size) S.kn
    rw [rowI_length] at hl1
    k_steps
    · have he : e = true := by assumption
      subst hRd
      subst hp9
      refine hret _ ([(ib, _), (b, _), (dx, _), (x, _), (fl, _), (kn, _), (ag, _), (hr, _)] ++ (T9 ++ own₀)) _ _ (by k_asm) (News.sub (by assumption) (by walk_at "sub")) (hRp _ T9 [(ib, _), (b, _), (dx, _), (x, _), (fl, _), (kn, _), (ag, _), (hr, _)] (ackLS S (of, d, e)) hf (LawL.of vs ns n0 seed ts n1 k9 u1 u2 u3 u4 la9 lb9 fvs n2 _ _ oh tw hi hl40 hs0 hs1 hA hB hC (by simp only [ackLS, he, if_true]; assumption) hg' hH) ⟨⟨rfl, rfl⟩, rfl⟩)
    · have he : e = false := by assumption
      subst hRd
      subst hp9
      refine hret _ ([(ib, _), (b, _), (dx, _), (x, _), (fl, _), (kn, _), (ag, _), (hr, _)] ++ (T9 ++ own₀)) _ _ (by k_asm) (News.sub (by assumption) (by walk_at "sub")) (hRp _ T9 [(ib, _), (b, _), (dx, _), (x, _), (fl, _), (kn, _), (ag, _), (hr, _)] (ackLS S (of, d, e)) hf (LawL.of vs ns n0 seed ts n1 k9 u1 u2 u3 u4 la9 lb9 fvs n2 _ _ oh tw hi hl40 hs0 hs1 hA hB hC (by simp only [ackLS, he, Bool.false_eq_true, if_false]; assumption) hg' hH) ⟨⟨rfl, rfl⟩, rfl⟩)
theorem acked_law (w : World) (ib b dx x fl kn ag hr : Nat) (S : LS) (M own : Led) (cv : Nat) (c : Int × Array UInt8 × Bool) (ho : Ords ib b dx x fl kn ag hr) (hP : LawL w ib b dx x fl kn ag hr S own M) (hc : ChunkAt own (.ref cv) c) (hz : S.p.W.size ≤ 1000) (hzA : S.p.A.length ≤ 1000) (hzB : S.p.B.length ≤ 1000) (hzA' : (addSpan S.p.A c.1 (c.1 + c.2.1.size)).length ≤ 1000)
    (hzk : S.kn.length ≤ 1000) (hzg : S.ag.length ≤ 1000) (hof : 0 ≤ c.1 ∧ c.1 ≤ 1000) (hcs : c.2.1.size ≤ 1000) :
    LSpec w 4 32 229 [.ref x, .ref hr, .ref cv] ib b dx x fl kn ag hr M own (fun r S' _ => r = .none ∧ S' = ackLS S c) :=
  LSpecM.toL (acked_lawM w ib b dx x fl kn ag hr S M own cv c ho hP hc hz hzA hzB hzA' hzk hzg hof hcs) fun _ _ _ _ h => h.1
theorem putNew_take {kn ks : List Key} {a : Int} {n i : Nat} (h : i < n) : putNew kn ks ((rowI a n).take (i + 1)) = if (KeyP.inl (a + (i : Int)) : Key) ∈ kn then putNew kn ks ((rowI a n).take i) else keyPut (putNew kn ks ((rowI a n).take i)) (.inl (a + (i : Int))) := by
  unfold putNew
  rw [List.take_add_one, rowI_get h, List.foldl_append]
  rfl
theorem len_putNew (kn : List Key) (is : List Int) : ∀ ks : List Key, (putNew kn ks is).length ≤ ks.length + is.length := by
  induction is with
  | nil => intro ks; exact Nat.le_refl _
  | cons a r ih =>
    intro ks
    unfold putNew at ih ⊢
    rw [List.foldl_cons]
    refine Nat.le_trans (ih _) ?_
    have h1 := len_keyPut ks (.inl a)
    split <;> simp only [List.length_cons] <;> omega
def lostLS (S : LS) (c : Int × Array UInt8 × Bool) : LS :=
  { S with p := lostPS S.p c.1 c.2.1.size c.2.2, ag := putNew S.kn S.ag (rowI c.1 c.2.1.size) }
theorem lost_law (w : World) (ib b dx x fl kn ag hr : Nat) (S : LS) (M own : Led) (cv : Nat) (c : Int × Array UInt8 × Bool) (ho : Ords ib b dx x fl kn ag hr) (hP : LawL w ib b dx x fl kn ag hr S own M) (hc : ChunkAt own (.ref cv) c) (hst : S.p.st = .send ∨ S.p.st = .sent) (hzw : ∀ i, (withoutSpans (if (c.2.1.size : Int) > 0 then [(c.1, c.1 + c.2.1.size)] else []) (S.p.A.take i)).length ≤ 1000) (hzB : ∀ i, (addAll S.p.B ((lostSpans S.p c.1 c.2.1.size).take i)).length ≤ 1000)
    (hzk : S.kn.length ≤ 1000) (hzg : S.ag.length ≤ 1000) (hof : 0 ≤ c.1 ∧ c.1 ≤ 1000) (hcs : c.2.1.size ≤ 1000) :
    LSpec w 5 40 236 [.ref x, .ref hr, .ref cv] ib b dx x fl kn ag hr M own (fun r S' _ => r = .none ∧ S' = lostLS S c) := by
  k_with_none
  (k_with "call type:list" => (k_here; (with_reducible show wpAny _ _ (call (Value.type _) [Value.ref _]) _ _ _); k_dflt (refine' r_list ?nsF ?nsN ?nsm ?nsz ?_; (case nsF => k_asm); (case nsN => k_asm); (case nsm => k_mem); (case nsz => omega)); intro D' c' h' F' N' l1; (try k_lt l1); (try k_sweep)))
  (k_with "binaryOp Add ref ref" => (k_here; (with_reducible show wpAny _ _ (binaryOp _ (Value.ref _) (Value.ref _)) _ _ _); k_dflt (refine' r_cat ?nsF ?nsN ?nsm ?nsb ?nsz ?_; (case nsF => k_asm); (case nsN => k_asm); (case nsm => k_mem); (case nsb => k_mem); (case nsz => (simp only [List.length_cons, List.length_nil]; omega))); intro D' h' F' N' l1; (try k_lt l1); (try k_sweep)))
  (k_with "call builtin:list.append" => (k_here; (with_reducible show wpAny _ _ (call (Value.builtin _) [Value.ref _, _]) _ _ _); k_dflt (refine' r_append ?nsF ?nsN ?nsU ?nsz ?_; (case nsF => k_asm); (case nsN => k_asm); (case nsU => k_upd); (case nsz => (simp only [List.length_append, List.length_cons, List.length_nil]; omega))); intro h' F' N'; (try k_sweep)))
  (k_with "exec For Tuple Name cons nil" => (k_here; (rename Fr _ _ _ _ => lF'); (with_unfolding_all refine' For_turns lF' ?_); (try k_fold)))
  (k_with "sub" => (repeat' (first | (with_reducible exact Sub.refl _) | (with_reducible exact Sub.nil) | (with_reducible assumption) | ((with_reducible show Sub (_ :: _) _); refine Sub.consL (by k_mem) ?_) | (with_reducible refine Sub.appL ?_ ?_) | (with_reducible exact Sub.appR1 (Sub.refl _)) | (with_reducible exact Sub.appR2 (Sub.refl _)) | (with_reducible exact Sub.appR1 (Sub.appR1 (Sub.refl _))) | (with_reducible exact Sub.appR1 (Sub.appR2 (Sub.refl _))) | (with_reducible refine Sub.consR ?_) | (with_reducible refine Sub.appR2 ?_))))
  (k_with "call builtin:list.pop" => (k_here; (with_reducible show wpAny _ _ (call (Value.builtin _) [Value.ref _, Value.int _ _]) _ _ _); k_dflt (refine' pop0 ?nsF ?nsN ?nsU ?nsz ?_; (case nsF => k_asm); (case nsN => k_asm); (case nsU => k_upd); (case nsz => omega)); (intro h' F' N')))
  (k_with "call builtin:len" => (k_here; (with_reducible show wpAny _ _ (call (Value.builtin "len") [Value.ref _]) _ _ _); k_dflt (refine' r_len ?nsF ?nsN ?nsm ?nse ?nsz ?_; (case nsF => k_asm); (case nsN => k_asm); (case nsm => k_mem); (case nse => first | exact rfl | assumption | (simp only [List.length_cons, List.length_nil]; exact rfl)); (case nsz => ((try simp only [List.length_cons, List.length_nil, List.length_append, List.length_map]); omega))); (try simp only [List.length_cons, List.length_nil])))
  (k_with "subscriptTail" => (k_here; (with_reducible show wpAny _ _ (subscriptTail _ _ (Value.ref _) (Value.int _ _)) _ _ _); (with_unfolding_all refine' r_item ?nsN ?nsm ?nsh0 ?nshi ?nshx ?_ ?nshs; (case nsN => k_asm); (case nsm => k_mem); (case nsh0 => decide); (case nshi => decide); (case nshx => rfl); (case nshs => with_unfolding_all rfl); k_whole)))
  (k_with "compareOp In str ref" => (k_here; (with_reducible show wpAny _ _ (compareOp _ (Value.str _ _) (Value.ref _)) _ _ _); (first | (with_unfolding_all refine' r_instr true ?nsht ?nshi ?nshb ?_; (case nsht => first | exact News.isTup (by k_asm) (by k_mem) | exact kun_topT (by k_asm) (by k_asm) (by k_is)); (case nshi => kde_strs); (case nshb => decide)) | (with_unfolding_all refine' r_instr false ?nsht ?nshi ?nshb ?_; (case nsht => first | exact News.isTup (by k_asm) (by k_mem) | exact kun_topT (by k_asm) (by k_asm) (by k_is)); (case nshi => kde_strs); (case nshb => decide)) | (with_unfolding_all refine' r_instr _ ?nsht ?nshi ?nshb ?_; (case nsht => first | exact News.isTup (by k_asm) (by k_mem) | exact kun_topT (by k_asm) (by k_asm) (by k_is)); (case nshi => kde_strs); (case nshb => walk_at "st in")))))
  (k_with "compareOp NotIn str ref" => (k_here; (with_reducible show wpAny _ _ (compareOp _ (Value.str _ _) (Value.ref _)) _ _ _); (first | (with_unfolding_all refine' r_notinstr true ?nsht ?nshi ?nshb ?_; (case nsht => first | exact News.isTup (by k_asm) (by k_mem) | exact kun_topT (by k_asm) (by k_asm) (by k_is)); (case nshi => kde_strs); (case nshb => decide)) | (with_unfolding_all refine' r_notinstr false ?nsht ?nshi ?nshb ?_; (case nsht => first | exact News.isTup (by k_asm) (by k_mem) | exact kun_topT (by k_asm) (by k_asm) (by k_is)); (case nshi => kde_strs); (case nshb => decide)) | (with_unfolding_all refine' r_notinstr _ ?nsht ?nshi ?nshb ?_; (case nsht => first | exact News.isTup (by k_asm) (by k_mem) | exact kun_topT (by k_asm) (by k_asm) (by k_is)); (case nshi => kde_strs); (case nshb => walk_at "st in")))))
  (k_with "exec If" => k_dflt (k_extra "my if"))
  (k_with "eval BoolOp" => k_dflt (k_extra "my bool"))
  (k_with "eval IfExp" => k_dflt (k_extra "my ifexp"))
  (k_with "isTrue BoolOp" => k_dflt (k_extra "my test"))
  (k_with "call ref" => k_dflt (k_extra "my call"))
  (k_with "subscriptTail" => (k_here; (with_reducible show wpAny _ _ (subscriptTail _ (Expr.Slice _ _ none _) (Value.bytes _ _) (Value.ref _)) _ _ _); (with_reducible rename Fr _ _ _ _ => F'); (with_reducible rename News _ _ _ _ => N'); k_dflt (refine r_bslice (s := ⟨_, _, _, _, _⟩) F' N' (by constructor) (by constructor) (by omega) ?_); intro _ _ _ _ _))
  (k_with "call type:bytes" => (k_here; (with_reducible show wpAny _ _ (call (Value.type "bytes") [Value.bytes _ _]) _ _ _); refine call_bytes_bytes ?_))
  (k_with "newTuple" => (k_here; k_dflt (refine' r_newTuple ?nsF ?nsN ?nsz ?_; (case nsF => k_asm); (case nsN => k_asm); (case nsz => exact Nat.le_of_ble_eq_true rfl)); intro D' h' F' N' l1; (have l0 := l1); (try k_lt l1); (try k_sweep)))
  (k_with "newList" => (k_here; k_dflt (refine' r_newList ?nsF ?nsN ?nsz ?_; (case nsF => k_asm); (case nsN => k_asm); (case nsz => exact Nat.le_of_ble_eq_true rfl)); intro D' h' F' N' l1; (have l0 := l1); (try k_lt l1); (try k_sweep)))
  (k_with "binaryOp Add bytes bytes" => (k_here; (with_reducible show wpAny _ _ (binaryOp _ (Value.bytes _ _) (Value.bytes _ _)) _ _ _); refine r_badd (by omega) ?_; intro _ _))
  (k_with "exec For Tuple Call cons nil" => (k_here; (rename Fr _ _ _ _ => lF'); (with_unfolding_all refine' For_turns lF' ?_); (try k_fold)))
  (k_with "st in" => first | exact congrArg not (st_in _) | exact congrArg not (st_lost _) | exact st_in _ | exact st_lost _)
  (k_with "lt" => (intro b hb; (simp only [List.mem_cons, List.not_mem_nil, or_false] at hb); rcases hb with rfl | rfl <;> omega))
  (k_with "apart" => ((try simp only [List.cons_append, List.nil_append]); (repeat' (first | exact offNil | (refine offCons (by k_all) ?_)))))
  (k_with "subscriptTail Name Constant ref str" => (k_here; (with_reducible show wpAny _ _ (subscriptTail _ _ (Value.ref _) (Value.str _ _)) _ _ _); k_dflt (refine' kda_item (knd := PySem.strKind PySem.Challenge.rw_no0075_01.row.prog _) ?nsN ?nsm ?nsd ?nsk ?nsl ?_ ?nshs ?nshg; (case nsN => k_asm); (case nsm => with_reducible k_mem); (case nsd => with_reducible assumption); (case nsk => exact strKind_is _ _ _ _); (case nsl => first | exact (rfl : _ = some (Value.ref _)) | exact (rfl : _ = some (Value.bytes _ _))); (case nshs => with_unfolding_all rfl); (case nshg => (intro _; with_unfolding_all rfl)); k_whole)))
  (k_with "setItem ref int" => (k_here; (with_reducible show wpAny _ _ (setItem (Value.ref _) (Value.int _ _) (Value.bool true)) _ _ _); k_dflt (refine' dk_set (k := KeyP.inl _) ?nsF ?nsN ?nsU ?nsd ?nsk ?nsz ?_; (case nsF => k_asm); (case nsN => k_asm); (case nsU => k_updF); (case nsd => with_reducible assumption); (case nsk => exact mix_int _ _); (case nsz => omega)); (intro h' o' F' N' hd'); (try k_sweep)))
  (k_with "setItem ref str" => (k_here; (with_reducible show wpAny _ _ (setItem (Value.ref _) (Value.str _ _) (Value.bool true)) _ _ _); k_dflt (refine' dk_set (k := KeyP.inr _) ?nsF ?nsN ?nsU ?nsd ?nsk ?nsz ?_; (case nsF => k_asm); (case nsN => k_asm); (case nsU => k_updF); (case nsd => with_reducible assumption); (case nsk => exact mix_str _ _); (case nsz => omega)); (intro h' o' F' N' hd'); (try k_sweep)))
  (k_with "getMethod ref" => (k_here; (with_reducible show wpAny _ _ (getMethod (Value.ref _) (PySem.Str.ofString "pop") _) _ _ _); k_dflt (refine' dk_popm ?nsN ?nsm ?nsd ?_; (case nsN => k_asm); (case nsm => with_reducible k_mem); (case nsd => with_reducible assumption))))
  (k_with "call builtin:dict.pop" => (k_here; (with_reducible show wpAny _ _ (call (Value.builtin _) [Value.ref _, Value.int _ _, Value.none]) _ _ _); k_dflt (refine' dk_pop ?nsF ?nsN ?nsU ?nsd ?nslo ?nsz ?_; (case nsF => k_asm); (case nsN => k_asm); (case nsU => k_updF); (case nsd => with_reducible assumption); (case nslo => assumption); (case nsz => omega)); (intro h' o' r' F' N' hd'); (try k_sweep)))
  (k_with "compareOp NotIn int ref" => (k_here; (with_reducible show wpAny _ _ (compareOp _ (Value.int _ _) (Value.ref _)) _ _ _); k_dflt (refine' dk_notin (k := KeyP.inl _) ?nsN ?nsm ?nsd ?nslo ?nsk ?_; (case nsN => k_asm); (case nsm => with_reducible k_mem); (case nsd => with_reducible assumption); (case nslo => assumption); (case nsk => exact mix_int _ _))))
  (k_with "compareOp In str ref" => (k_here; (with_reducible show wpAny _ _ (compareOp _ (Value.str _ _) (Value.ref _)) _ _ _); k_dflt (refine' dk_in (k := KeyP.inr _) ?nsN ?nsm ?nsd ?nslo ?nsk ?_; (case nsN => k_asm); (case nsm => with_reducible k_mem); (case nsd => with_reducible assumption); (case nslo => assumption); (case nsk => exact mix_str _ _))))
  (k_with "call builtin:len" => (k_here; (with_reducible show wpAny _ _ (call (Value.builtin "len") [Value.ref _]) _ _ _); k_dflt (refine' dk_len ?nsN ?nsm ?nsd ?nslo ?nsz ?_; (case nsN => k_asm); (case nsm => with_reducible k_mem); (case nsd => with_reducible assumption); (case nslo => assumption); (case nsz => omega))))
  (k_with "exec For Name Call cons nil" => (k_here; (rename Fr _ _ _ _ => lF'); (with_unfolding_all refine' For_turns lF' ?_); (try k_fold)))
  (k_with "call type:range" => (k_here; (with_reducible show wpAny _ _ (call _ [_, _]) _ _ _); k_dflt (refine' range2_rows ?nsF ?nsN ?_; (case nsF => k_asm); (case nsN => k_asm)); (intro h' tk' t1' t2' t3' hR' F' N' hk'; clear hk'); (try k_sweep)))
  have ho0 := ho
  obtain ⟨of, d, e⟩ := c
  refine LawL.elim hP ?_
  clear hP
  intro vs ns n0 seed ts n1 k t1 t2 t3 t4 la lb fvs n2 ok oa oh tw hi hl40 hs0 hs1 hA hB hC hK hG hH
  obtain ⟨⟨o1, o2, o3, o4, o5, o6, o7⟩, lok, loa, loh⟩ := ho
  refine LSpec.start ?_
  intro own₀ hsub hoff Rp hRp
  unfold Spec
  k_fill
  intro mean mg mb dp un gd cn cs a ccd cl outer A₀ base h₀ L m s Q E B F X N T hk hd hu hret
  dsimp only [List.cons_append, List.nil_append] at N
  replace N : News h₀ L s.heap (_ :: _ :: _ :: _ :: _ :: _ :: _ :: _ :: (([] : Led) ++ own₀)) := N
  have hf : FreshM [] own₀ [ib, b, dx, x, fl, kn, ag, hr] := FreshM.nil
  have off : OwnOff ([] ++ own₀) [ib, b, dx, x, fl, kn, ag, hr] := hoff
  replace hA : SpansAt ([] ++ own) (.ref la) S.p.A := hA
  replace hB : SpansAt ([] ++ own) (.ref lb) S.p.B := hB
  replace hC : ChunksAt ([] ++ own) fvs S.fl := hC
  refine wpAny_call ?_
  k_dflt cell_enter
  obtain ⟨_, tc1, tc2, nc, ec, hc⟩ := hc
  cases ec
  dsimp only at *
  have hc0 : (cv, ({ cls := .type "tuple", data := .seq #[.int of tc1, .bytes d tc2, .bool e] nc } : Obj)) ∈ [] ++ own₀ := hsub _ hc
  (k_with "my call" => (
    (with_reducible show wpAny _ _ (call (Value.ref 175) [Value.ref _, Value.int _ _, Value.int _ _, Value.bool _]) _ _ _)
    refine' MSpec.useL (P := [(ib, _), (b, _)]) (M2 := [(dx, _), (x, _)]) (R := [(fl, _), (kn, _), (ag, _), (hr, _)]) (own₀ := own₀) (adr := [ib, b, dx, x, fl, kn, ag, hr]) (lost_spec _ _ _ S.p _ _ _ _ _ _ _ o3 ?hP hst hzw hzB) rfl rfl ?hPR hsub ?hf ?off ?B ?F ?X ?N ?T ?hk ?hd ?hu ?hn ?_
    (case hf => assumption)
    (case off => assumption)
    (case B => k_asm)
    (case F => k_asm)
    (case X => k_asm)
    (case N => k_asm)
    (case T => k_asm)
    (case hk => exact rfl)
    (case hd => ktr_room)
    (case hu => ktr_units)
    (case hn => walk_at "sub")
    (case hP => exact (PartL.of k t1 t2 t3 t4 la lb hA hB))
    (case hPR => exact Ords.dxx ho0)
    rintro r9 T9 M9 p9 h9 tk9 F9 N9 hf9 off9 hs9 hL9 ⟨rfl, hp9⟩
    revert N9
    refine PartL.elim hL9 ?_
    clear hL9
    intro k9 u1 u2 u3 u4 la9 lb9 hA9 hB9 N9
    dsimp only [List.cons_append, List.nil_append] at N9
    replace hC := hC.mono hs9
    clear hf off hA hB
    have hf := hf9
    have off := off9
    have hA := hA9
    have hB := hB9
    clear hf9 off9 hA9 hB9
    all_goals (try dsimp only)
    all_goals (try k_fold)))
  k_steps
  rename News _ _ _ (_ :: _) => N₁
  rename Fr _ _ _ _ => F₁
  rename IsRange _ _ _ _ _ _ _ _ => hR₁
  obtain ⟨R, hRd⟩ : ∃ R : Led, R = [(ib, listOf vs.toArray n0), (b, listOf #[.ref ib, .int seed ts] n1), (dx, dictOf (partEs w.params k9 (.int p9.lim u1) (.str p9.st.str u2) (.bytes p9.W u3) (.int p9.se u4) (.ref la9) (.ref lb9) (.bool p9.fin) (.bool p9.ow) (.bool p9.ea)) 11), (x, instObj 199 dx), (fl, listOf fvs.toArray n2), (kn, ok)] ++ (T9 ++ own₀) := ⟨_, rfl⟩
  have hkR : (kn, ok) ∈ R := by rw [hRd]; simp
  have N₂ := News.sub (a := [(ag, oa), (hr, oh)] ++ R) N₁ (by rw [hRd]; walk_at "sub")
  have offR : OwnOff R [ag, hr] := by
    rw [hRd]; exact offApp (Ords.agh ho0) (fun q hq z hz => off q hq z (by simp only [List.mem_cons, List.not_mem_nil, or_false] at hz ⊢; rcases hz with rfl | rfl <;> simp))
  clear N₁
  refine loopR (news := [(ag, oa), (hr, oh)] ++ R) (n := d.size) (fun i m nx => ∃ oa', nx = [(ag, oa'), (hr, oh)] ++ R ∧ DictK w oa' (putNew S.kn S.ag ((rowI of d.size).take i)) ∧ m (Str.ofString "here") = some (.ref hr)) rfl hR₁ (by omega) (by omega) (by omega) F₁ N₂ ?_ ?_ ?_
  · exact ⟨oa, rfl, hG, rfl⟩
  · rintro i t m₁ nx h tk own₁ hin off₁ ⟨oa', rfl, hg', hm1⟩ F₂ N₃
    clear N₂ F₁ hR₁
    have F₃ := frNames [(Str.ofString "here", .ref hr)] F₂ (by intro p hp; simp only [List.mem_cons, List.not_mem_nil, or_false] at hp; rcases hp with rfl; assumption)
    clear F₂
    simp only [List.cons_append, List.nil_append] at N₃
    have hkR1 : (kn, ok) ∈ R ++ own₁ := List.mem_append_left _ hkR
    have offR1 : OwnOff (R ++ own₁) [ag, hr] := offApp offR (fun q hq z hz => off₁ q hq z (by simp only [List.cons_append, List.nil_append, List.map_cons, List.mem_cons, List.not_mem_nil, or_false] at hz ⊢; rcases hz with h | h <;> simp [h]))
    have hl2 := len_putNew S.kn ((rowI of d.size).take i) S.ag
    rw [List.length_take, rowI_length] at hl2
    k_steps
    · have hin1 : (KeyP.inl (of + (i : Int)) : Key) ∈ S.kn := by assumption
      refine dict_close (M3 := [(ag, oa'), (hr, oh)]) (M3' := [(ag, _), (hr, oh)]) off₁ (by k_asm) (by k_asm) (by walk_at "sub") (by rfl) ?_
      exact ⟨_, rfl, by rw [putNew_take hin, if_pos hin1]; assumption, rfl⟩
    · have hin1 : ¬ (KeyP.inl (of + (i : Int)) : Key) ∈ S.kn := by assumption
      refine dict_close (M3 := [(ag, oa'), (hr, oh)]) (M3' := [(ag, _), (hr, oh)]) off₁ (by k_asm) (by k_asm) (by walk_at "sub") (by rfl) ?_
      exact ⟨_, rfl, by rw [putNew_take hin, if_neg hin1]; assumption, rfl⟩
  · rintro m₁ nx h tk ⟨oa', rfl, hg', hm1⟩ F₂ N₃
    clear N₂ F₁ hR₁
    rw [List.take_of_length_le (Nat.le_of_eq (rowI_length of d.size))] at hg'
    dsimp only [List.cons_append, List.nil_append] at N₃ ⊢
    k_steps
    subst hRd
    subst hp9
    refine hret _ ([(ib, _), (b, _), (dx, _), (x, _), (fl, _), (kn, _), (ag, _), (hr, _)] ++ (T9 ++ own₀)) _ _ (by k_asm) (News.sub (by assumption) (by walk_at "sub")) (hRp _ T9 [(ib, _), (b, _), (dx, _), (x, _), (fl, _), (kn, _), (ag, _), (hr, _)] (lostLS S (of, d, e)) hf (LawL.of vs ns n0 seed ts n1 k9 u1 u2 u3 u4 la9 lb9 fvs n2 _ _ oh tw hi hl40 hs0 hs1 hA hB hC hK hg' hH) ⟨rfl, rfl⟩)
/-! a join that keeps the frame and a ledger -/
section
variable {α : Type} {M : Model} {A : Around} {E : Value → Shared → Prop} {s : Shared} {Q : α → Shared → Prop}
def JoinF (h₀ : Heap) (L : Addr) (m₀ : Str → Option Value) (nx₀ : Led) (V : α → Prop) (s : Shared) (v : α) (s' : Shared) : Prop := ∃ h' tk, s' = { s with heap := h', toks := tk } ∧ Fr h₀ L h' m₀ ∧ News h₀ L h' nx₀ ∧ V v
theorem joinF {h₀ : Heap} {L : Addr} {m₀ : Str → Option Value} {nx₀ nx : Led} {V : α → Prop} {v : α} {h' : Heap} {tk : Nat} (F : Fr h₀ L h' m₀) (N : News h₀ L h' nx) (k : Sub nx₀ nx) (h : V v) : JoinF h₀ L m₀ nx₀ V s v { s with heap := h', toks := tk } := ⟨h', tk, rfl, F, News.sub N k, h⟩
theorem cutF {t : Sem α} {h₀ : Heap} {L : Addr} {m₀ : Str → Option Value} {nx₀ : Led} (_ : Fr h₀ L s.heap m₀) (_ : News h₀ L s.heap nx₀) (V : α → Prop) (h : wpAny M A t (JoinF h₀ L m₀ nx₀ V s) E s)
    (k : ∀ v h' tk, Fr h₀ L h' m₀ → News h₀ L h' nx₀ → V v → Q v { s with heap := h', toks := tk }) : wpAny M A t Q E s :=
  wpAny_mono h (fun v s' ⟨h', tk, e, F, N, hv⟩ => e ▸ k v h' tk F N hv) fun _ _ x => x
end
/-! the chunk -/
abbrev lo (S : LS) (most : Int) (mn : Option Int) : Int := (chunkSpan S.p most mn).1
abbrev hi (S : LS) (most : Int) (mn : Option Int) : Int := (chunkSpan S.p most mn).2
def chunkLS (S : LS) (lo hi : Int) (e : Bool) : LS := { S with p := nextPS S.p lo hi e, fl := S.fl ++ [(lo, KBy.picked S.p.W (some lo) (some hi), e)], ag := delAll S.ag (rowI lo (hi - lo).toNat) }
abbrev isNone (S : LS) (q : Int × Int) : Prop := S.p.st = .recvd ∨ (q.1 = q.2 ∧ chunkEnd S.p q.1 q.2 = false)
def stepChunk (S : LS) (most : Int) (mn : Option Int) : LS :=
  let q := chunkSpan S.p most mn
  if isNone S q then S else chunkLS S q.1 q.2 (chunkEnd S.p q.1 q.2)
structure ChunkOK (S : LS) (most : Int) (mn : Option Int) (q : Int × Int) : Prop where
  lo0 : 0 ≤ q.1
  le : q.1 ≤ q.2
  hi : q.2 ≤ S.p.n
  none : isNone S q → most = 0 ∨ hasToSend S.p mn = false
  len : q.2 - q.1 ≤ most
  lim : S.p.lim < q.2 → q.2 ≤ S.p.se
  ahead : q.1 ≤ S.p.se
  new : ∀ k, mn = some k → q.2 - S.p.se ≤ k
  ag0 : S.p.se < q.2 → S.ag = []
  agm : ∀ i : Int, q.1 ≤ i → i < min q.2 S.p.se → (KeyP.inl i : Key) ∈ S.ag
  fin : chunkEnd S.p q.1 q.2 = true → S.p.fin = true ∧ q.2 = S.p.n
def Allowed (free : Bool) (most : Int) (mn : Option Int) : Prop := if free then most = 9 ∧ mn = none else (0 ≤ most ∧ most < 9) ∧ ∃ k, mn = some k ∧ 0 ≤ k ∧ k < 9
theorem Allowed.lt {free : Bool} {most : Int} {mn : Option Int} (h : Allowed free most mn) : 0 ≤ most ∧ most ≤ 9 := by
  unfold Allowed at h
  split at h
  · omega
  · omega
theorem Allowed.mn {free : Bool} {most : Int} {mn : Option Int} (h : Allowed free most mn) : mn = none ∨ ∃ k, mn = some k ∧ 0 ≤ k ∧ k < 9 := by
  unfold Allowed at h
  split at h
  · exact .inl h.2
  · exact .inr h.2
theorem next_cases {C : Prop} [Decidable C] {r : Value} {p p' p'' : PS} {own own₀ : Led} {c1 : Int} {c2 : Array UInt8} {c3 : Bool} (h : if C then r = .none ∧ p' = p else ChunkAt own r (c1, c2, c3) ∧ p' = p'') (k : Sub own own₀) :
    (C ∧ r = .none ∧ p' = p) ∨ (¬ C ∧ p' = p'' ∧ ChunkAt own r (c1, c2, c3) ∧ ∃ (a : Nat) (t u : Tok) (n : Nat), r = .ref a ∧ (a, ({ cls := .type "tuple", data := .seq #[.int c1 t, .bytes c2 u, .bool c3] n } : Obj)) ∈ own₀) := by
  by_cases hc : C
  · rw [if_pos hc] at h; exact .inl ⟨hc, h⟩
  · rw [if_neg hc] at h
    obtain ⟨h1, h2⟩ := h
    obtain ⟨a, t, u, n, e, hm⟩ := id h1
    exact .inr ⟨hc, h2, h1, a, t, u, n, e, k _ hm⟩
theorem picked_again {W d : Array UInt8} {q1 q2 : Int} (hd : d = KBy.picked W (some q1) (some q2)) (h0 : 0 ≤ q1) (h1 : q1 ≤ q2) (h2 : q2 ≤ (W.size : Int)) : (d.size : Int) = q2 - q1 ∧ q1 + (d.size : Int) = q2 := by
  have := picked_size h0 h1 h2
  rw [← hd] at this
  omega
theorem foldl_same (ks : List Int) (l : List Int) : ks.foldl (fun l _ => l) l = l := by
  induction ks with
  | nil => rfl
  | cons a r ih => exact ih
theorem nil_of_same {ys : List Value} {ks : List Int} (h : IntsAre ys (ks.foldl (fun l _ => l) [])) : ys = [] := by
  rw [foldl_same] at h
  cases h
  rfl
theorem offLoop {R own₁ : Led} {a : Addr} {ad : List Addr} {M : Led} (offR : OwnOff R ad) (off : OwnOff own₁ ((M ++ R).map (·.1))) (hM : M.map (·.1) = ad) : OwnOff (R ++ own₁) ad :=
  offApp offR fun q hq z hz => off q hq z (by rw [List.map_append, hM]; exact List.mem_append_left _ hz)
theorem FreshM.less {T own₀ : Led} {a : Nat} {adr : List Nat} (h : FreshM T own₀ (a :: adr)) : FreshM T own₀ adr := ⟨h.1, fun q hq b hb => h.2 q hq b (List.mem_cons_of_mem _ hb)⟩
theorem step_none {S : LS} {most : Int} {mn : Option Int} {q1 q2 : Int} (h : (q1, q2) = chunkSpan S.p most mn) (k : isNone S (q1, q2)) : stepChunk S most mn = S := by
  unfold stepChunk
  rw [← h]
  exact if_pos k
theorem step_some {S : LS} {most : Int} {mn : Option Int} {q1 q2 : Int} (h : (q1, q2) = chunkSpan S.p most mn) (k : ¬ isNone S (q1, q2)) : stepChunk S most mn = chunkLS S q1 q2 (chunkEnd S.p q1 q2) := by
  unfold stepChunk
  rw [← h]
  exact if_neg k
theorem chunk_law (w : World) (ib b dx x fl kn ag hr : Nat) (S : LS) (M own : Led) (free : Bool) (ho : Ords ib b dx x fl kn ag hr) (hP : LawL w ib b dx x fl kn ag hr S own M) (hok : ∀ most mn, Allowed free most mn → ChunkOK S most mn (chunkSpan S.p most mn)) (hhw : S.hw = S.p.W) (hz : S.p.W.size ≤ 1000) (hzB : S.p.B.length ≤ 1000) (hzk : S.kn.length ≤ 1000) (hzg : S.ag.length ≤ 1000) (hzf : S.fl.length ≤ 1000) :
    LSpec w 5 200 222 [.ref b, .ref x, .ref hr, .bool free] ib b dx x fl kn ag hr M own (fun r S' _ => r = .bool true ∧ ∃ most mn, Allowed free most mn ∧ S' = stepChunk S most mn) := by
  k_with_none
  (k_with "call type:list" => (k_here; (with_reducible show wpAny _ _ (call (Value.type _) [Value.ref _]) _ _ _); k_dflt (refine' r_list ?nsF ?nsN ?nsm ?nsz ?_; (case nsF => k_asm); (case nsN => k_asm); (case nsm => k_mem); (case nsz => omega)); intro D' c' h' F' N' l1; (try k_lt l1); (try k_sweep)))
  (k_with "binaryOp Add ref ref" => (k_here; (with_reducible show wpAny _ _ (binaryOp _ (Value.ref _) (Value.ref _)) _ _ _); k_dflt (refine' r_cat ?nsF ?nsN ?nsm ?nsb ?nsz ?_; (case nsF => k_asm); (case nsN => k_asm); (case nsm => k_mem); (case nsb => k_mem); (case nsz => (simp only [List.length_cons, List.length_nil]; omega))); intro D' h' F' N' l1; (try k_lt l1); (try k_sweep)))
  (k_with "call builtin:list.append" => (k_here; (with_reducible show wpAny _ _ (call (Value.builtin _) [Value.ref _, _]) _ _ _); k_dflt (refine' r_append ?nsF ?nsN ?nsU ?nsz ?_; (case nsF => k_asm); (case nsN => k_asm); (case nsU => k_upd); (case nsz => (simp only [List.length_append, List.length_cons, List.length_nil]; omega))); intro h' F' N'; (try k_sweep)))
  (k_with "exec For Tuple Name cons nil" => (k_here; (rename Fr _ _ _ _ => lF'); (with_unfolding_all refine' For_turns lF' ?_); (try k_fold)))
  (k_with "sub" => (repeat' (first | (with_reducible exact Sub.refl _) | (with_reducible exact Sub.nil) | (with_reducible assumption) | ((with_reducible show Sub (_ :: _) _); refine Sub.consL (by k_mem) ?_) | (with_reducible refine Sub.appL ?_ ?_) | (with_reducible exact Sub.appR1 (Sub.refl _)) | (with_reducible exact Sub.appR2 (Sub.refl _)) | (with_reducible exact Sub.appR1 (Sub.appR1 (Sub.refl _))) | (with_reducible exact Sub.appR1 (Sub.appR2 (Sub.refl _))) | (with_reducible refine Sub.consR ?_) | (with_reducible refine Sub.appR2 ?_))))
  (k_with "call builtin:list.pop" => (k_here; (with_reducible show wpAny _ _ (call (Value.builtin _) [Value.ref _, Value.int _ _]) _ _ _); k_dflt (refine' pop0 ?nsF ?nsN ?nsU ?nsz ?_; (case nsF => k_asm); (case nsN => k_asm); (case nsU => k_upd); (case nsz => omega)); (intro h' F' N')))
  (k_with "call builtin:len" => (k_here; (with_reducible show wpAny _ _ (call (Value.builtin "len") [Value.ref _]) _ _ _); k_dflt (refine' r_len ?nsF ?nsN ?nsm ?nse ?nsz ?_; (case nsF => k_asm); (case nsN => k_asm); (case nsm => k_mem); (case nse => first | exact rfl | assumption | (simp only [List.length_cons, List.length_nil]; exact rfl)); (case nsz => ((try simp only [List.length_cons, List.length_nil, List.length_append, List.length_map]); omega))); (try simp only [List.length_cons, List.length_nil])))
  (k_with "subscriptTail" => (k_here; (with_reducible show wpAny _ _ (subscriptTail _ _ (Value.ref _) (Value.int _ _)) _ _ _); (with_unfolding_all refine' r_item ?nsN ?nsm ?nsh0 ?nshi ?nshx ?_ ?nshs; (case nsN => k_asm); (case nsm => k_mem); (case nsh0 => decide); (case nshi => decide); (case nshx => rfl); (case nshs => with_unfolding_all rfl); k_whole)))
  (k_with "compareOp In str ref" => (k_here; (with_reducible show wpAny _ _ (compareOp _ (Value.str _ _) (Value.ref _)) _ _ _); (first | (with_unfolding_all refine' r_instr true ?nsht ?nshi ?nshb ?_; (case nsht => first | exact News.isTup (by k_asm) (by k_mem) | exact kun_topT (by k_asm) (by k_asm) (by k_is)); (case nshi => kde_strs); (case nshb => decide)) | (with_unfolding_all refine' r_instr false ?nsht ?nshi ?nshb ?_; (case nsht => first | exact News.isTup (by k_asm) (by k_mem) | exact kun_topT (by k_asm) (by k_asm) (by k_is)); (case nshi => kde_strs); (case nshb => decide)) | (with_unfolding_all refine' r_instr _ ?nsht ?nshi ?nshb ?_; (case nsht => first | exact News.isTup (by k_asm) (by k_mem) | exact kun_topT (by k_asm) (by k_asm) (by k_is)); (case nshi => kde_strs); (case nshb => walk_at "st in")))))
  (k_with "compareOp NotIn str ref" => (k_here; (with_reducible show wpAny _ _ (compareOp _ (Value.str _ _) (Value.ref _)) _ _ _); (first | (with_unfolding_all refine' r_notinstr true ?nsht ?nshi ?nshb ?_; (case nsht => first | exact News.isTup (by k_asm) (by k_mem) | exact kun_topT (by k_asm) (by k_asm) (by k_is)); (case nshi => kde_strs); (case nshb => decide)) | (with_unfolding_all refine' r_notinstr false ?nsht ?nshi ?nshb ?_; (case nsht => first | exact News.isTup (by k_asm) (by k_mem) | exact kun_topT (by k_asm) (by k_asm) (by k_is)); (case nshi => kde_strs); (case nshb => decide)) | (with_unfolding_all refine' r_notinstr _ ?nsht ?nshi ?nshb ?_; (case nsht => first | exact News.isTup (by k_asm) (by k_mem) | exact kun_topT (by k_asm) (by k_asm) (by k_is)); (case nshi => kde_strs); (case nshb => walk_at "st in")))))
  (k_with "exec If" => k_dflt (k_extra "my if"))
  (k_with "eval BoolOp" => k_dflt (k_extra "my bool"))
  (k_with "eval IfExp" => k_dflt (k_extra "my ifexp"))
  (k_with "isTrue BoolOp" => k_dflt (k_extra "my test"))
  (k_with "call ref" => k_dflt (k_extra "my call"))
  (k_with "subscriptTail" => (k_here; (with_reducible show wpAny _ _ (subscriptTail _ (Expr.Slice _ _ none _) (Value.bytes _ _) (Value.ref _)) _ _ _); (with_reducible rename Fr _ _ _ _ => F'); (with_reducible rename News _ _ _ _ => N'); k_dflt (refine r_bslice (s := ⟨_, _, _, _, _⟩) F' N' (by constructor) (by constructor) (by omega) ?_); intro _ _ _ _ _))
  (k_with "call type:bytes" => (k_here; (with_reducible show wpAny _ _ (call (Value.type "bytes") [Value.bytes _ _]) _ _ _); refine call_bytes_bytes ?_))
  (k_with "newTuple" => (k_here; k_dflt (refine' r_newTuple ?nsF ?nsN ?nsz ?_; (case nsF => k_asm); (case nsN => k_asm); (case nsz => exact Nat.le_of_ble_eq_true rfl)); intro D' h' F' N' l1; (have l0 := l1); (try k_lt l1); (try k_sweep)))
  (k_with "newList" => (k_here; k_dflt (refine' r_newList ?nsF ?nsN ?nsz ?_; (case nsF => k_asm); (case nsN => k_asm); (case nsz => exact Nat.le_of_ble_eq_true rfl)); intro D' h' F' N' l1; (have l0 := l1); (try k_lt l1); (try k_sweep)))
  (k_with "binaryOp Add bytes bytes" => (k_here; (with_reducible show wpAny _ _ (binaryOp _ (Value.bytes _ _) (Value.bytes _ _)) _ _ _); refine r_badd (by omega) ?_; intro _ _))
  (k_with "exec For Tuple Call cons nil" => (k_here; (rename Fr _ _ _ _ => lF'); (with_unfolding_all refine' For_turns lF' ?_); (try k_fold)))
  (k_with "st in" => first | exact congrArg not (st_in _) | exact congrArg not (st_lost _) | exact st_in _ | exact st_lost _)
  (k_with "lt" => (intro b hb; (simp only [List.mem_cons, List.not_mem_nil, or_false] at hb); rcases hb with rfl | rfl <;> omega))
  (k_with "apart" => ((try simp only [List.cons_append, List.nil_append]); (repeat' (first | exact offNil | (refine offCons (by k_all) ?_)))))
  (k_with "subscriptTail Name Constant ref str" => (k_here; (with_reducible show wpAny _ _ (subscriptTail _ _ (Value.ref _) (Value.str _ _)) _ _ _); k_dflt (refine' kda_item (knd := PySem.strKind PySem.Challenge.rw_no0075_01.row.prog _) ?nsN ?nsm ?nsd ?nsk ?nsl ?_ ?nshs ?nshg; (case nsN => k_asm); (case nsm => with_reducible k_mem); (case nsd => with_reducible assumption); (case nsk => exact strKind_is _ _ _ _); (case nsl => first | exact (rfl : _ = some (Value.ref _)) | exact (rfl : _ = some (Value.bytes _ _))); (case nshs => with_unfolding_all rfl); (case nshg => (intro _; with_unfolding_all rfl)); k_whole)))
  (k_with "setItem ref int" => (k_here; (with_reducible show wpAny _ _ (setItem (Value.ref _) (Value.int _ _) (Value.bool true)) _ _ _); k_dflt (refine' dk_set (k := KeyP.inl _) ?nsF ?nsN ?nsU ?nsd ?nsk ?nsz ?_; (case nsF => k_asm); (case nsN => k_asm); (case nsU => k_updF); (case nsd => with_reducible assumption); (case nsk => exact mix_int _ _); (case nsz => omega)); (intro h' o' F' N' hd'); (try k_sweep)))
  (k_with "setItem ref str" => (k_here; (with_reducible show wpAny _ _ (setItem (Value.ref _) (Value.str _ _) (Value.bool true)) _ _ _); k_dflt (refine' dk_set (k := KeyP.inr _) ?nsF ?nsN ?nsU ?nsd ?nsk ?nsz ?_; (case nsF => k_asm); (case nsN => k_asm); (case nsU => k_updF); (case nsd => with_reducible assumption); (case nsk => exact mix_str _ _); (case nsz => omega)); (intro h' o' F' N' hd'); (try k_sweep)))
  (k_with "getMethod ref" => (k_here; (with_reducible show wpAny _ _ (getMethod (Value.ref _) (PySem.Str.ofString "pop") _) _ _ _); k_dflt (refine' dk_popm ?nsN ?nsm ?nsd ?_; (case nsN => k_asm); (case nsm => with_reducible k_mem); (case nsd => with_reducible assumption))))
  (k_with "call builtin:dict.pop" => (k_here; (with_reducible show wpAny _ _ (call (Value.builtin _) [Value.ref _, Value.int _ _, Value.none]) _ _ _); k_dflt (refine' dk_pop ?nsF ?nsN ?nsU ?nsd ?nslo ?nsz ?_; (case nsF => k_asm); (case nsN => k_asm); (case nsU => k_updF); (case nsd => with_reducible assumption); (case nslo => assumption); (case nsz => omega)); (intro h' o' r' F' N' hd'); (try k_sweep)))
  (k_with "compareOp NotIn int ref" => (k_here; (with_reducible show wpAny _ _ (compareOp _ (Value.int _ _) (Value.ref _)) _ _ _); k_dflt (refine' dk_notin (k := KeyP.inl _) ?nsN ?nsm ?nsd ?nslo ?nsk ?_; (case nsN => k_asm); (case nsm => with_reducible k_mem); (case nsd => with_reducible assumption); (case nslo => assumption); (case nsk => exact mix_int _ _))))
  (k_with "compareOp In str ref" => (k_here; (with_reducible show wpAny _ _ (compareOp _ (Value.str _ _) (Value.ref _)) _ _ _); k_dflt (refine' dk_in (k := KeyP.inr _) ?nsN ?nsm ?nsd ?nslo ?nsk ?_; (case nsN => k_asm); (case nsm => with_reducible k_mem); (case nsd => with_reducible assumption); (case nslo => assumption); (case nsk => exact mix_str _ _))))
  (k_with "call builtin:len" => (k_here; (with_reducible show wpAny _ _ (call (Value.builtin "len") [Value.ref _]) _ _ _); k_dflt (refine' dk_len ?nsN ?nsm ?nsd ?nslo ?nsz ?_; (case nsN => k_asm); (case nsm => with_reducible k_mem); (case nsd => with_reducible assumption); (case nslo => assumption); (case nsz => omega))))
  (k_with "exec For Name Call cons nil" => (k_here; (rename Fr _ _ _ _ => lF'); (with_unfolding_all refine' For_turns lF' ?_); (try k_fold)))
  (k_with "call type:range" => (k_here; (with_reducible show wpAny _ _ (call _ [_, _]) _ _ _); k_dflt (refine' range2_rows ?nsF ?nsN ?_; (case nsF => k_asm); (case nsN => k_asm)); (intro h' tk' t1' t2' t3' hR' F' N' hk'; clear hk'); (try k_sweep)))
  (k_with "storeName" => (k_here; (with_reducible show wpAny _ _ (storeName _ (PySem.Str.ofString "again") _) _ _ _); (k_dflt (refine' storeX_C ?nsF ?nsN ?nsc ?nsU ?nsd ?_; (case nsF => k_asm); (case nsN => k_asm); (case nsc => exact rfl); (case nsU => k_updF); (case nsd => k_asm); k_whole)); intro h' o' F' N' d'; (try dsimp only at N'); (try k_sweep)))
  (k_with "exec Assign" => k_dflt (k_extra "my assign"))
  (k_with "CompSrcT" => k_dflt (k_extra "my comp"))
  (k_with "compareOp NotEq ref ref" => k_dflt (k_extra "my ne"))
  (k_with "isTrue Compare" => k_dflt (k_extra "my cmp"))
  have ho0 := ho
  refine LawL.elim hP ?_
  clear hP
  intro vs ns n0 seed ts n1 k t1 t2 t3 t4 la lb fvs n2 ok oa oh tw hi hl40 hs0 hs1 hA hB hC hK hG hH
  obtain ⟨⟨o1, o2, o3, o4, o5, o6, o7⟩, lok, loa, loh⟩ := ho
  refine LSpec.start ?_
  intro own₀ hsub hoff Rp hRp
  unfold Spec
  k_fill
  intro mean mg mb dp un gd cn cs a ccd cl outer A₀ base h₀ L m s Q E B F X N T hk hd hu hret
  dsimp only [List.cons_append, List.nil_append] at N
  replace N : News h₀ L s.heap (_ :: _ :: _ :: _ :: _ :: _ :: _ :: _ :: (([] : Led) ++ own₀)) := N
  have hf : FreshM [] own₀ [ib, b, dx, x, fl, kn, ag, hr] := FreshM.nil
  have off : OwnOff ([] ++ own₀) [ib, b, dx, x, fl, kn, ag, hr] := hoff
  replace hA : SpansAt ([] ++ own) (.ref la) S.p.A := hA
  replace hB : SpansAt ([] ++ own) (.ref lb) S.p.B := hB
  replace hC : ChunksAt ([] ++ own) fvs S.fl := hC
  refine wpAny_call ?_
  k_dflt (refine' code_defC ?k1 ?k2 ?k3 ?k4 ?k5 ?kA ?kF ?kK ?k6 ?k7 ?k8 ?k9 ?kB ?kD ?_ ?c2 ?c3 ?c4; (case kA => exact rfl); (case kF => exact rfl); (case kK => assumption); (case k1 => k_asm); (case k2 => k_asm); (case k3 => k_asm); (case k4 => k_asm); (case k5 => k_asm); (case k6 => k_is); (case k7 => k_is); (case k8 => ktr_room); (case k9 => exact BindsTo.of_eq rfl); (case kB => exact rfl); (case kD => decide +kernel); (case c2 => exact rfl); (case c3 => exact rfl); (case c4 => exact rfl); k_whole; intro gc Lc hc' tkc cellsc FGc Fc Nc Yc Bc Xc Tc lc0; (have lc1 := lc0); (try k_lt lc1); (have hY := CellsAre.one Yc; obtain ⟨oc, hEc, dc⟩ := hY; subst hEc; clear Yc); (try simp only [List.cons_append, List.nil_append] at Nc); (try dsimp only); (try k_lift Bc); (try k_fold))
  replace Nc : News gc Lc hc' (_ :: _ :: _ :: _ :: _ :: _ :: _ :: _ :: _ :: (([] : Led) ++ own₀)) := Nc
  obtain ⟨cc, hcc⟩ : ∃ c : Nat, c = Lc + 1 := ⟨_, rfl⟩
  have offc := (cellFacts lc0 hcc).1
  clear hf off
  have hf : FreshM [] own₀ [cc, ib, b, dx, x, fl, kn, ag, hr] := FreshM.nil
  have off : OwnOff ([] ++ own₀) [cc, ib, b, dx, x, fl, kn, ag, hr] := offAdr offc hoff
  subst hcc
  have hcell : ∀ z ∈ [ib, b, dx, x, fl, kn, ag, hr], @LT.lt Nat _ z (Lc + 1) := (cellFacts lc0 rfl).2
  have hlf := hC.length
  have hhz : S.hw.size ≤ 1000 := by rw [hhw]; exact hz
  (k_with "my call" => (
    (with_reducible show wpAny _ _ (call (Value.ref 217) [Value.ref _, Value.int _ _]) _ _ _)
    refine' take_use (ib := ib) (b := b) (own := ([(Lc + 1, _), (dx, _), (x, _), (fl, _), (kn, _), (ag, _), (hr, _)] ++ ([] ++ own₀))) ?w1 ?w2 ?hi ?hl ?hs0 ?hs1 o1 ?ao ?B ?F ?X ?N ?T ?hk ?hd ?hu ?hn ?_
    (case B => k_asm)
    (case F => k_asm)
    (case X => k_asm)
    (case N => k_asm)
    (case T => k_asm)
    (case hk => exact rfl)
    (case hd => ktr_room)
    (case hu => ktr_units)
    (case hn => (refine (?_ : Sub _ _); walk_at "sub"))
    (case w1 => decide)
    (case w2 => decide)
    (case hi => assumption)
    (case hl => assumption)
    (case hs0 => assumption)
    (case hs1 => assumption)
    (case ao => exact offApp (Ords.ibbC ho0 hcell) (fun q hq z hz => off q hq z (by simp only [List.mem_cons, List.not_mem_nil, or_false] at hz ⊢; rcases hz with rfl | rfl <;> simp)))
    intro vs9 ns9 n09 seed9 ts9 n19 k9 tk99 h9 tk9 F9 N9 hi9 hl9 hs09 hs19 hk0 hk1
    all_goals (try dsimp only [List.cons_append] at N9)
    all_goals (try dsimp only)
    all_goals (try k_fold)))
  (k_with "my assign" => (
    (with_reducible show wpAny _ _ (exec (Stmt.Assign [Expr.Tuple _ _ _] (Expr.IfExp _ _ _ _) _) _) _ _ _)
    (fail_if_success (with_reducible show wpAny _ _ _ (JoinQ _ _ _ _) _ _))
    refine cutH (by k_asm) (fun (f : Flow) (m' : Str → Option Value) (nx : Led) => f = Flow.next ∧ ∃ (vs : List Value) (ns : List Int) (n0 : Nat) (seed : Int) (ts : Tok) (n1 : Nat) (most : Int) (tm : Tok) (v : Value) (mn : Option Int), nx = (Lc + 1, oc) :: (ib, listOf vs.toArray n0) :: (b, listOf #[.ref ib, .int seed ts] n1) :: (dx, dictOf (partEs w.params k (.int S.p.lim t1) (.str S.p.st.str t2) (.bytes S.p.W t3) (.int S.p.se t4) (.ref la) (.ref lb) (.bool S.p.fin) (.bool S.p.ow) (.bool S.p.ea)) 11) :: (x, instObj 199 dx) :: (fl, listOf fvs.toArray n2) :: (kn, ok) :: (ag, oa) :: (hr, oh) :: ([] ++ own₀) ∧ (m' (Str.ofString "part") = some (.ref x) ∧ m' (Str.ofString "here") = some (.ref hr) ∧ m' (Str.ofString "most") = some (.int most tm) ∧ m' (Str.ofString "most_new") = some v) ∧ IntsAre vs ns ∧ ns.length ≤ 40 ∧ 0 ≤ seed ∧ seed < 2147483647 ∧ OptInt v mn ∧ Allowed free most mn) ?cutA ?_
    (case cutA =>
     cases free
     all_goals k_steps
     · exact joinQ (by k_asm) (News.sub (by assumption) (by walk_at "sub")) ⟨rfl, _, _, _, _, _, _, _, _, _, _, rfl, ⟨rfl, rfl, rfl, rfl⟩, by assumption, by assumption, by assumption, by assumption, .some _ _, ⟨⟨by assumption, by assumption⟩, _, rfl, by assumption, by assumption⟩⟩
     · exact joinQ (by k_asm) (News.sub (by assumption) (by walk_at "sub")) ⟨rfl, _, _, _, _, _, _, _, _, _, _, rfl, ⟨rfl, rfl, rfl, rfl⟩, by assumption, by assumption, by assumption, by assumption, .none, ⟨rfl, rfl⟩⟩)
    rintro _ h8 tk8 m8 _ F8 N8 ⟨rfl, vs8, ns8, n08, seed8, ts8, n18, most, tm, v, mn, rfl, ⟨hn1, hn2, hn3, hn4⟩, hi8, hl8, hs08, hs18, hv, hal⟩
    replace F8 := frNames [(Str.ofString "part", .ref x), (Str.ofString "here", .ref hr), (Str.ofString "most", .int most tm), (Str.ofString "most_new", v)] F8 (by intro p hp; simp only [List.mem_cons, List.not_mem_nil, or_false] at hp; rcases hp with rfl | rfl | rfl | rfl <;> assumption)
    (try k_fold)))
  (k_with "my call" => (
    (with_reducible show wpAny _ _ (call (Value.ref 147) [Value.ref _, _]) _ _ _)
    refine' RSpec.useL (M := [(Lc + 1, _), (ib, _), (b, _), (dx, _), (x, _), (fl, _), (kn, _), (ag, _), (hr, _)]) (M2 := [(dx, _), (x, _)]) (own₀ := own₀) (adr := [Lc + 1, ib, b, dx, x, fl, kn, ag, hr]) (has_to_spec _ _ _ _ _ _ _ _ (PartL.of k t1 t2 t3 t4 la lb hA hB) hv hz hzB) ?h2 rfl hsub ?hf ?off ?B ?F ?X ?N ?T ?hk ?hd ?hu ?hn ?_
    (case hf => assumption)
    (case off => assumption)
    (case B => k_asm)
    (case F => k_asm)
    (case X => k_asm)
    (case N => k_asm)
    (case T => k_asm)
    (case hk => exact rfl)
    (case hd => ktr_room)
    (case hu => ktr_units)
    (case hn => walk_at "sub")
    (case h2 => walk_at "sub")
    rintro r9 T9 h9 tk9 F9 N9 hf9 off9 hs9 rfl
    dsimp only [List.cons_append, List.nil_append] at N9
    replace hA := hA.mono hs9
    replace hB := hB.mono hs9
    replace hC := hC.mono hs9
    clear hf off hs9
    have hf := hf9
    have off := off9
    clear hf9 off9
    all_goals (try dsimp only)
    all_goals (try k_fold)))
  (k_with "my call" => (
    (with_reducible show wpAny _ _ (call (Value.ref 154) [Value.ref _, Value.int _ _, _]) _ _ _)
    have hq := hok most mn hal
    refine' MSpec.useL (P := [(Lc + 1, _), (ib, _), (b, _)]) (M2 := [(dx, _), (x, _)]) (R := [(fl, _), (kn, _), (ag, _), (hr, _)]) (own₀ := own₀) (adr := [Lc + 1, ib, b, dx, x, fl, kn, ag, hr]) (next_spec _ _ _ S.p _ _ most _ _ mn o3 (PartL.of k t1 t2 t3 t4 la lb hA hB) hv hz hzB hq.lo0 hq.le hq.hi) rfl rfl ?hPR hsub ?hf ?off ?B ?F ?X ?N ?T ?hk ?hd ?hu ?hn ?_
    (case hf => assumption)
    (case off => assumption)
    (case B => k_asm)
    (case F => k_asm)
    (case X => k_asm)
    (case N => k_asm)
    (case T => k_asm)
    (case hk => exact rfl)
    (case hd => ktr_room)
    (case hu => ktr_units)
    (case hn => walk_at "sub")
    (case hPR => exact Ords.dxxC ho0 hcell)
    rintro r9 T9 M9 p9 h9 tk9 F9 N9 hf9 off9 hs9 hL9 hp9
    revert N9
    refine PartL.elim hL9 ?_
    clear hL9
    intro k9 u1 u2 u3 u4 la9 lb9 hA9 hB9 N9
    dsimp only [List.cons_append, List.nil_append] at N9
    replace hC := hC.mono hs9
    clear hf off hA hB
    have hf := hf9
    have off := off9
    have hA := hA9
    have hB := hB9
    clear hf9 off9 hA9 hB9
    dsimp only at hp9
    obtain ⟨q, hqe⟩ : ∃ q, q = chunkSpan S.p most mn := ⟨_, rfl⟩
    rw [← hqe] at hp9 hq
    obtain ⟨q1, q2⟩ := q
    dsimp only at hp9
    obtain ⟨d, hdd⟩ : ∃ d, d = KBy.picked S.p.W (some q1) (some q2) := ⟨_, rfl⟩
    obtain ⟨hdz, hdz2⟩ := picked_again hdd hq.lo0 hq.le hq.hi
    rw [← hdd] at hp9
    obtain ⟨e, hee⟩ : ∃ e, e = chunkEnd S.p q1 q2 := ⟨_, rfl⟩
    rw [← hee] at hp9
    rcases next_cases hp9 (Sub.appL (Sub.appR1 (Sub.refl _)) (Sub.appR2 hsub) : Sub (T9 ++ own) (T9 ++ own₀)) with ⟨hno, rfl, rfl⟩ | ⟨hno, rfl, hc9, a9, ta9, tb9, na9, rfl, hm9⟩
    all_goals (clear hp9)
    all_goals (have hq1 := hq.lo0; have hq2 := hq.le; have hq3 : q2 ≤ (S.p.W.size : Int) := hq.hi; have hq4 := hq.len; have hq5 := hq.lim; have hq6 := hq.ahead; have hq7 := hq.new; dsimp only at hq1 hq2 hq3 hq4 hq5 hq6 hq7)
    all_goals (have hq8 : S.p.se < q2 → S.ag.length = 0 := fun h => congrArg List.length (hq.ag0 h))
    all_goals (have hcs : d.size ≤ 1000 := by omega)
    all_goals (have hcut : KBy.picked S.hw (some q1) (some q2) = d := by rw [hhw, ← hdd])
    all_goals (try dsimp only)
    all_goals (try k_fold)))
  (k_with "my test" => (
    (with_reducible show wpAny _ _ (isTrue (Expr.BoolOp BoolOp.Or [_, _, _, _] _) _ _) _ _ _)
    (fail_if_success (with_reducible show wpAny _ _ _ (JoinF _ _ _ _ _ _) _ _))
    obtain ⟨nw, hnw⟩ : ∃ nw : Int, nw = if q2 - S.p.se > 0 then q2 - S.p.se else 0 := ⟨_, rfl⟩
    rename Fr _ _ _ _ => F9
    simp only [hdz2, ← hnw] at F9
    rw [max_is] at hnw
    refine cutF (by k_asm) (by k_asm) (fun b => b = false) ?cutA ?_
    (case cutA =>
     k_steps
     all_goals (first | exact joinF (by k_asm) (by k_asm) (by walk_at "sub") rfl | (exfalso; omega) | (exact absurd (by assumption : (d.toList != _) = true) (by rw [hcut]; simp))))
    rintro _ h8 tk8 F8 N8 rfl
    (try k_fold)))
  (k_with "my test" => (
    (with_reducible show wpAny _ _ (isTrue (Expr.BoolOp BoolOp.Or [_, _] _) _ _) _ _ _)
    (fail_if_success (with_reducible show wpAny _ _ _ (JoinF _ _ _ _ _ _) _ _))
    refine cutF (by k_asm) (by k_asm) (fun b => b = false) ?cutA ?_
    (case cutA =>
     cases hv
     all_goals k_steps
     all_goals (first | exact joinF (by k_asm) (by k_asm) (by walk_at "sub") rfl | (exfalso; omega) | (exfalso; have h7 := hq7 _ rfl; rcases hal.mn with h | ⟨k', h, h1, h2⟩ <;> cases h; omega)))
    rintro _ h8 tk8 F8 N8 rfl
    (try k_fold)))
  (k_with "my comp" => (
    refine' LCt.CompSrcT.range ?hh ?F ?N ?hr ?sm ?rn ?sz ?_
    (case hh => rfl)
    (case F => k_asm)
    (case N => k_asm)
    (case hr => assumption)
    (case rn => exact rangeSize_nat _ _)
    (case sm => exact small_one (by omega) (by omega) (by omega) (by omega))
    (case sz => (rw [PySem.sizeLine_eq]; omega))
    intro g'
    refine kci_range (fun l _ => l) (fun k' t' I' oI' C' oC' D' m' ys' l' h' tk' E' hk1 hk2 hI' hC' hx' F' N' off' ne' mk' => ?_) (fun ys hys _ => ?_) (fun l k => Nat.le_succ _)
    all_goals (first
      | (have hnil := nil_of_same hys; subst hnil; clear hys)
      | (have hin := hq.agm k' hk1 (by dsimp only; split at hk2 <;> omega); have off3 := off'; (try simp only [LCg.Off3, and_true] at off')))
    skip))
  (k_with "my ne" => (
    (with_reducible show wpAny _ _ (compareOp CmpOp.NotEq (Value.ref _) (Value.ref _)) _ _ _)
    rename News _ _ _ (_ :: _) => Nn
    refine ne_intsK (vs := []) (us := []) (ns := []) (ms := []) ⟨_, (Nn _ (List.Mem.tail _ (List.Mem.head _))).1, rfl, 0, rfl⟩ .nil ⟨_, (Nn _ (List.Mem.head _)).1, rfl, 0, rfl⟩ .nil (by ktr_units) ?_
    try dsimp only))
  (k_with "my cmp" => (
    (with_reducible show wpAny _ _ (isTrue (Expr.Compare (Expr.ListComp _ _ _ _) _ _ _) _ _) _ _ _)
    (fail_if_success (with_reducible show wpAny _ _ _ (JoinF _ _ _ _ _ _) _ _))
    refine cutF (by k_asm) (by k_asm) (fun b => b = false) ?cutA ?_
    (case cutA =>
     k_steps
     all_goals (first | exact joinF (by k_asm) (by k_asm) (by walk_at "sub") rfl | exact absurd (by assumption) (by assumption : ¬ (KeyP.inl _ : Key) ∈ S.ag) | exact LCg.CompEnd.intro (by k_asm) (by k_asm) _ (fun p hp => hp) (by assumption) trivial (kci_no rfl rfl)))
    rintro _ h8 tk8 F8 N8 rfl
    (try k_fold)))
  k_steps
  · have hm0 : most = 0 := by assumption
    have hno' : isNone S (q1, q2) := by rw [hee] at hno; exact hno
    subst hm0
    exact hret _ ([(ib, _), (b, _), (dx, _), (x, _), (fl, _), (kn, _), (ag, _), (hr, _)] ++ (T9 ++ own₀)) _ _ (by k_asm) (News.sub (by assumption) (by walk_at "sub")) (hRp _ T9 [(ib, _), (b, _), (dx, _), (x, _), (fl, _), (kn, _), (ag, _), (hr, _)] S hf.less (LawL.of vs8 ns8 n08 seed8 ts8 n18 k9 u1 u2 u3 u4 la9 lb9 fvs n2 _ _ oh tw hi8 hl8 hs08 hs18 hA hB hC hK hG hH) ⟨rfl, _, mn, hal, (step_none hqe hno').symm⟩)
  · have hm0 : most ≠ 0 := by assumption
    have hno' : isNone S (q1, q2) := by rw [hee] at hno; exact hno
    have hhs : hasToSend S.p mn = false := (hq.none hno').resolve_left hm0
    rw [hhs]
    exact hret _ ([(ib, _), (b, _), (dx, _), (x, _), (fl, _), (kn, _), (ag, _), (hr, _)] ++ (T9 ++ own₀)) _ _ (by k_asm) (News.sub (by assumption) (by walk_at "sub")) (hRp _ T9 [(ib, _), (b, _), (dx, _), (x, _), (fl, _), (kn, _), (ag, _), (hr, _)] S hf.less (LawL.of vs8 ns8 n08 seed8 ts8 n18 k9 u1 u2 u3 u4 la9 lb9 fvs n2 _ _ oh tw hi8 hl8 hs08 hs18 hA hB hC hK hG hH) ⟨rfl, _, mn, hal, (step_none hqe hno').symm⟩)
  rename News _ _ _ (_ :: _) => N₁
  rename Fr _ _ _ _ => F₁
  rename IsRange _ _ _ _ _ _ _ _ => hR₁
  rename Obj => oc2
  rename oc2.data = _ => hdc
  obtain ⟨R, hRd⟩ : ∃ R : Led, R = [(ib, listOf vs8.toArray n08), (b, listOf #[.ref ib, .int seed8 ts8] n18), (dx, dictOf (partEs w.params k9 (.int (nextPS S.p q1 q2 e).lim u1) (.str (nextPS S.p q1 q2 e).st.str u2) (.bytes (nextPS S.p q1 q2 e).W u3) (.int (nextPS S.p q1 q2 e).se u4) (.ref la9) (.ref lb9) (.bool (nextPS S.p q1 q2 e).fin) (.bool (nextPS S.p q1 q2 e).ow) (.bool (nextPS S.p q1 q2 e).ea)) 11), (x, instObj 199 dx), (fl, listOf fvs.toArray n2), (kn, ok), (hr, oh)] ++ (T9 ++ own₀) := ⟨_, rfl⟩
  have N₂ := News.sub (a := [(Lc + 1, oc2), (ag, oa)] ++ R) N₁ (by rw [hRd]; walk_at "sub")
  have offR : OwnOff R [Lc + 1, ag] := by
    rw [hRd]; exact offApp (Ords.cag ho0 hcell) (fun q hq z hz => off q hq z (by simp only [List.mem_cons, List.not_mem_nil, or_false] at hz ⊢; rcases hz with rfl | rfl <;> simp))
  have hncag : Lc + 1 ≠ ag := Nat.ne_of_gt (Nat.lt_succ_of_lt lc1.2.2.2.2.2.2.1)
  clear N₁
  refine loopR (news := [(Lc + 1, oc2), (ag, oa)] ++ R) (n := (q2 - q1).toNat) (fun i m nx => ∃ oa', nx = [(Lc + 1, oc2), (ag, oa')] ++ R ∧ DictK w oa' (delAll S.ag ((rowI q1 (q2 - q1).toNat).take i)) ∧ m (Str.ofString "here") = some (.ref hr) ∧ m (Str.ofString "part") = some (.ref x) ∧ m (Str.ofString "told") = some (.ref a9) ∧ m (Str.ofString "is_end") = some (.bool e) ∧ (∃ te, m (Str.ofString "end") = some (.int q2 te)) ∧ (∃ tw2, m (Str.ofString "written") = some (.bytes S.hw tw2))) rfl hR₁ (by omega) (by omega) (by omega) F₁ N₂ ?_ ?_ ?_
  · exact ⟨oa, rfl, hG, rfl, rfl, rfl, rfl, ⟨_, rfl⟩, ⟨_, rfl⟩⟩
  · rintro i t m₁ nx h tk own₁ hin off₁ ⟨oa', rfl, hg', hm1, hm2, hm3, hm4, ⟨te, hm5⟩, ⟨tw2, hm6⟩⟩ F₂ N₃
    clear N₂ F₁ hR₁
    have F₃ := frNames [(Str.ofString "here", .ref hr), (Str.ofString "part", .ref x), (Str.ofString "told", .ref a9), (Str.ofString "is_end", .bool e), (Str.ofString "end", .int q2 te), (Str.ofString "written", .bytes S.hw tw2)] F₂ (by intro p hp; simp only [List.mem_cons, List.not_mem_nil, or_false] at hp; rcases hp with rfl | rfl | rfl | rfl | rfl | rfl <;> assumption)
    clear F₂
    simp only [List.cons_append, List.nil_append] at N₃
    have offR1 : OwnOff (R ++ own₁) [Lc + 1, ag] := offLoop (a := ag) offR off₁ rfl
    have hl2 := len_delAll ((rowI q1 (q2 - q1).toNat).take i) S.ag
    k_steps
    refine dict_close (M3 := [(Lc + 1, oc2), (ag, oa')]) (M3' := [(Lc + 1, oc2), (ag, _)]) off₁ (by k_asm) (by k_asm) (by walk_at "sub") (by rfl) ?_
    exact ⟨_, rfl, by rw [delAll_take hin]; assumption, rfl, rfl, rfl, rfl, ⟨_, rfl⟩, ⟨_, rfl⟩⟩
  · rintro m₁ nx h tk ⟨oa', rfl, hg', hm1, hm2, hm3, hm4, ⟨te, hm5⟩, ⟨tw2, hm6⟩⟩ F₂ N₃
    clear N₂ F₁ hR₁
    have F₃ := frNames [(Str.ofString "here", .ref hr), (Str.ofString "part", .ref x), (Str.ofString "told", .ref a9), (Str.ofString "is_end", .bool e), (Str.ofString "end", .int q2 te), (Str.ofString "written", .bytes S.hw tw2)] F₂ (by intro p hp; simp only [List.mem_cons, List.not_mem_nil, or_false] at hp; rcases hp with rfl | rfl | rfl | rfl | rfl | rfl <;> assumption)
    clear F₂
    rw [List.take_of_length_le (Nat.le_of_eq (rowI_length _ _))] at hg'
    subst hRd
    dsimp only [List.cons_append, List.nil_append] at N₃ ⊢
    have hc9' : ChunkAt (T9 ++ own) (.ref a9) (q1, KBy.picked S.p.W (some q1) (some q2), e) := hdd ▸ hc9
    have hfin : e = true → S.p.fin = true ∧ q2 = (S.p.W.size : Int) := fun h => hq.fin (by rw [← hee]; exact h)
    have hwz : (S.hw.size : Int) = (S.p.W.size : Int) := by rw [hhw]
    have hno' : ¬ isNone S (q1, q2) := by rw [hee] at hno; exact hno
    have hst : chunkLS S q1 q2 e = stepChunk S most mn := by rw [step_some hqe hno', hee]
    have hCn : ChunksAt (T9 ++ own) (fvs ++ [.ref a9]) (chunkLS S q1 q2 e).fl := hC.append (.cons hc9' .nil)
    k_steps
    · have he : e = true := by assumption
      have hv9 : (q2 == (S.hw.size : Int)) = true := by rw [hwz]; exact beq_iff_eq.mpr (hfin he).2
      rw [hv9]
      rename News _ _ _ (_ :: _) => N₉
      (try simp only [List.push_toArray] at N₉)
      exact hret _ ([(ib, _), (b, _), (dx, _), (x, _), (fl, listOf (fvs ++ [Value.ref a9]).toArray _), (kn, _), (ag, _), (hr, _)] ++ (T9 ++ own₀)) _ _ (by k_asm) (News.sub N₉ (by walk_at "sub")) (hRp _ T9 [(ib, _), (b, _), (dx, _), (x, _), (fl, _), (kn, _), (ag, _), (hr, _)] (chunkLS S q1 q2 e) hf.less (LawL.of vs8 ns8 n08 seed8 ts8 n18 k9 u1 u2 u3 u4 la9 lb9 (fvs ++ [Value.ref a9]) _ _ _ oh tw hi8 hl8 hs08 hs18 hA hB hCn hK hg' hH) ⟨rfl, _, mn, hal, hst⟩)
    · have he : e = true := by assumption
      rw [show (nextPS S.p q1 q2 e).fin = true from (hfin he).1]
      rename News _ _ _ (_ :: _) => N₉
      (try simp only [List.push_toArray] at N₉)
      exact hret _ ([(ib, _), (b, _), (dx, _), (x, _), (fl, listOf (fvs ++ [Value.ref a9]).toArray _), (kn, _), (ag, _), (hr, _)] ++ (T9 ++ own₀)) _ _ (by k_asm) (News.sub N₉ (by walk_at "sub")) (hRp _ T9 [(ib, _), (b, _), (dx, _), (x, _), (fl, _), (kn, _), (ag, _), (hr, _)] (chunkLS S q1 q2 e) hf.less (LawL.of vs8 ns8 n08 seed8 ts8 n18 k9 u1 u2 u3 u4 la9 lb9 (fvs ++ [Value.ref a9]) _ _ _ oh tw hi8 hl8 hs08 hs18 hA hB hCn hK hg' hH) ⟨rfl, _, mn, hal, hst⟩)
    · have he : e = false := by assumption
      rw [show (!e) = true by rw [he]; rfl]
      rename News _ _ _ (_ :: _) => N₉
      (try simp only [List.push_toArray] at N₉)
      exact hret _ ([(ib, _), (b, _), (dx, _), (x, _), (fl, listOf (fvs ++ [Value.ref a9]).toArray _), (kn, _), (ag, _), (hr, _)] ++ (T9 ++ own₀)) _ _ (by k_asm) (News.sub N₉ (by walk_at "sub")) (hRp _ T9 [(ib, _), (b, _), (dx, _), (x, _), (fl, _), (kn, _), (ag, _), (hr, _)] (chunkLS S q1 q2 e) hf.less (LawL.of vs8 ns8 n08 seed8 ts8 n18 k9 u1 u2 u3 u4 la9 lb9 (fvs ++ [Value.ref a9]) _ _ _ oh tw hi8 hl8 hs08 hs18 hA hB hCn hK hg' hH) ⟨rfl, _, mn, hal, hst⟩)
section
variable {prog : Program} {w : World} {A : Around} {E : Value → Shared → Prop} {s : Shared} {h₀ : Heap} {L : Addr} {m : Str → Option Value} {news news' : Led}
theorem ne_nil {l b : Addr} {vs : List Value} {n k : Nat} {Q : Value → Shared → Prop} (N : News h₀ L s.heap news) (hl : (l, listOf vs.toArray n) ∈ news) (hb : (b, listOf #[] k) ∈ news) (hu : A.units < cLine)
    (h : Q (.bool (decide (vs ≠ []))) s) : wpAny (model prog w) A (compareOp .NotEq (.ref l) (.ref b)) Q E s := by
  have H1 : s.heap.IsList l vs.toArray := ⟨_, (N _ hl).1, rfl, n, rfl⟩
  have H2 : s.heap.IsList b #[] := ⟨_, (N _ hb).1, rfl, k, rfl⟩
  refine cmp_ofNotEq ?_
  cases vs with
  | nil => exact PySem.SeqAt.RcNeAt.lists (e := fun _ => true) H1 H2 rfl hu (fun j h1 => absurd h1 (by simp)) prog w E Q (by simpa using h)
  | cons v r => exact PySem.SeqAt.RcNeAt.lists_lengths H1 H2 (by simp) hu prog w E Q (by simpa using h)
theorem cut_is : ∀ {vs : List Value} {k : Nat} (h : k < vs.length), kl_cut vs k = some (vs.take k, vs[k], vs.drop (k + 1))
  | [], _, h => absurd h (Nat.not_lt_zero _)
  | _ :: _, 0, _ => by simp [kl_cut]
  | _ :: r, k + 1, h => by
    unfold kl_cut
    rw [cut_is (vs := r) (k := k) (by simpa using h)]
    simp
theorem pop_at {D : Addr} {i : Int} {u : Tok} {vs : List Value} {n : Nat} {Q : Value → Shared → Prop} (F : Fr h₀ L s.heap m) (N : News h₀ L s.heap news) (h0 : 0 ≤ i) (h1 : i < (vs.length : Int)) (hz : vs.length ≤ 1000)
    (U : Upd D (listOf vs.toArray n) (listOf (vs.eraseIdx i.toNat).toArray (n + 1)) news news')
    (h : ∀ v h', vs[i.toNat]? = some v → Fr h₀ L h' m → News h₀ L h' news' → Q v { s with heap := h' }) : wpAny (model prog w) A (call (.builtin "list.pop") [.ref D, .int i u]) Q E s := by
  obtain ⟨k, rfl⟩ := Int.eq_ofNat_of_zero_le h0
  have hk : k < vs.length := by omega
  have hU : Upd D (listOf vs.toArray n) (listOf (vs.take k ++ vs.drop (k + 1)).toArray (n + 1)) news news' := by
    rw [← List.eraseIdx_eq_take_drop_succ]; exact U
  refine kl_popAt (k := k) (p := vs.take k) (q := vs.drop (k + 1)) (y := vs[k]) F N ?_ ?_ (by simpa using cut_is hk) hU (by simpa [sizeLine_eq] using Nat.le_trans hz (by decide)) (fun h' F' N' => h _ h' (by simp [hk]) F' N')
  · unfold Builtin.List.listFitsIndex
    simp only [Bool.and_eq_true, decide_eq_true_eq]
    omega
  · unfold seqIndex?
    simp only [List.size_toArray]
    rw [if_neg (show ¬ ((k : Nat) : Int) < 0 by omega)]
    rw [if_pos (by simp; exact hk)]
    simp
end
/-! what a step may do -/
inductive StepTo (S : LS) : LS → Prop
  | write (d : Array UInt8) : S.p.fin = false → d.size ≤ 5 → StepTo S { S with p := { S.p with W := S.p.W ++ d }, hw := S.hw ++ d }
  | raise (l : Int) : 0 ≤ l → l < 30 → StepTo S { S with p := { S.p with lim := max S.p.lim l } }
  | finish : S.p.fin = false → StepTo S { S with p := { S.p with fin := true, ow := true } }
  | acked (i : Nat) (c : Int × Array UInt8 × Bool) : S.fl[i]? = some c → StepTo S (ackLS { S with fl := S.fl.eraseIdx i } c)
  | lost (i : Nat) (c : Int × Array UInt8 × Bool) : S.fl[i]? = some c → StepTo S (lostLS { S with fl := S.fl.eraseIdx i } c)
  | chunk (most : Int) (mn : Option Int) : Allowed false most mn → StepTo S (stepChunk S most mn)
structure AckOK (S : LS) (c : Int × Array UInt8 × Bool) : Prop where
  A' : (addSpan S.p.A c.1 (c.1 + c.2.1.size)).length ≤ 1000
  of : 0 ≤ c.1 ∧ c.1 ≤ 1000
  cs : c.2.1.size ≤ 1000
structure LostOK (S : LS) (c : Int × Array UInt8 × Bool) : Prop where
  st : S.p.st = .send ∨ S.p.st = .sent
  zw : ∀ i, (withoutSpans (if (c.2.1.size : Int) > 0 then [(c.1, c.1 + c.2.1.size)] else []) (S.p.A.take i)).length ≤ 1000
  zB : ∀ i, (addAll S.p.B ((lostSpans S.p c.1 c.2.1.size).take i)).length ≤ 1000
  of : 0 ≤ c.1 ∧ c.1 ≤ 1000
  cs : c.2.1.size ≤ 1000
structure Sizes (S : LS) : Prop where
  W : S.p.W.size ≤ 990
  A : S.p.A.length ≤ 1000
  B : S.p.B.length ≤ 1000
  kn : S.kn.length ≤ 1000
  ag : S.ag.length ≤ 1000
  fl : S.fl.length ≤ 900
structure StepOK (S : LS) : Prop where
  hw : S.hw = S.p.W
  z : Sizes S
  op : S.p.fin = false → S.p.st.isOpen = true
  ck : ∀ most mn, Allowed false most mn → ChunkOK S most mn (chunkSpan S.p most mn)
  ack : ∀ c ∈ S.fl, AckOK S c
  lost : ∀ c ∈ S.fl, LostOK S c
section
variable {prog : Program} {w : World} {A : Around} {h₀ : Heap} {L : Addr} {m : Str → Option Value} {env : Env} {elt : PySem.Expr} {x : Str} {scope : Scope} {cl : List (Str × Addr)} {s : Shared} {S : Led → Prop} {P : Nat → Value → Prop} {Fin : List Value → Led → Prop} {news : Led}
theorem comp_inv {n : Nat} (I : List Value → Led → Prop)
    (turn : ∀ i v a oI C oC D m₂ ys nx h tk (E' : Value → Shared → Prop), i < n → P i v → I ys nx → LCg.NsObj oC m₂ → m₂ x = some v → Fr h₀ L h m → News h₀ L h ((a, oI) :: (C, oC) :: (D, LCg.lst ys) :: nx) → LCg.Off3 a C D nx → ((@Ne Nat a C) ∧ (@Ne Nat a D) ∧ (@Ne Nat C D)) →
      wpAny (model prog w) A (eval elt (compEnvC scope cl C env)) (LCg.CompEnd h₀ L m { s with heap := h, toks := tk } a oI C oC D (LCg.lst ys) S (fun y news' => I (ys ++ [y]) news')) E' { s with heap := h, toks := tk })
    (h0 : I [] news) (fin : ∀ ys nx, ys.length = n → I ys nx → Fin ys nx) : LCg.CompRest prog w A h₀ L m env elt x scope cl s S P Fin n 0 [] news := by
  have key : ∀ (j i : Nat) (ys : List Value) (nx : Led), i + j = n → ys.length = i → I ys nx → LCg.CompRest prog w A h₀ L m env elt x scope cl s S P Fin j i ys nx := by
    intro j
    induction j with
    | zero => intro i ys nx hi hl hI; exact LCg.CompRest.zero (fin ys nx (by omega) hI)
    | succ j ih =>
      intro i ys nx hi hl hI
      refine LCg.CompRest.succ ?_
      intro v a oI C oC D m₂ h tk E' hv hC hx F N off ne
      refine wpAny_mono (turn i v a oI C oC D m₂ ys nx h tk E' (by omega) hv hI hC hx F N off ne) (fun y s₃ hr => ?_) fun _ _ e => e
      obtain ⟨h', tk', nw, e, F', N', off', hS, hI'⟩ := hr
      exact ⟨h', tk', nw, e, F', N', off', hS, ih (i + 1) _ nw (by omega) (by simp [hl]) hI'⟩
  exact key n 0 [] news (by omega) rfl h0
end
theorem off3_map {I C D : Addr} : ∀ {l l' : Led}, l.map (·.1) = l'.map (·.1) → LCg.Off3 I C D l → LCg.Off3 I C D l'
  | [], [], _, _ => trivial
  | [], _ :: _, e, _ => by simp at e
  | _ :: _, [], e, _ => by simp at e
  | p :: r, q :: r', e, h => by
    simp only [List.map_cons, List.cons.injEq] at e
    exact ⟨e.1 ▸ h.1, off3_map e.2 h.2⟩
theorem own_off_map {own own' : Led} {adr : List Addr} (e : own.map (·.1) = own'.map (·.1)) (h : OwnOff own' adr) : OwnOff own adr := fun p hp b hb => by
  have : p.1 ∈ own'.map (·.1) := by rw [← e]; exact List.mem_map.mpr ⟨p, hp, rfl⟩
  obtain ⟨q, hq, eq⟩ := List.mem_map.mp this
  exact eq ▸ h q hq b hb
theorem off_three {I C D ib b : Addr} {oi ob oI oC oD : Obj} {rest rest' : Led} (h : LCg.Off3 I C D ((ib, oi) :: (b, ob) :: rest')) (k : OwnOff rest [ib, b]) : OwnOff ((I, oI) :: (C, oC) :: (D, oD) :: rest) [ib, b] := by
  obtain ⟨⟨h1, h2, h3⟩, ⟨h4, h5, h6⟩, _⟩ := h
  refine offCons (fun z hz => ?_) (offCons (fun z hz => ?_) (offCons (fun z hz => ?_) k))
  all_goals (simp only [List.mem_cons, List.not_mem_nil, or_false] at hz; rcases hz with rfl | rfl)
  all_goals (exact Ne.symm (by assumption))
theorem stored_here (W W' : Array UInt8) (tw tw' : Tok) (fl kn ag : Nat) : stored (hereKvs W tw fl kn ag) (Str.ofString "written") (.bytes W' tw') = hereKvs W' tw' fl kn ag := by
  unfold stored hereKvs
  rw [if_pos (by simp [List.any_cons])]
  simp only [List.map_cons, List.map_nil, if_true]
  rw [if_neg (by decide), if_neg (by decide), if_neg (by decide)]
theorem FreshM.tail {T own₀ : Led} {q : Addr × Obj} {adr : List Nat} (h : FreshM T (q :: own₀) adr) : FreshM T own₀ adr := ⟨h.1.sub (Sub.consR (Sub.refl _)), h.2⟩
theorem is_blocked_law (w : World) (ib b dx x fl kn ag hr : Nat) (S : LS) (M own : Led) (tw' : Tok) (ho : Ords ib b dx x fl kn ag hr) (hP : LawL w ib b dx x fl kn ag hr S own M) (hhw : S.hw = S.p.W) (hz : S.p.W.size ≤ 1000) (hcl : S.p.st.isOpen = false → S.p.se = S.p.n) :
    LSpec w 3 40 248 [.ref x, .bytes S.hw tw'] ib b dx x fl kn ag hr M own (fun r S' _ => r = .bool true ∧ S' = S) := by
  k_with_none
  (k_with "call type:list" => (k_here; (with_reducible show wpAny _ _ (call (Value.type _) [Value.ref _]) _ _ _); k_dflt (refine' r_list ?nsF ?nsN ?nsm ?nsz ?_; (case nsF => k_asm); (case nsN => k_asm); (case nsm => k_mem); (case nsz => omega)); intro D' c' h' F' N' l1; (try k_lt l1); (try k_sweep)))
  (k_with "binaryOp Add ref ref" => (k_here; (with_reducible show wpAny _ _ (binaryOp _ (Value.ref _) (Value.ref _)) _ _ _); k_dflt (refine' r_cat ?nsF ?nsN ?nsm ?nsb ?nsz ?_; (case nsF => k_asm); (case nsN => k_asm); (case nsm => k_mem); (case nsb => k_mem); (case nsz => (simp only [List.length_cons, List.length_nil]; omega))); intro D' h' F' N' l1; (try k_lt l1); (try k_sweep)))
  (k_with "call builtin:list.append" => (k_here; (with_reducible show wpAny _ _ (call (Value.builtin _) [Value.ref _, _]) _ _ _); k_dflt (refine' r_append ?nsF ?nsN ?nsU ?nsz ?_; (case nsF => k_asm); (case nsN => k_asm); (case nsU => k_upd); (case nsz => (simp only [List.length_append, List.length_cons, List.length_nil]; omega))); intro h' F' N'; (try k_sweep)))
  (k_with "exec For Tuple Name cons nil" => (k_here; (rename Fr _ _ _ _ => lF'); (with_unfolding_all refine' For_turns lF' ?_); (try k_fold)))
  (k_with "sub" => (repeat' (first | (with_reducible exact Sub.refl _) | (with_reducible exact Sub.nil) | (with_reducible assumption) | ((with_reducible show Sub (_ :: _) _); refine Sub.consL (by k_mem) ?_) | (with_reducible refine Sub.appL ?_ ?_) | (with_reducible exact Sub.appR1 (Sub.refl _)) | (with_reducible exact Sub.appR2 (Sub.refl _)) | (with_reducible exact Sub.appR1 (Sub.appR1 (Sub.refl _))) | (with_reducible exact Sub.appR1 (Sub.appR2 (Sub.refl _))) | (with_reducible refine Sub.consR ?_) | (with_reducible refine Sub.appR2 ?_))))
  (k_with "call builtin:list.pop" => (k_here; (with_reducible show wpAny _ _ (call (Value.builtin _) [Value.ref _, Value.int _ _]) _ _ _); k_dflt (refine' pop0 ?nsF ?nsN ?nsU ?nsz ?_; (case nsF => k_asm); (case nsN => k_asm); (case nsU => k_upd); (case nsz => omega)); (intro h' F' N')))
  (k_with "call builtin:len" => (k_here; (with_reducible show wpAny _ _ (call (Value.builtin "len") [Value.ref _]) _ _ _); k_dflt (refine' r_len ?nsF ?nsN ?nsm ?nse ?nsz ?_; (case nsF => k_asm); (case nsN => k_asm); (case nsm => k_mem); (case nse => first | exact rfl | assumption | (simp only [List.length_cons, List.length_nil]; exact rfl)); (case nsz => ((try simp only [List.length_cons, List.length_nil, List.length_append, List.length_map]); omega))); (try simp only [List.length_cons, List.length_nil])))
  (k_with "subscriptTail" => (k_here; (with_reducible show wpAny _ _ (subscriptTail _ _ (Value.ref _) (Value.int _ _)) _ _ _); (with_unfolding_all refine' r_item ?nsN ?nsm ?nsh0 ?nshi ?nshx ?_ ?nshs; (case nsN => k_asm); (case nsm => k_mem); (case nsh0 => decide); (case nshi => decide); (case nshx => rfl); (case nshs => with_unfolding_all rfl); k_whole)))
  (k_with "compareOp In str ref" => (k_here; (with_reducible show wpAny _ _ (compareOp _ (Value.str _ _) (Value.ref _)) _ _ _); (first | (with_unfolding_all refine' r_instr true ?nsht ?nshi ?nshb ?_; (case nsht => first | exact News.isTup (by k_asm) (by k_mem) | exact kun_topT (by k_asm) (by k_asm) (by k_is)); (case nshi => kde_strs); (case nshb => decide)) | (with_unfolding_all refine' r_instr false ?nsht ?nshi ?nshb ?_; (case nsht => first | exact News.isTup (by k_asm) (by k_mem) | exact kun_topT (by k_asm) (by k_asm) (by k_is)); (case nshi => kde_strs); (case nshb => decide)) | (with_unfolding_all refine' r_instr _ ?nsht ?nshi ?nshb ?_; (case nsht => first | exact News.isTup (by k_asm) (by k_mem) | exact kun_topT (by k_asm) (by k_asm) (by k_is)); (case nshi => kde_strs); (case nshb => walk_at "st in")))))
  (k_with "compareOp NotIn str ref" => (k_here; (with_reducible show wpAny _ _ (compareOp _ (Value.str _ _) (Value.ref _)) _ _ _); (first | (with_unfolding_all refine' r_notinstr true ?nsht ?nshi ?nshb ?_; (case nsht => first | exact News.isTup (by k_asm) (by k_mem) | exact kun_topT (by k_asm) (by k_asm) (by k_is)); (case nshi => kde_strs); (case nshb => decide)) | (with_unfolding_all refine' r_notinstr false ?nsht ?nshi ?nshb ?_; (case nsht => first | exact News.isTup (by k_asm) (by k_mem) | exact kun_topT (by k_asm) (by k_asm) (by k_is)); (case nshi => kde_strs); (case nshb => decide)) | (with_unfolding_all refine' r_notinstr _ ?nsht ?nshi ?nshb ?_; (case nsht => first | exact News.isTup (by k_asm) (by k_mem) | exact kun_topT (by k_asm) (by k_asm) (by k_is)); (case nshi => kde_strs); (case nshb => walk_at "st in")))))
  (k_with "exec If" => k_dflt (k_extra "my if"))
  (k_with "eval BoolOp" => k_dflt (k_extra "my bool"))
  (k_with "eval IfExp" => k_dflt (k_extra "my ifexp"))
  (k_with "isTrue BoolOp" => k_dflt (k_extra "my test"))
  (k_with "call ref" => k_dflt (k_extra "my call"))
  (k_with "subscriptTail" => (k_here; (with_reducible show wpAny _ _ (subscriptTail _ (Expr.Slice _ _ none _) (Value.bytes _ _) (Value.ref _)) _ _ _); (with_reducible rename Fr _ _ _ _ => F'); (with_reducible rename News _ _ _ _ => N'); k_dflt (refine r_bslice (s := ⟨_, _, _, _, _⟩) F' N' (by constructor) (by constructor) (by omega) ?_); intro _ _ _ _ _))
  (k_with "call type:bytes" => (k_here; (with_reducible show wpAny _ _ (call (Value.type "bytes") [Value.bytes _ _]) _ _ _); refine call_bytes_bytes ?_))
  (k_with "newTuple" => (k_here; k_dflt (refine' r_newTuple ?nsF ?nsN ?nsz ?_; (case nsF => k_asm); (case nsN => k_asm); (case nsz => exact Nat.le_of_ble_eq_true rfl)); intro D' h' F' N' l1; (have l0 := l1); (try k_lt l1); (try k_sweep)))
  (k_with "newList" => (k_here; k_dflt (refine' r_newList ?nsF ?nsN ?nsz ?_; (case nsF => k_asm); (case nsN => k_asm); (case nsz => exact Nat.le_of_ble_eq_true rfl)); intro D' h' F' N' l1; (have l0 := l1); (try k_lt l1); (try k_sweep)))
  (k_with "binaryOp Add bytes bytes" => (k_here; (with_reducible show wpAny _ _ (binaryOp _ (Value.bytes _ _) (Value.bytes _ _)) _ _ _); refine r_badd (by omega) ?_; intro _ _))
  (k_with "exec For Tuple Call cons nil" => (k_here; (rename Fr _ _ _ _ => lF'); (with_unfolding_all refine' For_turns lF' ?_); (try k_fold)))
  (k_with "st in" => first | exact congrArg not (st_in _) | exact congrArg not (st_lost _) | exact st_in _ | exact st_lost _)
  (k_with "lt" => (intro b hb; (simp only [List.mem_cons, List.not_mem_nil, or_false] at hb); rcases hb with rfl | rfl <;> omega))
  (k_with "apart" => ((try simp only [List.cons_append, List.nil_append]); (repeat' (first | exact offNil | (refine offCons (by k_all) ?_)))))
  (k_with "subscriptTail Name Constant ref str" => (k_here; (with_reducible show wpAny _ _ (subscriptTail _ _ (Value.ref _) (Value.str _ _)) _ _ _); k_dflt (refine' kda_item (knd := PySem.strKind PySem.Challenge.rw_no0075_01.row.prog _) ?nsN ?nsm ?nsd ?nsk ?nsl ?_ ?nshs ?nshg; (case nsN => k_asm); (case nsm => with_reducible k_mem); (case nsd => with_reducible assumption); (case nsk => exact strKind_is _ _ _ _); (case nsl => first | exact (rfl : _ = some (Value.ref _)) | exact (rfl : _ = some (Value.bytes _ _))); (case nshs => with_unfolding_all rfl); (case nshg => (intro _; with_unfolding_all rfl)); k_whole)))
  (k_with "setItem ref int" => (k_here; (with_reducible show wpAny _ _ (setItem (Value.ref _) (Value.int _ _) (Value.bool true)) _ _ _); k_dflt (refine' dk_set (k := KeyP.inl _) ?nsF ?nsN ?nsU ?nsd ?nsk ?nsz ?_; (case nsF => k_asm); (case nsN => k_asm); (case nsU => k_updF); (case nsd => with_reducible assumption); (case nsk => exact mix_int _ _); (case nsz => omega)); (intro h' o' F' N' hd'); (try k_sweep)))
  (k_with "setItem ref str" => (k_here; (with_reducible show wpAny _ _ (setItem (Value.ref _) (Value.str _ _) (Value.bool true)) _ _ _); k_dflt (refine' dk_set (k := KeyP.inr _) ?nsF ?nsN ?nsU ?nsd ?nsk ?nsz ?_; (case nsF => k_asm); (case nsN => k_asm); (case nsU => k_updF); (case nsd => with_reducible assumption); (case nsk => exact mix_str _ _); (case nsz => omega)); (intro h' o' F' N' hd'); (try k_sweep)))
  (k_with "getMethod ref" => (k_here; (with_reducible show wpAny _ _ (getMethod (Value.ref _) (PySem.Str.ofString "pop") _) _ _ _); k_dflt (refine' dk_popm ?nsN ?nsm ?nsd ?_; (case nsN => k_asm); (case nsm => with_reducible k_mem); (case nsd => with_reducible assumption))))
  (k_with "call builtin:dict.pop" => (k_here; (with_reducible show wpAny _ _ (call (Value.builtin _) [Value.ref _, Value.int _ _, Value.none]) _ _ _); k_dflt (refine' dk_pop ?nsF ?nsN ?nsU ?nsd ?nslo ?nsz ?_; (case nsF => k_asm); (case nsN => k_asm); (case nsU => k_updF); (case nsd => with_reducible assumption); (case nslo => assumption); (case nsz => omega)); (intro h' o' r' F' N' hd'); (try k_sweep)))
  (k_with "compareOp NotIn int ref" => (k_here; (with_reducible show wpAny _ _ (compareOp _ (Value.int _ _) (Value.ref _)) _ _ _); k_dflt (refine' dk_notin (k := KeyP.inl _) ?nsN ?nsm ?nsd ?nslo ?nsk ?_; (case nsN => k_asm); (case nsm => with_reducible k_mem); (case nsd => with_reducible assumption); (case nslo => assumption); (case nsk => exact mix_int _ _))))
  (k_with "compareOp In str ref" => (k_here; (with_reducible show wpAny _ _ (compareOp _ (Value.str _ _) (Value.ref _)) _ _ _); k_dflt (refine' dk_in (k := KeyP.inr _) ?nsN ?nsm ?nsd ?nslo ?nsk ?_; (case nsN => k_asm); (case nsm => with_reducible k_mem); (case nsd => with_reducible assumption); (case nslo => assumption); (case nsk => exact mix_str _ _))))
  (k_with "call builtin:len" => (k_here; (with_reducible show wpAny _ _ (call (Value.builtin "len") [Value.ref _]) _ _ _); k_dflt (refine' dk_len ?nsN ?nsm ?nsd ?nslo ?nsz ?_; (case nsN => k_asm); (case nsm => with_reducible k_mem); (case nsd => with_reducible assumption); (case nslo => assumption); (case nsz => omega))))
  (k_with "exec For Name Call cons nil" => (k_here; (rename Fr _ _ _ _ => lF'); (with_unfolding_all refine' For_turns lF' ?_); (try k_fold)))
  (k_with "call type:range" => (k_here; (with_reducible show wpAny _ _ (call _ [_, _]) _ _ _); k_dflt (refine' range2_rows ?nsF ?nsN ?_; (case nsF => k_asm); (case nsN => k_asm)); (intro h' tk' t1' t2' t3' hR' F' N' hk'; clear hk'); (try k_sweep)))
  have ho0 := ho
  refine LawL.elim hP ?_
  clear hP
  intro vs ns n0 seed ts n1 k t1 t2 t3 t4 la lb fvs n2 ok oa oh tw hi hl40 hs0 hs1 hA hB hC hK hG hH
  obtain ⟨⟨o1, o2, o3, o4, o5, o6, o7⟩, lok, loa, loh⟩ := ho
  refine LSpec.start ?_
  intro own₀ hsub hoff Rp hRp
  unfold Spec
  k_fill
  intro mean mg mb dp un gd cn cs a ccd cl outer A₀ base h₀ L m s Q E B F X N T hk hd hu hret
  dsimp only [List.cons_append, List.nil_append] at N
  replace N : News h₀ L s.heap (_ :: _ :: _ :: _ :: _ :: _ :: _ :: _ :: (([] : Led) ++ own₀)) := N
  have hf : FreshM [] own₀ [ib, b, dx, x, fl, kn, ag, hr] := FreshM.nil
  have off : OwnOff ([] ++ own₀) [ib, b, dx, x, fl, kn, ag, hr] := hoff
  replace hA : SpansAt ([] ++ own) (.ref la) S.p.A := hA
  replace hB : SpansAt ([] ++ own) (.ref lb) S.p.B := hB
  replace hC : ChunksAt ([] ++ own) fvs S.fl := hC
  refine wpAny_call ?_
  k_dflt cell_enter
  have hhz : S.hw.size ≤ 1000 := by rw [hhw]; exact hz
  have hwz : (S.hw.size : Int) = (S.p.W.size : Int) := by rw [hhw]
  have hpn : S.p.n = (S.p.W.size : Int) := rfl
  (k_with "my call" => (
    (try dsimp only [List.cons_append, List.nil_append])
    (with_reducible show wpAny _ _ (call (Value.ref 140) [Value.ref _]) _ _ _)
    refine' RSpec.useL (M := [(ib, _), (b, _), (dx, _), (x, _), (fl, _), (kn, _), (ag, _), (hr, _)]) (M2 := [(dx, _), (x, _)]) (own₀ := own₀) (adr := [ib, b, dx, x, fl, kn, ag, hr]) (blocked_spec _ _ _ _ _ _ (PartL.of k t1 t2 t3 t4 la lb hA hB) hz) ?h2 rfl hsub ?hf ?off ?B ?F ?X ?N ?T ?hk ?hd ?hu ?hn ?_
    (case hf => assumption)
    (case off => assumption)
    (case B => k_asm)
    (case F => k_asm)
    (case X => k_asm)
    (case N => k_asm)
    (case T => k_asm)
    (case hk => exact rfl)
    (case hd => ktr_room)
    (case hu => ktr_units)
    (case hn => walk_at "sub")
    (case h2 => walk_at "sub")
    rintro r9 T9 h9 tk9 F9 N9 hf9 off9 hs9 hr9
    dsimp only [List.cons_append, List.nil_append] at N9
    replace hA := hA.mono hs9
    replace hB := hB.mono hs9
    replace hC := hC.mono hs9
    clear hf off hs9
    have hf := hf9
    have off := off9
    clear hf9 off9
    have hr9' : (S.p.st.isOpen = true ∧ S.p.lim ≤ S.p.se ∧ S.p.se < S.p.n ∧ ∃ t, r9 = .int S.p.lim t) ∨ ((S.p.lim ≤ S.p.se → ¬ S.p.se < S.p.n) ∧ r9 = .none) := by
      by_cases hc : S.p.st.isOpen = true ∧ S.p.lim ≤ S.p.se ∧ S.p.se < S.p.n
      · rw [if_pos hc] at hr9; exact .inl ⟨hc.1, hc.2.1, hc.2.2, hr9⟩
      · rw [if_neg hc] at hr9
        refine .inr ⟨fun h1 h2 => ?_, hr9⟩
        cases ho9 : S.p.st.isOpen with
        | true => exact hc ⟨ho9, h1, h2⟩
        | false => have := hcl ho9; omega
    clear hr9
    rcases hr9' with ⟨hr1, hr2, hr3, ⟨tr, rfl⟩⟩ | ⟨hr1, rfl⟩
    all_goals (try dsimp only)
    all_goals (try k_fold)))
  k_steps
  all_goals (first | (exfalso; omega) | skip)
  all_goals exact hret _ ([(ib, _), (b, _), (dx, _), (x, _), (fl, _), (kn, _), (ag, _), (hr, _)] ++ (T9 ++ own₀)) _ _ (by k_asm) (News.sub (by assumption) (by walk_at "sub")) (hRp _ T9 [(ib, _), (b, _), (dx, _), (x, _), (fl, _), (kn, _), (ag, _), (hr, _)] S hf (LawL.of vs ns n0 seed ts n1 k t1 t2 t3 t4 la lb fvs n2 _ _ oh tw hi hl40 hs0 hs1 hA hB hC hK hG hH) ⟨(by first | rfl | (simp)), rfl⟩)
theorem is_all_law (w : World) (ib b dx x fl kn ag hr : Nat) (S : LS) (M own : Led)(ho : Ords ib b dx x fl kn ag hr) (hP : LawL w ib b dx x fl kn ag hr S own M) (hz : S.hw.size ≤ 1000) (hzk : S.kn.length ≤ 1000) :
    LSpec w 3 40 255 [.ref hr] ib b dx x fl kn ag hr M own (fun r S' _ => r = .bool (decide ((KeyP.inr END : Key) ∈ S.kn ∧ (S.kn.length : Int) = (S.hw.size : Int) + 1)) ∧ S' = S) := by
  k_with_none
  (k_with "call type:list" => (k_here; (with_reducible show wpAny _ _ (call (Value.type _) [Value.ref _]) _ _ _); k_dflt (refine' r_list ?nsF ?nsN ?nsm ?nsz ?_; (case nsF => k_asm); (case nsN => k_asm); (case nsm => k_mem); (case nsz => omega)); intro D' c' h' F' N' l1; (try k_lt l1); (try k_sweep)))
  (k_with "binaryOp Add ref ref" => (k_here; (with_reducible show wpAny _ _ (binaryOp _ (Value.ref _) (Value.ref _)) _ _ _); k_dflt (refine' r_cat ?nsF ?nsN ?nsm ?nsb ?nsz ?_; (case nsF => k_asm); (case nsN => k_asm); (case nsm => k_mem); (case nsb => k_mem); (case nsz => (simp only [List.length_cons, List.length_nil]; omega))); intro D' h' F' N' l1; (try k_lt l1); (try k_sweep)))
  (k_with "call builtin:list.append" => (k_here; (with_reducible show wpAny _ _ (call (Value.builtin _) [Value.ref _, _]) _ _ _); k_dflt (refine' r_append ?nsF ?nsN ?nsU ?nsz ?_; (case nsF => k_asm); (case nsN => k_asm); (case nsU => k_upd); (case nsz => (simp only [List.length_append, List.length_cons, List.length_nil]; omega))); intro h' F' N'; (try k_sweep)))
  (k_with "exec For Tuple Name cons nil" => (k_here; (rename Fr _ _ _ _ => lF'); (with_unfolding_all refine' For_turns lF' ?_); (try k_fold)))
  (k_with "sub" => (repeat' (first | (with_reducible exact Sub.refl _) | (with_reducible exact Sub.nil) | (with_reducible assumption) | ((with_reducible show Sub (_ :: _) _); refine Sub.consL (by k_mem) ?_) | (with_reducible refine Sub.appL ?_ ?_) | (with_reducible exact Sub.appR1 (Sub.refl _)) | (with_reducible exact Sub.appR2 (Sub.refl _)) | (with_reducible exact Sub.appR1 (Sub.appR1 (Sub.refl _))) | (with_reducible exact Sub.appR1 (Sub.appR2 (Sub.refl _))) | (with_reducible refine Sub.consR ?_) | (with_reducible refine Sub.appR2 ?_))))
  (k_with "call builtin:list.pop" => (k_here; (with_reducible show wpAny _ _ (call (Value.builtin _) [Value.ref _, Value.int _ _]) _ _ _); k_dflt (refine' pop0 ?nsF ?nsN ?nsU ?nsz ?_; (case nsF => k_asm); (case nsN => k_asm); (case nsU => k_upd); (case nsz => omega)); (intro h' F' N')))
  (k_with "call builtin:len" => (k_here; (with_reducible show wpAny _ _ (call (Value.builtin "len") [Value.ref _]) _ _ _); k_dflt (refine' r_len ?nsF ?nsN ?nsm ?nse ?nsz ?_; (case nsF => k_asm); (case nsN => k_asm); (case nsm => k_mem); (case nse => first | exact rfl | assumption | (simp only [List.length_cons, List.length_nil]; exact rfl)); (case nsz => ((try simp only [List.length_cons, List.length_nil, List.length_append, List.length_map]); omega))); (try simp only [List.length_cons, List.length_nil])))
  (k_with "subscriptTail" => (k_here; (with_reducible show wpAny _ _ (subscriptTail _ _ (Value.ref _) (Value.int _ _)) _ _ _); (with_unfolding_all refine' r_item ?nsN ?nsm ?nsh0 ?nshi ?nshx ?_ ?nshs; (case nsN => k_asm); (case nsm => k_mem); (case nsh0 => decide); (case nshi => decide); (case nshx => rfl); (case nshs => with_unfolding_all rfl); k_whole)))
  (k_with "compareOp In str ref" => (k_here; (with_reducible show wpAny _ _ (compareOp _ (Value.str _ _) (Value.ref _)) _ _ _); (first | (with_unfolding_all refine' r_instr true ?nsht ?nshi ?nshb ?_; (case nsht => first | exact News.isTup (by k_asm) (by k_mem) | exact kun_topT (by k_asm) (by k_asm) (by k_is)); (case nshi => kde_strs); (case nshb => decide)) | (with_unfolding_all refine' r_instr false ?nsht ?nshi ?nshb ?_; (case nsht => first | exact News.isTup (by k_asm) (by k_mem) | exact kun_topT (by k_asm) (by k_asm) (by k_is)); (case nshi => kde_strs); (case nshb => decide)) | (with_unfolding_all refine' r_instr _ ?nsht ?nshi ?nshb ?_; (case nsht => first | exact News.isTup (by k_asm) (by k_mem) | exact kun_topT (by k_asm) (by k_asm) (by k_is)); (case nshi => kde_strs); (case nshb => walk_at "st in")))))
  (k_with "compareOp NotIn str ref" => (k_here; (with_reducible show wpAny _ _ (compareOp _ (Value.str _ _) (Value.ref _)) _ _ _); (first | (with_unfolding_all refine' r_notinstr true ?nsht ?nshi ?nshb ?_; (case nsht => first | exact News.isTup (by k_asm) (by k_mem) | exact kun_topT (by k_asm) (by k_asm) (by k_is)); (case nshi => kde_strs); (case nshb => decide)) | (with_unfolding_all refine' r_notinstr false ?nsht ?nshi ?nshb ?_; (case nsht => first | exact News.isTup (by k_asm) (by k_mem) | exact kun_topT (by k_asm) (by k_asm) (by k_is)); (case nshi => kde_strs); (case nshb => decide)) | (with_unfolding_all refine' r_notinstr _ ?nsht ?nshi ?nshb ?_; (case nsht => first | exact News.isTup (by k_asm) (by k_mem) | exact kun_topT (by k_asm) (by k_asm) (by k_is)); (case nshi => kde_strs); (case nshb => walk_at "st in")))))
  (k_with "exec If" => k_dflt (k_extra "my if"))
  (k_with "eval BoolOp" => k_dflt (k_extra "my bool"))
  (k_with "eval IfExp" => k_dflt (k_extra "my ifexp"))
  (k_with "isTrue BoolOp" => k_dflt (k_extra "my test"))
  (k_with "call ref" => k_dflt (k_extra "my call"))
  (k_with "subscriptTail" => (k_here; (with_reducible show wpAny _ _ (subscriptTail _ (Expr.Slice _ _ none _) (Value.bytes _ _) (Value.ref _)) _ _ _); (with_reducible rename Fr _ _ _ _ => F'); (with_reducible rename News _ _ _ _ => N'); k_dflt (refine r_bslice (s := ⟨_, _, _, _, _⟩) F' N' (by constructor) (by constructor) (by omega) ?_); intro _ _ _ _ _))
  (k_with "call type:bytes" => (k_here; (with_reducible show wpAny _ _ (call (Value.type "bytes") [Value.bytes _ _]) _ _ _); refine call_bytes_bytes ?_))
  (k_with "newTuple" => (k_here; k_dflt (refine' r_newTuple ?nsF ?nsN ?nsz ?_; (case nsF => k_asm); (case nsN => k_asm); (case nsz => exact Nat.le_of_ble_eq_true rfl)); intro D' h' F' N' l1; (have l0 := l1); (try k_lt l1); (try k_sweep)))
  (k_with "newList" => (k_here; k_dflt (refine' r_newList ?nsF ?nsN ?nsz ?_; (case nsF => k_asm); (case nsN => k_asm); (case nsz => exact Nat.le_of_ble_eq_true rfl)); intro D' h' F' N' l1; (have l0 := l1); (try k_lt l1); (try k_sweep)))
  (k_with "binaryOp Add bytes bytes" => (k_here; (with_reducible show wpAny _ _ (binaryOp _ (Value.bytes _ _) (Value.bytes _ _)) _ _ _); refine r_badd (by omega) ?_; intro _ _))
  (k_with "exec For Tuple Call cons nil" => (k_here; (rename Fr _ _ _ _ => lF'); (with_unfolding_all refine' For_turns lF' ?_); (try k_fold)))
  (k_with "st in" => first | exact congrArg not (st_in _) | exact congrArg not (st_lost _) | exact st_in _ | exact st_lost _)
  (k_with "lt" => (intro b hb; (simp only [List.mem_cons, List.not_mem_nil, or_false] at hb); rcases hb with rfl | rfl <;> omega))
  (k_with "apart" => ((try simp only [List.cons_append, List.nil_append]); (repeat' (first | exact offNil | (refine offCons (by k_all) ?_)))))
  (k_with "subscriptTail Name Constant ref str" => (k_here; (with_reducible show wpAny _ _ (subscriptTail _ _ (Value.ref _) (Value.str _ _)) _ _ _); k_dflt (refine' kda_item (knd := PySem.strKind PySem.Challenge.rw_no0075_01.row.prog _) ?nsN ?nsm ?nsd ?nsk ?nsl ?_ ?nshs ?nshg; (case nsN => k_asm); (case nsm => with_reducible k_mem); (case nsd => with_reducible assumption); (case nsk => exact strKind_is _ _ _ _); (case nsl => first | exact (rfl : _ = some (Value.ref _)) | exact (rfl : _ = some (Value.bytes _ _))); (case nshs => with_unfolding_all rfl); (case nshg => (intro _; with_unfolding_all rfl)); k_whole)))
  (k_with "setItem ref int" => (k_here; (with_reducible show wpAny _ _ (setItem (Value.ref _) (Value.int _ _) (Value.bool true)) _ _ _); k_dflt (refine' dk_set (k := KeyP.inl _) ?nsF ?nsN ?nsU ?nsd ?nsk ?nsz ?_; (case nsF => k_asm); (case nsN => k_asm); (case nsU => k_updF); (case nsd => with_reducible assumption); (case nsk => exact mix_int _ _); (case nsz => omega)); (intro h' o' F' N' hd'); (try k_sweep)))
  (k_with "setItem ref str" => (k_here; (with_reducible show wpAny _ _ (setItem (Value.ref _) (Value.str _ _) (Value.bool true)) _ _ _); k_dflt (refine' dk_set (k := KeyP.inr _) ?nsF ?nsN ?nsU ?nsd ?nsk ?nsz ?_; (case nsF => k_asm); (case nsN => k_asm); (case nsU => k_updF); (case nsd => with_reducible assumption); (case nsk => exact mix_str _ _); (case nsz => omega)); (intro h' o' F' N' hd'); (try k_sweep)))
  (k_with "getMethod ref" => (k_here; (with_reducible show wpAny _ _ (getMethod (Value.ref _) (PySem.Str.ofString "pop") _) _ _ _); k_dflt (refine' dk_popm ?nsN ?nsm ?nsd ?_; (case nsN => k_asm); (case nsm => with_reducible k_mem); (case nsd => with_reducible assumption))))
  (k_with "call builtin:dict.pop" => (k_here; (with_reducible show wpAny _ _ (call (Value.builtin _) [Value.ref _, Value.int _ _, Value.none]) _ _ _); k_dflt (refine' dk_pop ?nsF ?nsN ?nsU ?nsd ?nslo ?nsz ?_; (case nsF => k_asm); (case nsN => k_asm); (case nsU => k_updF); (case nsd => with_reducible assumption); (case nslo => assumption); (case nsz => omega)); (intro h' o' r' F' N' hd'); (try k_sweep)))
  (k_with "compareOp NotIn int ref" => (k_here; (with_reducible show wpAny _ _ (compareOp _ (Value.int _ _) (Value.ref _)) _ _ _); k_dflt (refine' dk_notin (k := KeyP.inl _) ?nsN ?nsm ?nsd ?nslo ?nsk ?_; (case nsN => k_asm); (case nsm => with_reducible k_mem); (case nsd => with_reducible assumption); (case nslo => assumption); (case nsk => exact mix_int _ _))))
  (k_with "compareOp In str ref" => (k_here; (with_reducible show wpAny _ _ (compareOp _ (Value.str _ _) (Value.ref _)) _ _ _); k_dflt (refine' dk_in (k := KeyP.inr _) ?nsN ?nsm ?nsd ?nslo ?nsk ?_; (case nsN => k_asm); (case nsm => with_reducible k_mem); (case nsd => with_reducible assumption); (case nslo => assumption); (case nsk => exact mix_str _ _))))
  (k_with "call builtin:len" => (k_here; (with_reducible show wpAny _ _ (call (Value.builtin "len") [Value.ref _]) _ _ _); k_dflt (refine' dk_len ?nsN ?nsm ?nsd ?nslo ?nsz ?_; (case nsN => k_asm); (case nsm => with_reducible k_mem); (case nsd => with_reducible assumption); (case nslo => assumption); (case nsz => omega))))
  (k_with "exec For Name Call cons nil" => (k_here; (rename Fr _ _ _ _ => lF'); (with_unfolding_all refine' For_turns lF' ?_); (try k_fold)))
  (k_with "call type:range" => (k_here; (with_reducible show wpAny _ _ (call _ [_, _]) _ _ _); k_dflt (refine' range2_rows ?nsF ?nsN ?_; (case nsF => k_asm); (case nsN => k_asm)); (intro h' tk' t1' t2' t3' hR' F' N' hk'; clear hk'); (try k_sweep)))
  have ho0 := ho
  refine LawL.elim hP ?_
  clear hP
  intro vs ns n0 seed ts n1 k t1 t2 t3 t4 la lb fvs n2 ok oa oh tw hi hl40 hs0 hs1 hA hB hC hK hG hH
  obtain ⟨⟨o1, o2, o3, o4, o5, o6, o7⟩, lok, loa, loh⟩ := ho
  refine LSpec.start ?_
  intro own₀ hsub hoff Rp hRp
  unfold Spec
  k_fill
  intro mean mg mb dp un gd cn cs a ccd cl outer A₀ base h₀ L m s Q E B F X N T hk hd hu hret
  dsimp only [List.cons_append, List.nil_append] at N
  replace N : News h₀ L s.heap (_ :: _ :: _ :: _ :: _ :: _ :: _ :: _ :: (([] : Led) ++ own₀)) := N
  have hf : FreshM [] own₀ [ib, b, dx, x, fl, kn, ag, hr] := FreshM.nil
  have off : OwnOff ([] ++ own₀) [ib, b, dx, x, fl, kn, ag, hr] := hoff
  replace hA : SpansAt ([] ++ own) (.ref la) S.p.A := hA
  replace hB : SpansAt ([] ++ own) (.ref lb) S.p.B := hB
  replace hC : ChunksAt ([] ++ own) fvs S.fl := hC
  refine wpAny_call ?_
  k_dflt cell_enter
  k_steps
  · have hm : (KeyP.inr END : Key) ∈ S.kn := by assumption
    have e9 : ((S.kn.length : Int) == (S.hw.size : Int) + 1) = decide ((KeyP.inr END : Key) ∈ S.kn ∧ (S.kn.length : Int) = (S.hw.size : Int) + 1) := by
      rw [Bool.eq_iff_iff, decide_eq_true_eq, beq_iff_eq]
      exact ⟨fun h => ⟨hm, h⟩, fun h => h.2⟩
    rw [e9]
    exact hret _ ([(ib, _), (b, _), (dx, _), (x, _), (fl, _), (kn, _), (ag, _), (hr, _)] ++ own₀) _ _ (by k_asm) (News.sub (by assumption) (by walk_at "sub")) (hRp _ [] [(ib, _), (b, _), (dx, _), (x, _), (fl, _), (kn, _), (ag, _), (hr, _)] S hf (LawL.of vs ns n0 seed ts n1 k t1 t2 t3 t4 la lb fvs n2 _ _ oh tw hi hl40 hs0 hs1 hA hB hC hK hG hH) ⟨rfl, rfl⟩)
  · have hm : ¬ (KeyP.inr END : Key) ∈ S.kn := by assumption
    have e9 : decide ((KeyP.inr END : Key) ∈ S.kn) = decide ((KeyP.inr END : Key) ∈ S.kn ∧ (S.kn.length : Int) = (S.hw.size : Int) + 1) := by
      rw [decide_eq_false hm, decide_eq_false (fun h => hm h.1)]
    rw [show (KeyP.inr (Str.ofString "end") : Key) = KeyP.inr END from rfl, e9]
    exact hret _ ([(ib, _), (b, _), (dx, _), (x, _), (fl, _), (kn, _), (ag, _), (hr, _)] ++ own₀) _ _ (by k_asm) (News.sub (by assumption) (by walk_at "sub")) (hRp _ [] [(ib, _), (b, _), (dx, _), (x, _), (fl, _), (kn, _), (ag, _), (hr, _)] S hf (LawL.of vs ns n0 seed ts n1 k t1 t2 t3 t4 la lb fvs n2 _ _ oh tw hi hl40 hs0 hs1 hA hB hC hK hG hH) ⟨rfl, rfl⟩)
theorem step_law (w : World) (ib b dx x fl kn ag hr : Nat) (S : LS) (M own : Led) (ho : Ords ib b dx x fl kn ag hr) (hP : LawL w ib b dx x fl kn ag hr S own M) (hok : StepOK S) :
    LSpec w 8 300 241 [.ref b, .ref x, .ref hr] ib b dx x fl kn ag hr M own (fun r S' _ => r = .bool true ∧ StepTo S S') := by
  k_with_none
  (k_with "call type:list" => (k_here; (with_reducible show wpAny _ _ (call (Value.type _) [Value.ref _]) _ _ _); k_dflt (refine' r_list ?nsF ?nsN ?nsm ?nsz ?_; (case nsF => k_asm); (case nsN => k_asm); (case nsm => k_mem); (case nsz => omega)); intro D' c' h' F' N' l1; (try k_lt l1); (try k_sweep)))
  (k_with "binaryOp Add ref ref" => (k_here; (with_reducible show wpAny _ _ (binaryOp _ (Value.ref _) (Value.ref _)) _ _ _); k_dflt (refine' r_cat ?nsF ?nsN ?nsm ?nsb ?nsz ?_; (case nsF => k_asm); (case nsN => k_asm); (case nsm => k_mem); (case nsb => k_mem); (case nsz => (simp only [List.length_cons, List.length_nil]; omega))); intro D' h' F' N' l1; (try k_lt l1); (try k_sweep)))
  (k_with "call builtin:list.append" => (k_here; (with_reducible show wpAny _ _ (call (Value.builtin _) [Value.ref _, _]) _ _ _); k_dflt (refine' r_append ?nsF ?nsN ?nsU ?nsz ?_; (case nsF => k_asm); (case nsN => k_asm); (case nsU => k_upd); (case nsz => (simp only [List.length_append, List.length_cons, List.length_nil]; omega))); intro h' F' N'; (try k_sweep)))
  (k_with "exec For Tuple Name cons nil" => (k_here; (rename Fr _ _ _ _ => lF'); (with_unfolding_all refine' For_turns lF' ?_); (try k_fold)))
  (k_with "sub" => (repeat' (first | (with_reducible exact Sub.refl _) | (with_reducible exact Sub.nil) | (with_reducible assumption) | ((with_reducible show Sub (_ :: _) _); refine Sub.consL (by k_mem) ?_) | (with_reducible refine Sub.appL ?_ ?_) | (with_reducible exact Sub.appR1 (Sub.refl _)) | (with_reducible exact Sub.appR2 (Sub.refl _)) | (with_reducible exact Sub.appR1 (Sub.appR1 (Sub.refl _))) | (with_reducible exact Sub.appR1 (Sub.appR2 (Sub.refl _))) | (with_reducible refine Sub.consR ?_) | (with_reducible refine Sub.appR2 ?_))))
  (k_with "call builtin:list.pop" => (k_here; (with_reducible show wpAny _ _ (call (Value.builtin _) [Value.ref _, Value.int _ _]) _ _ _); k_dflt (refine' pop0 ?nsF ?nsN ?nsU ?nsz ?_; (case nsF => k_asm); (case nsN => k_asm); (case nsU => k_upd); (case nsz => omega)); (intro h' F' N')))
  (k_with "call builtin:len" => (k_here; (with_reducible show wpAny _ _ (call (Value.builtin "len") [Value.ref _]) _ _ _); k_dflt (refine' r_len ?nsF ?nsN ?nsm ?nse ?nsz ?_; (case nsF => k_asm); (case nsN => k_asm); (case nsm => k_mem); (case nse => first | exact rfl | assumption | (simp only [List.length_cons, List.length_nil]; exact rfl)); (case nsz => ((try simp only [List.length_cons, List.length_nil, List.length_append, List.length_map]); omega))); (try simp only [List.length_cons, List.length_nil])))
  (k_with "subscriptTail" => (k_here; (with_reducible show wpAny _ _ (subscriptTail _ _ (Value.ref _) (Value.int _ _)) _ _ _); (with_unfolding_all refine' r_item ?nsN ?nsm ?nsh0 ?nshi ?nshx ?_ ?nshs; (case nsN => k_asm); (case nsm => k_mem); (case nsh0 => decide); (case nshi => decide); (case nshx => rfl); (case nshs => with_unfolding_all rfl); k_whole)))
  (k_with "compareOp In str ref" => (k_here; (with_reducible show wpAny _ _ (compareOp _ (Value.str _ _) (Value.ref _)) _ _ _); (first | (with_unfolding_all refine' r_instr true ?nsht ?nshi ?nshb ?_; (case nsht => first | exact News.isTup (by k_asm) (by k_mem) | exact kun_topT (by k_asm) (by k_asm) (by k_is)); (case nshi => kde_strs); (case nshb => decide)) | (with_unfolding_all refine' r_instr false ?nsht ?nshi ?nshb ?_; (case nsht => first | exact News.isTup (by k_asm) (by k_mem) | exact kun_topT (by k_asm) (by k_asm) (by k_is)); (case nshi => kde_strs); (case nshb => decide)) | (with_unfolding_all refine' r_instr _ ?nsht ?nshi ?nshb ?_; (case nsht => first | exact News.isTup (by k_asm) (by k_mem) | exact kun_topT (by k_asm) (by k_asm) (by k_is)); (case nshi => kde_strs); (case nshb => walk_at "st in")))))
  (k_with "compareOp NotIn str ref" => (k_here; (with_reducible show wpAny _ _ (compareOp _ (Value.str _ _) (Value.ref _)) _ _ _); (first | (with_unfolding_all refine' r_notinstr true ?nsht ?nshi ?nshb ?_; (case nsht => first | exact News.isTup (by k_asm) (by k_mem) | exact kun_topT (by k_asm) (by k_asm) (by k_is)); (case nshi => kde_strs); (case nshb => decide)) | (with_unfolding_all refine' r_notinstr false ?nsht ?nshi ?nshb ?_; (case nsht => first | exact News.isTup (by k_asm) (by k_mem) | exact kun_topT (by k_asm) (by k_asm) (by k_is)); (case nshi => kde_strs); (case nshb => decide)) | (with_unfolding_all refine' r_notinstr _ ?nsht ?nshi ?nshb ?_; (case nsht => first | exact News.isTup (by k_asm) (by k_mem) | exact kun_topT (by k_asm) (by k_asm) (by k_is)); (case nshi => kde_strs); (case nshb => walk_at "st in")))))
  (k_with "exec If" => k_dflt (k_extra "my if"))
  (k_with "eval BoolOp" => k_dflt (k_extra "my bool"))
  (k_with "eval IfExp" => k_dflt (k_extra "my ifexp"))
  (k_with "isTrue BoolOp" => k_dflt (k_extra "my test"))
  (k_with "call ref" => k_dflt (k_extra "my call"))
  (k_with "subscriptTail" => (k_here; (with_reducible show wpAny _ _ (subscriptTail _ (Expr.Slice _ _ none _) (Value.bytes _ _) (Value.ref _)) _ _ _); (with_reducible rename Fr _ _ _ _ => F'); (with_reducible rename News _ _ _ _ => N'); k_dflt (refine r_bslice (s := ⟨_, _, _, _, _⟩) F' N' (by constructor) (by constructor) (by omega) ?_); intro _ _ _ _ _))
  (k_with "call type:bytes" => (k_here; (with_reducible show wpAny _ _ (call (Value.type "bytes") [Value.bytes _ _]) _ _ _); refine call_bytes_bytes ?_))
  (k_with "newTuple" => (k_here; k_dflt (refine' r_newTuple ?nsF ?nsN ?nsz ?_; (case nsF => k_asm); (case nsN => k_asm); (case nsz => exact Nat.le_of_ble_eq_true rfl)); intro D' h' F' N' l1; (have l0 := l1); (try k_lt l1); (try k_sweep)))
  (k_with "newList" => (k_here; k_dflt (refine' r_newList ?nsF ?nsN ?nsz ?_; (case nsF => k_asm); (case nsN => k_asm); (case nsz => exact Nat.le_of_ble_eq_true rfl)); intro D' h' F' N' l1; (have l0 := l1); (try k_lt l1); (try k_sweep)))
  (k_with "binaryOp Add bytes bytes" => (k_here; (with_reducible show wpAny _ _ (binaryOp _ (Value.bytes _ _) (Value.bytes _ _)) _ _ _); refine r_badd (by omega) ?_; intro _ _))
  (k_with "exec For Tuple Call cons nil" => (k_here; (rename Fr _ _ _ _ => lF'); (with_unfolding_all refine' For_turns lF' ?_); (try k_fold)))
  (k_with "st in" => first | exact congrArg not (st_in _) | exact congrArg not (st_lost _) | exact st_in _ | exact st_lost _)
  (k_with "lt" => (intro b hb; (simp only [List.mem_cons, List.not_mem_nil, or_false] at hb); rcases hb with rfl | rfl <;> omega))
  (k_with "apart" => ((try simp only [List.cons_append, List.nil_append]); (repeat' (first | exact offNil | (refine offCons (by k_all) ?_)))))
  (k_with "subscriptTail Name Constant ref str" => (k_here; (with_reducible show wpAny _ _ (subscriptTail _ _ (Value.ref _) (Value.str _ _)) _ _ _); k_dflt (refine' kda_item (knd := PySem.strKind PySem.Challenge.rw_no0075_01.row.prog _) ?nsN ?nsm ?nsd ?nsk ?nsl ?_ ?nshs ?nshg; (case nsN => k_asm); (case nsm => with_reducible k_mem); (case nsd => with_reducible assumption); (case nsk => exact strKind_is _ _ _ _); (case nsl => first | exact (rfl : _ = some (Value.ref _)) | exact (rfl : _ = some (Value.bytes _ _))); (case nshs => with_unfolding_all rfl); (case nshg => (intro _; with_unfolding_all rfl)); k_whole)))
  (k_with "setItem ref int" => (k_here; (with_reducible show wpAny _ _ (setItem (Value.ref _) (Value.int _ _) (Value.bool true)) _ _ _); k_dflt (refine' dk_set (k := KeyP.inl _) ?nsF ?nsN ?nsU ?nsd ?nsk ?nsz ?_; (case nsF => k_asm); (case nsN => k_asm); (case nsU => k_updF); (case nsd => with_reducible assumption); (case nsk => exact mix_int _ _); (case nsz => omega)); (intro h' o' F' N' hd'); (try k_sweep)))
  (k_with "setItem ref str" => (k_here; (with_reducible show wpAny _ _ (setItem (Value.ref _) (Value.str _ _) (Value.bool true)) _ _ _); k_dflt (refine' dk_set (k := KeyP.inr _) ?nsF ?nsN ?nsU ?nsd ?nsk ?nsz ?_; (case nsF => k_asm); (case nsN => k_asm); (case nsU => k_updF); (case nsd => with_reducible assumption); (case nsk => exact mix_str _ _); (case nsz => omega)); (intro h' o' F' N' hd'); (try k_sweep)))
  (k_with "getMethod ref" => (k_here; (with_reducible show wpAny _ _ (getMethod (Value.ref _) (PySem.Str.ofString "pop") _) _ _ _); k_dflt (refine' dk_popm ?nsN ?nsm ?nsd ?_; (case nsN => k_asm); (case nsm => with_reducible k_mem); (case nsd => with_reducible assumption))))
  (k_with "call builtin:dict.pop" => (k_here; (with_reducible show wpAny _ _ (call (Value.builtin _) [Value.ref _, Value.int _ _, Value.none]) _ _ _); k_dflt (refine' dk_pop ?nsF ?nsN ?nsU ?nsd ?nslo ?nsz ?_; (case nsF => k_asm); (case nsN => k_asm); (case nsU => k_updF); (case nsd => with_reducible assumption); (case nslo => assumption); (case nsz => omega)); (intro h' o' r' F' N' hd'); (try k_sweep)))
  (k_with "compareOp NotIn int ref" => (k_here; (with_reducible show wpAny _ _ (compareOp _ (Value.int _ _) (Value.ref _)) _ _ _); k_dflt (refine' dk_notin (k := KeyP.inl _) ?nsN ?nsm ?nsd ?nslo ?nsk ?_; (case nsN => k_asm); (case nsm => with_reducible k_mem); (case nsd => with_reducible assumption); (case nslo => assumption); (case nsk => exact mix_int _ _))))
  (k_with "compareOp In str ref" => (k_here; (with_reducible show wpAny _ _ (compareOp _ (Value.str _ _) (Value.ref _)) _ _ _); k_dflt (refine' dk_in (k := KeyP.inr _) ?nsN ?nsm ?nsd ?nslo ?nsk ?_; (case nsN => k_asm); (case nsm => with_reducible k_mem); (case nsd => with_reducible assumption); (case nslo => assumption); (case nsk => exact mix_str _ _))))
  (k_with "call builtin:len" => (k_here; (with_reducible show wpAny _ _ (call (Value.builtin "len") [Value.ref _]) _ _ _); k_dflt (refine' dk_len ?nsN ?nsm ?nsd ?nslo ?nsz ?_; (case nsN => k_asm); (case nsm => with_reducible k_mem); (case nsd => with_reducible assumption); (case nslo => assumption); (case nsz => omega))))
  (k_with "exec For Name Call cons nil" => (k_here; (rename Fr _ _ _ _ => lF'); (with_unfolding_all refine' For_turns lF' ?_); (try k_fold)))
  (k_with "call type:range" => (k_here; (with_reducible show wpAny _ _ (call _ [_, _]) _ _ _); k_dflt (refine' range2_rows ?nsF ?nsN ?_; (case nsF => k_asm); (case nsN => k_asm)); (intro h' tk' t1' t2' t3' hR' F' N' hk'; clear hk'); (try k_sweep)))
  (k_with "CompSrc" => k_dflt (k_extra "my comp"))
  (k_with "call type:bytes" => (k_here; (with_reducible show wpAny _ _ (call (Value.type "bytes") [Value.ref _]) _ _ _); (rename IntsAre _ _ => hI8'); (rename KBa.In _ => hin8'); k_dflt (refine' KBa.make_K ?nsF ?nsN ?nsh ?nsl hI8' hin8' ?nsn ?_; (case nsF => k_asm); (case nsN => k_asm); (case nsh => exact rfl); (case nsl => exact ⟨_, (News.get (by k_asm) (List.Mem.head _)), rfl, _, rfl⟩); (case nsn => assumption)); (intro h' t' k' F' N' hIn')))
  (k_with "compareOp NotEq ref ref" => (k_here; (with_reducible show wpAny _ _ (compareOp CmpOp.NotEq (Value.ref _) (Value.ref _)) _ _ _); k_dflt (refine' ne_nil ?nsN ?nsl ?nsb ?nsu ?_; (case nsN => k_asm); (case nsl => with_reducible k_mem); (case nsb => with_reducible k_mem); (case nsu => ktr_units))))
  (k_with "call builtin:list.pop" => (k_here; (with_reducible show wpAny _ _ (call (Value.builtin _) [Value.ref _, Value.int _ _]) _ _ _); k_dflt (refine' pop_at ?nsF ?nsN ?nsa ?nsb ?nsz ?nsU ?_; (case nsF => k_asm); (case nsN => k_asm); (case nsa => assumption); (case nsb => assumption); (case nsz => omega); (case nsU => k_upd)); (intro v' h' hv' F' N')))
  (k_with "setItem ref str" => (k_here; (with_reducible show wpAny _ _ (setItem (Value.ref _) (Value.str _ _) (Value.bytes _ _)) _ _ _); k_dflt (refine' kda_set (knd := PySem.strKind PySem.Challenge.rw_no0075_01.row.prog _) ?nsF ?nsN ?nsU ?nsd ?nsk ?nsz ?_; (case nsF => k_asm); (case nsN => k_asm); (case nsU => k_updF); (case nsd => with_reducible assumption); (case nsk => exact strKind_is _ _ _ _); (case nsz => decide)); (intro h' o' F' N' hd')))
  have ho0 := ho
  refine LawL.elim hP ?_
  clear hP
  intro vs ns n0 seed ts n1 k t1 t2 t3 t4 la lb fvs n2 ok oa oh tw hi hl40 hs0 hs1 hA hB hC hK hG hH
  obtain ⟨⟨o1, o2, o3, o4, o5, o6, o7⟩, lok, loa, loh⟩ := ho
  refine LSpec.start ?_
  intro own₀ hsub hoff Rp hRp
  unfold Spec
  k_fill
  intro mean mg mb dp un gd cn cs a ccd cl outer A₀ base h₀ L m s Q E B F X N T hk hd hu hret
  dsimp only [List.cons_append, List.nil_append] at N
  replace N : News h₀ L s.heap (_ :: _ :: _ :: _ :: _ :: _ :: _ :: _ :: (([] : Led) ++ own₀)) := N
  have hf : FreshM [] own₀ [ib, b, dx, x, fl, kn, ag, hr] := FreshM.nil
  have off : OwnOff ([] ++ own₀) [ib, b, dx, x, fl, kn, ag, hr] := hoff
  replace hA : SpansAt ([] ++ own) (.ref la) S.p.A := hA
  replace hB : SpansAt ([] ++ own) (.ref lb) S.p.B := hB
  replace hC : ChunksAt ([] ++ own) fvs S.fl := hC
  refine wpAny_call ?_
  k_dflt (refine' code_defC ?k1 ?k2 ?k3 ?k4 ?k5 ?kA ?kF ?kK ?k6 ?k7 ?k8 ?k9 ?kB ?kD ?_ ?c2 ?c3 ?c4; (case kA => exact rfl); (case kF => exact rfl); (case kK => assumption); (case k1 => k_asm); (case k2 => k_asm); (case k3 => k_asm); (case k4 => k_asm); (case k5 => k_asm); (case k6 => k_is); (case k7 => k_is); (case k8 => ktr_room); (case k9 => exact BindsTo.of_eq rfl); (case kB => exact rfl); (case kD => decide +kernel); (case c2 => exact rfl); (case c3 => exact rfl); (case c4 => exact rfl); k_whole; intro gc Lc hc' tkc cellsc FGc Fc Nc Yc Bc Xc Tc lc0; (have lc1 := lc0); (try k_lt lc1); (have hY := CellsAre.one Yc; obtain ⟨oc, hEc, dc⟩ := hY; subst hEc; clear Yc); (try simp only [List.cons_append, List.nil_append] at Nc); (try dsimp only); (try k_lift Bc); (try k_fold))
  replace Nc : News gc Lc hc' (_ :: _ :: _ :: _ :: _ :: _ :: _ :: _ :: _ :: (([] : Led) ++ own₀)) := Nc
  obtain ⟨cc, hcc⟩ : ∃ c : Nat, c = Lc + 1 := ⟨_, rfl⟩
  have offc := (cellFacts lc0 hcc).1
  clear hf off
  have hf : FreshM [] own₀ [cc, ib, b, dx, x, fl, kn, ag, hr] := FreshM.nil
  have off : OwnOff ([] ++ own₀) [cc, ib, b, dx, x, fl, kn, ag, hr] := offAdr offc hoff
  subst hcc
  have hcell : ∀ z ∈ [ib, b, dx, x, fl, kn, ag, hr], @LT.lt Nat _ z (Lc + 1) := (cellFacts lc0 rfl).2
  have hhw := hok.hw
  have hzW := hok.z.W
  have hzA := hok.z.A
  have hzB := hok.z.B
  have hzk := hok.z.kn
  have hzg := hok.z.ag
  have hzf := hok.z.fl
  have hop := hok.op
  have hz : S.p.W.size ≤ 1000 := by omega
  have hlf := hC.length
  have hhz : S.hw.size ≤ 990 := by rw [hhw]; exact hzW
  have hln9 : fvs.length ≤ 900 := by omega
  have offc8 : OwnOff ([] ++ ((Lc + 1, oc) :: own₀)) [ib, b, dx, x, fl, kn, ag, hr] := offCons (fun z hz => Nat.ne_of_gt ((cellFacts lc0 rfl).2 z hz)) hoff
  have hoR : OwnOff ((Lc + 1, oc) :: (dx, dictOf (partEs w.params k (.int S.p.lim t1) (.str S.p.st.str t2) (.bytes S.p.W t3) (.int S.p.se t4) (.ref la) (.ref lb) (.bool S.p.fin) (.bool S.p.ow) (.bool S.p.ea)) 11) :: (x, instObj 199 dx) :: (fl, listOf fvs.toArray n2) :: (kn, ok) :: (ag, oa) :: (hr, oh) :: ([] ++ own₀)) [ib, b] := by
    refine offApp (a := [_, _, _, _, _, _, _]) (Ords.ibbC ho0 hcell) ?_
    exact fun q hq z hz => off q hq z (by simp only [List.mem_cons, List.not_mem_nil, or_false] at hz ⊢; rcases hz with rfl | rfl <;> simp)
  (k_with "my call" => (
    (with_reducible show wpAny _ _ (call (Value.ref 217) [Value.ref _, Value.int _ _]) _ _ _)
    (fail_if_success (rename LCg.NsObj _ _ => hns9))
    refine' take_use (ib := ib) (b := b) (own := ([(Lc + 1, _), (dx, _), (x, _), (fl, _), (kn, _), (ag, _), (hr, _)] ++ ([] ++ own₀))) ?w1 ?w2 ?hi ?hl ?hs0 ?hs1 o1 ?ao ?B ?F ?X ?N ?T ?hk ?hd ?hu ?hn ?_
    (case B => k_asm)
    (case F => k_asm)
    (case X => k_asm)
    (case N => k_asm)
    (case T => k_asm)
    (case hk => exact rfl)
    (case hd => ktr_room)
    (case hu => ktr_units)
    (case hn => (refine (?_ : Sub _ _); walk_at "sub"))
    (case w1 => first | decide | omega)
    (case w2 => first | decide | omega)
    (case hi => assumption)
    (case hl => assumption)
    (case hs0 => assumption)
    (case hs1 => assumption)
    (case ao => exact offApp (Ords.ibbC ho0 hcell) (fun q hq z hz => off q hq z (by simp only [List.mem_cons, List.not_mem_nil, or_false] at hz ⊢; rcases hz with rfl | rfl <;> simp)))
    intro vs9 ns9 n09 seed9 ts9 n19 k9 tk99 h9 tk9 F9 N9 hi9 hl9 hs09 hs19 hk0 hk1
    all_goals (try dsimp only [List.cons_append] at N9)
    all_goals (try dsimp only)
    all_goals (try k_fold)))
  (k_with "my call" => (
    (with_reducible show wpAny _ _ (call (Value.ref 217) [Value.ref _, Value.int _ _]) _ _ _)
    (rename LCg.NsObj _ _ => hns9)
    refine' take_use (ib := ib) (b := b) (own := ((I', _) :: (C', _) :: (D', _) :: ([(Lc + 1, _), (dx, _), (x, _), (fl, _), (kn, _), (ag, _), (hr, _)] ++ ([] ++ own₀)))) ?w1 ?w2 ?hi ?hl ?hs0 ?hs1 o1 ?ao ?B ?F ?X ?N ?T ?hk ?hd ?hu ?hn ?_
    (case B => k_asm)
    (case F => k_asm)
    (case X => k_asm)
    (case N => k_asm)
    (case T => k_asm)
    (case hk => exact rfl)
    (case hd => ktr_room)
    (case hu => ktr_units)
    (case hn => (refine (?_ : Sub _ _); walk_at "sub"))
    (case w1 => first | decide | omega)
    (case w2 => first | decide | omega)
    (case hi => assumption)
    (case hl => assumption)
    (case hs0 => assumption)
    (case hs1 => assumption)
    (case ao => exact off_three off3 (own_off_map (by simp only [List.map_cons, List.map_append, List.map_nil, List.cons_append, List.nil_append]) hoR))
    intro vs9 ns9 n09 seed9 ts9 n19 k9 tk99 h9 tk9 F9 N9 hi9 hl9 hs09 hs19 hk0 hk1
    all_goals (try dsimp only [List.cons_append] at N9)
    all_goals (try dsimp only)
    all_goals (try k_fold)))
  (k_with "my test" => (
    (with_reducible show wpAny _ _ (isTrue (Expr.BoolOp BoolOp.And [Expr.Compare (Expr.Name (PySem.Str.ofString "form") _) _ [Expr.Constant (Const.int 1) _ _] _, _] _) _ _) _ _ _)
    (fail_if_success (with_reducible show wpAny _ _ _ (JoinF _ _ _ _ _ _) _ _))
    (fail_if_success (with_reducible show wpAny _ _ _ (JoinQ _ _ _ _) _ _))
    refine cutF (by k_asm) (by k_asm) (fun b => b = true → S.p.fin = false) ?cutA ?_
    (case cutA =>
     k_steps
     all_goals (first | exact joinF (by k_asm) (by k_asm) (by walk_at "sub") (fun h => by first | assumption | exact absurd h (by decide) | (simp_all; done))))
    rintro b9 h8 tk8 F8 N8 hV9
    cases b9
    all_goals (try (have hV8 := hV9 rfl))
    all_goals (clear hV9)
    all_goals (try dsimp only)
    all_goals (try k_fold)))
  (k_with "my test" => (
    (with_reducible show wpAny _ _ (isTrue (Expr.BoolOp BoolOp.And [Expr.Compare (Expr.Name (PySem.Str.ofString "form") _) _ [Expr.Constant (Const.int 5) _ _] _, _, _] _) _ _) _ _ _)
    (fail_if_success (with_reducible show wpAny _ _ _ (JoinF _ _ _ _ _ _) _ _))
    (fail_if_success (with_reducible show wpAny _ _ _ (JoinQ _ _ _ _) _ _))
    refine cutH (by k_asm) (fun (b9 : Bool) (m' : Str → Option Value) (nx : Led) => ∃ (vs9 : List Value) (ns9 : List Int) (n09 : Nat) (seed9 : Int) (ts9 : Tok) (n19 : Nat), nx = (ib, listOf vs9.toArray n09) :: (b, listOf #[.ref ib, .int seed9 ts9] n19) :: (Lc + 1, oc) :: (dx, dictOf (partEs w.params k (.int S.p.lim t1) (.str S.p.st.str t2) (.bytes S.p.W t3) (.int S.p.se t4) (.ref la) (.ref lb) (.bool S.p.fin) (.bool S.p.ow) (.bool S.p.ea)) 11) :: (x, instObj 199 dx) :: (fl, listOf fvs.toArray n2) :: (kn, ok) :: (ag, oa) :: (hr, oh) :: ([] ++ own₀) ∧ (m' (Str.ofString "part") = some (.ref x) ∧ m' (Str.ofString "here") = some (.ref hr) ∧ (∃ fo tf, m' (Str.ofString "form") = some (.int fo tf)) ∧ m' (Str.ofString "flying") = some (.ref fl)) ∧ (IntsAre vs9 ns9 ∧ ns9.length ≤ 40 ∧ 0 ≤ seed9 ∧ seed9 < 2147483647) ∧ (b9 = true → S.p.fin = false)) ?cutA ?_
    (case cutA =>
     k_steps
     all_goals (exact joinQ (by k_asm) (News.sub (by assumption) (by walk_at "sub")) ⟨_, _, _, _, _, _, rfl, ⟨rfl, rfl, ⟨_, _, rfl⟩, rfl⟩, ⟨by assumption, by assumption, by assumption, by assumption⟩, (fun h => by first | assumption | exact absurd h (by decide) | (simp_all; done))⟩))
    rintro b9 h8 tk8 m8 _ F8 N8 ⟨vs9, ns9, n09, seed9, ts9, n19, rfl, ⟨hn1, hn2, ⟨fo, tf, hn3⟩, hn4⟩, ⟨hi9, hl9, hs09, hs19⟩, hV9⟩
    replace F8 := frNames [(Str.ofString "part", .ref x), (Str.ofString "here", .ref hr), (Str.ofString "form", .int fo tf), (Str.ofString "flying", .ref fl)] F8 (by intro p hp; simp only [List.mem_cons, List.not_mem_nil, or_false] at hp; rcases hp with rfl | rfl | rfl | rfl <;> assumption)
    cases b9
    all_goals (try (have hV8 := hV9 rfl))
    all_goals (clear hV9)
    all_goals (try dsimp only)
    all_goals (try k_fold)))
  (k_with "my test" => (
    (with_reducible show wpAny _ _ (isTrue (Expr.BoolOp BoolOp.And [Expr.Compare (Expr.Name (PySem.Str.ofString "form") _) _ [Expr.Constant (Const.int 3) _ _] _, _] _) _ _) _ _ _)
    (fail_if_success (with_reducible show wpAny _ _ _ (JoinF _ _ _ _ _ _) _ _))
    (fail_if_success (with_reducible show wpAny _ _ _ (JoinQ _ _ _ _) _ _))
    refine cutF (by k_asm) (by k_asm) (fun b => b = true → 0 < fvs.length) ?cutA ?_
    (case cutA =>
     k_steps
     all_goals (first | exact joinF (by k_asm) (by k_asm) (by walk_at "sub") (fun h => by first | assumption | exact absurd h (by decide) | exact List.length_pos_iff.mpr (of_decide_eq_true h) | exact List.length_pos_iff.mpr (by assumption) | (simp_all; done))))
    rintro b9 h8 tk8 F8 N8 hV9
    cases b9
    all_goals (try (have hV8 := hV9 rfl))
    all_goals (clear hV9)
    all_goals (try dsimp only)
    all_goals (try k_fold)))
  (k_with "my test" => (
    (with_reducible show wpAny _ _ (isTrue (Expr.BoolOp BoolOp.And [Expr.Compare (Expr.Name (PySem.Str.ofString "form") _) _ [Expr.Constant (Const.int 4) _ _] _, _] _) _ _) _ _ _)
    (fail_if_success (with_reducible show wpAny _ _ _ (JoinF _ _ _ _ _ _) _ _))
    (fail_if_success (with_reducible show wpAny _ _ _ (JoinQ _ _ _ _) _ _))
    refine cutF (by k_asm) (by k_asm) (fun b => b = true → 0 < fvs.length) ?cutA ?_
    (case cutA =>
     k_steps
     all_goals (first | exact joinF (by k_asm) (by k_asm) (by walk_at "sub") (fun h => by first | assumption | exact absurd h (by decide) | exact List.length_pos_iff.mpr (of_decide_eq_true h) | exact List.length_pos_iff.mpr (by assumption) | (simp_all; done))))
    rintro b9 h8 tk8 F8 N8 hV9
    cases b9
    all_goals (try (have hV8 := hV9 rfl))
    all_goals (clear hV9)
    all_goals (try dsimp only)
    all_goals (try k_fold)))
  (k_with "my comp" => (
    refine' LCg.CompSrc.range ?hh ?F ?N ?hr ?sm ?rn ?sz ?_
    (case hh => exact rfl)
    (case F => k_asm)
    (case N => k_asm)
    (case hr => assumption)
    (case rn => exact rangeSize_nat _ _)
    (case sm => exact small_one (by omega) (by omega) (by omega) (by omega))
    (case sz => (rw [PySem.sizeLine_eq]; omega))
    intro g'
    refine comp_inv (fun ys nx => ∃ (vs9 : List Value) (ns9 : List Int) (n09 : Nat) (seed9 : Int) (ts9 : Tok) (n19 : Nat) (l9 : List Int), nx = (ib, listOf vs9.toArray n09) :: (b, listOf #[.ref ib, .int seed9 ts9] n19) :: (Lc + 1, oc) :: (dx, dictOf (partEs w.params k (.int S.p.lim t1) (.str S.p.st.str t2) (.bytes S.p.W t3) (.int S.p.se t4) (.ref la) (.ref lb) (.bool S.p.fin) (.bool S.p.ow) (.bool S.p.ea)) 11) :: (x, instObj 199 dx) :: (fl, listOf fvs.toArray n2) :: (kn, ok) :: (ag, oa) :: (hr, oh) :: ([] ++ own₀) ∧ (IntsAre vs9 ns9 ∧ ns9.length ≤ 40 ∧ 0 ≤ seed9 ∧ seed9 < 2147483647) ∧ IntsAre ys l9 ∧ (∀ a ∈ l9, 65 ≤ a ∧ a < 91)) ?turn ?zero ?fin
    (case zero => exact ⟨_, _, _, _, _, _, [], rfl, ⟨by assumption, by assumption, by assumption, by assumption⟩, .nil, fun a h => nomatch h⟩)
    (case turn =>
      rintro i' _ I' oI' C' oC' D' m' ys' nx' h' tk' E' hi' ⟨t9, rfl⟩ ⟨vs9, ns9, n09, seed9, ts9, n19, l9, rfl, ⟨hi9, hl9, hs09, hs19⟩, hI9, hr9⟩ hC' hx' F' N' off3 ne'
      k_steps
      unfold LCg.CompEnd
      refine ⟨_, _, (ib, listOf vs9.toArray n09) :: (b, listOf #[.ref ib, .int seed9 ts9] n19) :: (Lc + 1, oc) :: (dx, dictOf (partEs w.params k (.int S.p.lim t1) (.str S.p.st.str t2) (.bytes S.p.W t3) (.int S.p.se t4) (.ref la) (.ref lb) (.bool S.p.fin) (.bool S.p.ow) (.bool S.p.ea)) 11) :: (x, instObj 199 dx) :: (fl, listOf fvs.toArray n2) :: (kn, ok) :: (ag, oa) :: (hr, oh) :: ([] ++ own₀), rfl, ?xF, ?xN, ?xO, True.intro, ?xI⟩
      (case xF => k_asm)
      (case xN => exact News.sub (by assumption) (by walk_at "sub"))
      (case xO => exact off3_map (by simp only [List.map_cons]) off3)
      (case xI =>
       refine ⟨_, _, _, _, _, _, l9 ++ [65 + k9], rfl, ⟨hi9, hl9, hs09, hs19⟩, ?_, ?_⟩
       · exact hI9.append (.cons _ _ .nil)
       · intro a9 ha9
         rcases List.mem_append.mp ha9 with h9' | h9'
         · exact hr9 a9 h9'
         · have := List.mem_singleton.mp h9'
           omega))
    (case' fin =>
      rintro ys' nx' hy' ⟨vs9, ns9, n09, seed9, ts9, n19, l9, rfl, ⟨hi9, hl9, hs09, hs19⟩, hI9, hr9⟩
      have hl5 := hI9.length
      have hl6 : (byteArr l9).size ≤ 5 := by rw [byteArr_size]; omega
      have hin9 : KBa.In l9 := fun a h => by have := hr9 a h; omega
      have hl7 : l9.length ≤ 16777216 := by omega)
    all_goals (try dsimp only)
    all_goals (try k_fold)))
  (k_with "my call" => (
    (try dsimp only [List.cons_append, List.nil_append])
    (with_reducible show wpAny _ _ (call (Value.ref 98) [Value.ref _, Value.bytes _ _]) _ _ _)
    refine' MSpec.useL (P := [(ib, _), (b, _)]) (M2 := [(dx, _), (x, _)]) (R := [(fl, _), (kn, _), (ag, _), (hr, _)]) (own₀ := (Lc + 1, oc) :: own₀) (adr := [ib, b, dx, x, fl, kn, ag, hr]) (write_spec _ _ _ S.p _ _ _ _ o3 (PartL.of k t1 t2 t3 t4 la lb hA hB) hz (by omega) (hop (by assumption)) (by assumption)) rfl rfl ?hPR (Sub.consR hsub) ?hf ?off ?B ?F ?X ?N ?T ?hk ?hd ?hu ?hn ?_
    (case hf => exact FreshM.nil)
    (case off => exact offc8)
    (case B => k_asm)
    (case F => k_asm)
    (case X => k_asm)
    (case N => k_asm)
    (case T => k_asm)
    (case hk => exact rfl)
    (case hd => ktr_room)
    (case hu => ktr_units)
    (case hn => walk_at "sub")
    (case hPR => exact Ords.dxx ho0)
    rintro r9 T9 M9 p9 h9 tk9 F9 N9 hf9 off9 hs9 hL9 ⟨rfl, hp9⟩
    revert N9
    refine PartL.elim hL9 ?_
    clear hL9
    intro k9 u1 u2 u3 u4 la9 lb9 hA9 hB9 N9
    dsimp only [List.cons_append, List.nil_append] at N9
    have hC9 := hC.mono hs9
    subst hp9
    all_goals (try dsimp only)
    all_goals (try k_fold)
    k_steps
    rename Obj.IsDictOf _ _ _ => hd9
    (try rw [stored_here] at hd9)
    exact hret _ ([(ib, _), (b, _), (dx, _), (x, _), (fl, _), (kn, _), (ag, _), (hr, _)] ++ (T9 ++ own₀)) _ _ (by k_asm) (News.sub (by assumption) (by walk_at "sub")) (hRp _ T9 [(ib, _), (b, _), (dx, _), (x, _), (fl, _), (kn, _), (ag, _), (hr, _)] { S with p := { S.p with W := S.p.W ++ byteArr l9 }, hw := S.hw ++ byteArr l9 } hf9.tail (LawL.of vs9 ns9 n09 seed9 ts9 n19 k9 u1 u2 u3 u4 la9 lb9 fvs n2 ok oa _ _ hi9 hl9 hs09 hs19 hA9 hB9 hC9 hK hG hd9) ⟨rfl, .write _ (by assumption) (by assumption)⟩)))
  (k_with "my call" => (
    (try dsimp only [List.cons_append, List.nil_append])
    (with_reducible show wpAny _ _ (call (Value.ref 126) [Value.ref _, Value.int _ _]) _ _ _)
    refine' MSpec.useL (P := [(ib, _), (b, _)]) (M2 := [(dx, _), (x, _)]) (R := [(fl, _), (kn, _), (ag, _), (hr, _)]) (own₀ := (Lc + 1, oc) :: own₀) (adr := [ib, b, dx, x, fl, kn, ag, hr]) (raise_spec _ _ _ S.p _ _ _ _ o3 (PartL.of k t1 t2 t3 t4 la lb hA hB)) rfl rfl ?hPR (Sub.consR hsub) ?hf ?off ?B ?F ?X ?N ?T ?hk ?hd ?hu ?hn ?_
    (case hf => exact FreshM.nil)
    (case off => exact offc8)
    (case B => k_asm)
    (case F => k_asm)
    (case X => k_asm)
    (case N => k_asm)
    (case T => k_asm)
    (case hk => exact rfl)
    (case hd => ktr_room)
    (case hu => ktr_units)
    (case hn => walk_at "sub")
    (case hPR => exact Ords.dxx ho0)
    rintro r9 T9 M9 p9 h9 tk9 F9 N9 hf9 off9 hs9 hL9 ⟨rfl, hp9⟩
    revert N9
    refine PartL.elim hL9 ?_
    clear hL9
    intro k9 u1 u2 u3 u4 la9 lb9 hA9 hB9 N9
    dsimp only [List.cons_append, List.nil_append] at N9
    have hC9 := hC.mono hs9
    subst hp9
    all_goals (try dsimp only)
    all_goals (try k_fold)
    k_steps
    exact hret _ ([(ib, _), (b, _), (dx, _), (x, _), (fl, _), (kn, _), (ag, _), (hr, _)] ++ (T9 ++ own₀)) _ _ (by k_asm) (News.sub (by assumption) (by walk_at "sub")) (hRp _ T9 [(ib, _), (b, _), (dx, _), (x, _), (fl, _), (kn, _), (ag, _), (hr, _)] { S with p := { S.p with lim := max S.p.lim _ } } hf9.tail (LawL.of vs9 ns9 n09 seed9 ts9 n19 k9 u1 u2 u3 u4 la9 lb9 fvs n2 ok oa _ _ hi9 hl9 hs09 hs19 hA9 hB9 hC9 hK hG hH) ⟨rfl, .raise _ hk0 hk1⟩)))
  (k_with "my call" => (
    (try dsimp only [List.cons_append, List.nil_append])
    (with_reducible show wpAny _ _ (call (Value.ref 105) [Value.ref _]) _ _ _)
    refine' MSpec.useL (P := [(ib, _), (b, _)]) (M2 := [(dx, _), (x, _)]) (R := [(fl, _), (kn, _), (ag, _), (hr, _)]) (own₀ := (Lc + 1, oc) :: own₀) (adr := [ib, b, dx, x, fl, kn, ag, hr]) (finish_spec _ _ _ S.p _ _ o3 (PartL.of k t1 t2 t3 t4 la lb hA hB) (hop (by assumption)) (by assumption)) rfl rfl ?hPR (Sub.consR hsub) ?hf ?off ?B ?F ?X ?N ?T ?hk ?hd ?hu ?hn ?_
    (case hf => exact FreshM.nil)
    (case off => exact offc8)
    (case B => k_asm)
    (case F => k_asm)
    (case X => k_asm)
    (case N => k_asm)
    (case T => k_asm)
    (case hk => exact rfl)
    (case hd => ktr_room)
    (case hu => ktr_units)
    (case hn => walk_at "sub")
    (case hPR => exact Ords.dxx ho0)
    rintro r9 T9 M9 p9 h9 tk9 F9 N9 hf9 off9 hs9 hL9 ⟨rfl, hp9⟩
    revert N9
    refine PartL.elim hL9 ?_
    clear hL9
    intro k9 u1 u2 u3 u4 la9 lb9 hA9 hB9 N9
    dsimp only [List.cons_append, List.nil_append] at N9
    have hC9 := hC.mono hs9
    subst hp9
    all_goals (try dsimp only)
    all_goals (try k_fold)
    k_steps
    exact hret _ ([(ib, _), (b, _), (dx, _), (x, _), (fl, _), (kn, _), (ag, _), (hr, _)] ++ (T9 ++ own₀)) _ _ (by k_asm) (News.sub (by assumption) (by walk_at "sub")) (hRp _ T9 [(ib, _), (b, _), (dx, _), (x, _), (fl, _), (kn, _), (ag, _), (hr, _)] { S with p := { S.p with fin := true, ow := true } } hf9.tail (LawL.of vs9 ns9 n09 seed9 ts9 n19 k9 u1 u2 u3 u4 la9 lb9 fvs n2 ok oa _ _ hi9 hl9 hs09 hs19 hA9 hB9 hC9 hK hG hH) ⟨rfl, .finish (by assumption)⟩)))
  (k_with "my call" => (
    (with_reducible show wpAny _ _ (call (Value.ref 229) [Value.ref _, Value.ref _, _]) _ _ _)
    rename _[_]? = some _ => hv9
    obtain ⟨c9, hc9, hcv9⟩ := hC.get hv9
    obtain ⟨cv9, tc1, tc2, nc9, rfl, hm9⟩ := id hcv9
    have hcm9 := List.mem_of_getElem? hc9
    have hok9 := hok.ack _ hcm9
    have hk8 := hi9
    refine' LSpec.useL (M := [(ib, _), (b, _), (dx, _), (x, _), (fl, _), (kn, _), (ag, _), (hr, _)]) (own₀ := (Lc + 1, oc) :: own₀) (acked_law w ib b dx x fl kn ag hr { S with fl := S.fl.eraseIdx k9.toNat } _ _ _ _ ho0 ?hP hcv9 hz hzA hzB hok9.A' hzk hzg hok9.of hok9.cs) rfl (Sub.consR hsub) ?hf ?off ?B ?F ?X ?N ?T ?hk ?hd ?hu ?hn ?_
    (case hf => exact FreshM.nil)
    (case off => exact offc8)
    (case B => k_asm)
    (case F => k_asm)
    (case X => k_asm)
    (case N => k_asm)
    (case T => k_asm)
    (case hk => exact rfl)
    (case hd => ktr_room)
    (case hu => ktr_units)
    (case hn => walk_at "sub")
    (case hP => exact (LawL.of vs9 ns9 n09 seed9 ts9 n19 k t1 t2 t3 t4 la lb (fvs.eraseIdx k9.toNat) _ ok oa oh tw hi9 hl9 hs09 hs19 hA hB (hC.erase _) hK hG hH))
    rintro r9 T9 M9 S9 h9 tk9 F9 N9 hf9 off9 hs9 hL9 ⟨rfl, hp9⟩
    subst hp9
    all_goals (try dsimp only)
    all_goals (try k_fold)
    k_steps
    exact hret _ (M9 ++ (T9 ++ own₀)) _ _ (by k_asm) (News.sub (by assumption) (by walk_at "sub")) (hRp _ T9 M9 _ hf9.tail hL9 ⟨rfl, .acked _ c9 hc9⟩)))
  (k_with "my call" => (
    (with_reducible show wpAny _ _ (call (Value.ref 236) [Value.ref _, Value.ref _, _]) _ _ _)
    rename _[_]? = some _ => hv9
    obtain ⟨c9, hc9, hcv9⟩ := hC.get hv9
    obtain ⟨cv9, tc1, tc2, nc9, rfl, hm9⟩ := id hcv9
    have hcm9 := List.mem_of_getElem? hc9
    have hok9 := hok.lost _ hcm9
    have hk8 := hi9
    refine' LSpec.useL (M := [(ib, _), (b, _), (dx, _), (x, _), (fl, _), (kn, _), (ag, _), (hr, _)]) (own₀ := (Lc + 1, oc) :: own₀) (lost_law w ib b dx x fl kn ag hr { S with fl := S.fl.eraseIdx k9.toNat } _ _ _ _ ho0 ?hP hcv9 hok9.st hok9.zw hok9.zB hzk hzg hok9.of hok9.cs) rfl (Sub.consR hsub) ?hf ?off ?B ?F ?X ?N ?T ?hk ?hd ?hu ?hn ?_
    (case hf => exact FreshM.nil)
    (case off => exact offc8)
    (case B => k_asm)
    (case F => k_asm)
    (case X => k_asm)
    (case N => k_asm)
    (case T => k_asm)
    (case hk => exact rfl)
    (case hd => ktr_room)
    (case hu => ktr_units)
    (case hn => walk_at "sub")
    (case hP => exact (LawL.of vs9 ns9 n09 seed9 ts9 n19 k t1 t2 t3 t4 la lb (fvs.eraseIdx k9.toNat) _ ok oa oh tw hi9 hl9 hs09 hs19 hA hB (hC.erase _) hK hG hH))
    rintro r9 T9 M9 S9 h9 tk9 F9 N9 hf9 off9 hs9 hL9 ⟨rfl, hp9⟩
    subst hp9
    all_goals (try dsimp only)
    all_goals (try k_fold)
    k_steps
    exact hret _ (M9 ++ (T9 ++ own₀)) _ _ (by k_asm) (News.sub (by assumption) (by walk_at "sub")) (hRp _ T9 M9 _ hf9.tail hL9 ⟨rfl, .lost _ c9 hc9⟩)))
  (k_with "my call" => (
    (with_reducible show wpAny _ _ (call (Value.ref 222) [Value.ref _, Value.ref _, Value.ref _, Value.bool _]) _ _ _)
    refine' LSpec.useL (M := [(ib, _), (b, _), (dx, _), (x, _), (fl, _), (kn, _), (ag, _), (hr, _)]) (own₀ := (Lc + 1, oc) :: own₀) (chunk_law w ib b dx x fl kn ag hr S _ _ false ho0 ?hP hok.ck hhw hz hzB hzk hzg (by omega)) rfl (Sub.consR hsub) ?hf ?off ?B ?F ?X ?N ?T ?hk ?hd ?hu ?hn ?_
    (case hf => exact FreshM.nil)
    (case off => exact offc8)
    (case B => k_asm)
    (case F => k_asm)
    (case X => k_asm)
    (case N => k_asm)
    (case T => k_asm)
    (case hk => exact rfl)
    (case hd => ktr_room)
    (case hu => ktr_units)
    (case hn => walk_at "sub")
    (case hP => exact (LawL.of vs9 ns9 n09 seed9 ts9 n19 k t1 t2 t3 t4 la lb fvs _ ok oa oh tw hi9 hl9 hs09 hs19 hA hB hC hK hG hH))
    rintro r9 T9 M9 S9 h9 tk9 F9 N9 hf9 off9 hs9 hL9 ⟨rfl, most9, mn9, hal9, hp9⟩
    subst hp9
    all_goals (try dsimp only)
    all_goals (try k_fold)
    k_steps
    exact hret _ (M9 ++ (T9 ++ own₀)) _ _ (by k_asm) (News.sub (by assumption) (by walk_at "sub")) (hRp _ T9 M9 _ hf9.tail hL9 ⟨rfl, .chunk _ _ hal9⟩)))
  k_steps
theorem box_spec (w : World) (sc : Nat) (vs : List Value) (ns : List Int) (t : Tok) (hi : IntsAre vs ns) (hl : ns.length ≤ 63)
    {mean : ExcName → Option Value} {mg mb : Str → Option Value} {dp un : Nat} {gd : Option (List Code)} {cn : Str} {cs : Scope} {a : Addr} {ccd : Value} {cl : List (Str × Addr)} {outer : List Env} {A₀ : Around} {base h₀ : Heap} {L : Addr} {m : Str → Option Value} {s : Shared}
    {Q E : Value → Shared → Prop} (B : Below A₀ base outer h₀) (F : Fr h₀ L s.heap m) (X : (NH.hd.heap_39 w.params).In h₀) (N : News h₀ L s.heap []) (T : Top NH.hd.view_39 (looseW NH.hd.view_39 [Str.ofString "OPEN_STATES"]) mean mg mb h₀) (hk : cs.kind = .function)
    (hd : dp + 3 < recursionLimit) (hu : un + 40 < cLine) (hL : h₀.IsList sc vs.toArray)
    (hret : ∀ (ib b : Nat) vs' ns' n0 seed ts n1 h' tk', Fr h₀ L h' m → News h₀ L h' [(b, listOf #[.ref ib, .int seed ts] n1), (ib, listOf (List.toArray vs') n0)] → ib < b → IntsAre vs' ns' → ns'.length ≤ 40 → 0 ≤ seed → seed < 2147483647 → Q (.ref b) { s with heap := h', toks := tk' }) :
    wpAny (model PySem.Challenge.rw_no0075_01.row.prog w) (ktrTop dp un gd cn cs L a ccd cl outer) (call (.ref 210) [.ref sc, .int 61 t]) Q E s := by
  k_with_none
  (k_with "call type:list" => (k_here; (with_reducible show wpAny _ _ (call (Value.type _) [Value.ref _]) _ _ _); k_dflt (refine' r_list ?nsF ?nsN ?nsm ?nsz ?_; (case nsF => k_asm); (case nsN => k_asm); (case nsm => k_mem); (case nsz => omega)); intro D' c' h' F' N' l1; (try k_lt l1); (try k_sweep)))
  (k_with "binaryOp Add ref ref" => (k_here; (with_reducible show wpAny _ _ (binaryOp _ (Value.ref _) (Value.ref _)) _ _ _); k_dflt (refine' r_cat ?nsF ?nsN ?nsm ?nsb ?nsz ?_; (case nsF => k_asm); (case nsN => k_asm); (case nsm => k_mem); (case nsb => k_mem); (case nsz => (simp only [List.length_cons, List.length_nil]; omega))); intro D' h' F' N' l1; (try k_lt l1); (try k_sweep)))
  (k_with "call builtin:list.append" => (k_here; (with_reducible show wpAny _ _ (call (Value.builtin _) [Value.ref _, _]) _ _ _); k_dflt (refine' r_append ?nsF ?nsN ?nsU ?nsz ?_; (case nsF => k_asm); (case nsN => k_asm); (case nsU => k_upd); (case nsz => (simp only [List.length_append, List.length_cons, List.length_nil]; omega))); intro h' F' N'; (try k_sweep)))
  (k_with "exec For Tuple Name cons nil" => (k_here; (rename Fr _ _ _ _ => lF'); (with_unfolding_all refine' For_turns lF' ?_); (try k_fold)))
  (k_with "sub" => (repeat' (first | (with_reducible exact Sub.refl _) | (with_reducible exact Sub.nil) | (with_reducible assumption) | ((with_reducible show Sub (_ :: _) _); refine Sub.consL (by k_mem) ?_) | (with_reducible refine Sub.appL ?_ ?_) | (with_reducible exact Sub.appR1 (Sub.refl _)) | (with_reducible exact Sub.appR2 (Sub.refl _)) | (with_reducible exact Sub.appR1 (Sub.appR1 (Sub.refl _))) | (with_reducible exact Sub.appR1 (Sub.appR2 (Sub.refl _))) | (with_reducible refine Sub.consR ?_) | (with_reducible refine Sub.appR2 ?_))))
  (k_with "call builtin:list.pop" => (k_here; (with_reducible show wpAny _ _ (call (Value.builtin _) [Value.ref _, Value.int _ _]) _ _ _); k_dflt (refine' pop0 ?nsF ?nsN ?nsU ?nsz ?_; (case nsF => k_asm); (case nsN => k_asm); (case nsU => k_upd); (case nsz => omega)); (intro h' F' N')))
  (k_with "call builtin:len" => (k_here; (with_reducible show wpAny _ _ (call (Value.builtin "len") [Value.ref _]) _ _ _); k_dflt (refine' r_len ?nsF ?nsN ?nsm ?nse ?nsz ?_; (case nsF => k_asm); (case nsN => k_asm); (case nsm => k_mem); (case nse => first | exact rfl | assumption | (simp only [List.length_cons, List.length_nil]; exact rfl)); (case nsz => ((try simp only [List.length_cons, List.length_nil, List.length_append, List.length_map]); omega))); (try simp only [List.length_cons, List.length_nil])))
  (k_with "subscriptTail" => (k_here; (with_reducible show wpAny _ _ (subscriptTail _ _ (Value.ref _) (Value.int _ _)) _ _ _); (with_unfolding_all refine' r_item ?nsN ?nsm ?nsh0 ?nshi ?nshx ?_ ?nshs; (case nsN => k_asm); (case nsm => k_mem); (case nsh0 => decide); (case nshi => decide); (case nshx => rfl); (case nshs => with_unfolding_all rfl); k_whole)))
  (k_with "compareOp In str ref" => (k_here; (with_reducible show wpAny _ _ (compareOp _ (Value.str _ _) (Value.ref _)) _ _ _); (first | (with_unfolding_all refine' r_instr true ?nsht ?nshi ?nshb ?_; (case nsht => first | exact News.isTup (by k_asm) (by k_mem) | exact kun_topT (by k_asm) (by k_asm) (by k_is)); (case nshi => kde_strs); (case nshb => decide)) | (with_unfolding_all refine' r_instr false ?nsht ?nshi ?nshb ?_; (case nsht => first | exact News.isTup (by k_asm) (by k_mem) | exact kun_topT (by k_asm) (by k_asm) (by k_is)); (case nshi => kde_strs); (case nshb => decide)) | (with_unfolding_all refine' r_instr _ ?nsht ?nshi ?nshb ?_; (case nsht => first | exact News.isTup (by k_asm) (by k_mem) | exact kun_topT (by k_asm) (by k_asm) (by k_is)); (case nshi => kde_strs); (case nshb => walk_at "st in")))))
  (k_with "compareOp NotIn str ref" => (k_here; (with_reducible show wpAny _ _ (compareOp _ (Value.str _ _) (Value.ref _)) _ _ _); (first | (with_unfolding_all refine' r_notinstr true ?nsht ?nshi ?nshb ?_; (case nsht => first | exact News.isTup (by k_asm) (by k_mem) | exact kun_topT (by k_asm) (by k_asm) (by k_is)); (case nshi => kde_strs); (case nshb => decide)) | (with_unfolding_all refine' r_notinstr false ?nsht ?nshi ?nshb ?_; (case nsht => first | exact News.isTup (by k_asm) (by k_mem) | exact kun_topT (by k_asm) (by k_asm) (by k_is)); (case nshi => kde_strs); (case nshb => decide)) | (with_unfolding_all refine' r_notinstr _ ?nsht ?nshi ?nshb ?_; (case nsht => first | exact News.isTup (by k_asm) (by k_mem) | exact kun_topT (by k_asm) (by k_asm) (by k_is)); (case nshi => kde_strs); (case nshb => walk_at "st in")))))
  (k_with "exec If" => k_dflt (k_extra "my if"))
  (k_with "eval BoolOp" => k_dflt (k_extra "my bool"))
  (k_with "eval IfExp" => k_dflt (k_extra "my ifexp"))
  (k_with "isTrue BoolOp" => k_dflt (k_extra "my test"))
  (k_with "call ref" => k_dflt (k_extra "my call"))
  (k_with "subscriptTail" => (k_here; (with_reducible show wpAny _ _ (subscriptTail _ (Expr.Slice _ _ none _) (Value.bytes _ _) (Value.ref _)) _ _ _); (with_reducible rename Fr _ _ _ _ => F'); (with_reducible rename News _ _ _ _ => N'); k_dflt (refine r_bslice (s := ⟨_, _, _, _, _⟩) F' N' (by constructor) (by constructor) (by omega) ?_); intro _ _ _ _ _))
  (k_with "call type:bytes" => (k_here; (with_reducible show wpAny _ _ (call (Value.type "bytes") [Value.bytes _ _]) _ _ _); refine call_bytes_bytes ?_))
  (k_with "newTuple" => (k_here; k_dflt (refine' r_newTuple ?nsF ?nsN ?nsz ?_; (case nsF => k_asm); (case nsN => k_asm); (case nsz => exact Nat.le_of_ble_eq_true rfl)); intro D' h' F' N' l1; (have l0 := l1); (try k_lt l1); (try k_sweep)))
  (k_with "newList" => (k_here; k_dflt (refine' r_newList ?nsF ?nsN ?nsz ?_; (case nsF => k_asm); (case nsN => k_asm); (case nsz => exact Nat.le_of_ble_eq_true rfl)); intro D' h' F' N' l1; (have l0 := l1); (try k_lt l1); (try k_sweep)))
  (k_with "binaryOp Add bytes bytes" => (k_here; (with_reducible show wpAny _ _ (binaryOp _ (Value.bytes _ _) (Value.bytes _ _)) _ _ _); refine r_badd (by omega) ?_; intro _ _))
  (k_with "exec For Tuple Call cons nil" => (k_here; (rename Fr _ _ _ _ => lF'); (with_unfolding_all refine' For_turns lF' ?_); (try k_fold)))
  (k_with "st in" => first | exact congrArg not (st_in _) | exact congrArg not (st_lost _) | exact st_in _ | exact st_lost _)
  (k_with "lt" => (intro b hb; (simp only [List.mem_cons, List.not_mem_nil, or_false] at hb); rcases hb with rfl | rfl <;> omega))
  (k_with "apart" => ((try simp only [List.cons_append, List.nil_append]); (repeat' (first | exact offNil | (refine offCons (by k_all) ?_)))))
  (k_with "subscriptTail Name Constant ref str" => (k_here; (with_reducible show wpAny _ _ (subscriptTail _ _ (Value.ref _) (Value.str _ _)) _ _ _); k_dflt (refine' kda_item (knd := PySem.strKind PySem.Challenge.rw_no0075_01.row.prog _) ?nsN ?nsm ?nsd ?nsk ?nsl ?_ ?nshs ?nshg; (case nsN => k_asm); (case nsm => with_reducible k_mem); (case nsd => with_reducible assumption); (case nsk => exact strKind_is _ _ _ _); (case nsl => first | exact (rfl : _ = some (Value.ref _)) | exact (rfl : _ = some (Value.bytes _ _))); (case nshs => with_unfolding_all rfl); (case nshg => (intro _; with_unfolding_all rfl)); k_whole)))
  (k_with "setItem ref int" => (k_here; (with_reducible show wpAny _ _ (setItem (Value.ref _) (Value.int _ _) (Value.bool true)) _ _ _); k_dflt (refine' dk_set (k := KeyP.inl _) ?nsF ?nsN ?nsU ?nsd ?nsk ?nsz ?_; (case nsF => k_asm); (case nsN => k_asm); (case nsU => k_updF); (case nsd => with_reducible assumption); (case nsk => exact mix_int _ _); (case nsz => omega)); (intro h' o' F' N' hd'); (try k_sweep)))
  (k_with "setItem ref str" => (k_here; (with_reducible show wpAny _ _ (setItem (Value.ref _) (Value.str _ _) (Value.bool true)) _ _ _); k_dflt (refine' dk_set (k := KeyP.inr _) ?nsF ?nsN ?nsU ?nsd ?nsk ?nsz ?_; (case nsF => k_asm); (case nsN => k_asm); (case nsU => k_updF); (case nsd => with_reducible assumption); (case nsk => exact mix_str _ _); (case nsz => omega)); (intro h' o' F' N' hd'); (try k_sweep)))
  (k_with "getMethod ref" => (k_here; (with_reducible show wpAny _ _ (getMethod (Value.ref _) (PySem.Str.ofString "pop") _) _ _ _); k_dflt (refine' dk_popm ?nsN ?nsm ?nsd ?_; (case nsN => k_asm); (case nsm => with_reducible k_mem); (case nsd => with_reducible assumption))))
  (k_with "call builtin:dict.pop" => (k_here; (with_reducible show wpAny _ _ (call (Value.builtin _) [Value.ref _, Value.int _ _, Value.none]) _ _ _); k_dflt (refine' dk_pop ?nsF ?nsN ?nsU ?nsd ?nslo ?nsz ?_; (case nsF => k_asm); (case nsN => k_asm); (case nsU => k_updF); (case nsd => with_reducible assumption); (case nslo => assumption); (case nsz => omega)); (intro h' o' r' F' N' hd'); (try k_sweep)))
  (k_with "compareOp NotIn int ref" => (k_here; (with_reducible show wpAny _ _ (compareOp _ (Value.int _ _) (Value.ref _)) _ _ _); k_dflt (refine' dk_notin (k := KeyP.inl _) ?nsN ?nsm ?nsd ?nslo ?nsk ?_; (case nsN => k_asm); (case nsm => with_reducible k_mem); (case nsd => with_reducible assumption); (case nslo => assumption); (case nsk => exact mix_int _ _))))
  (k_with "compareOp In str ref" => (k_here; (with_reducible show wpAny _ _ (compareOp _ (Value.str _ _) (Value.ref _)) _ _ _); k_dflt (refine' dk_in (k := KeyP.inr _) ?nsN ?nsm ?nsd ?nslo ?nsk ?_; (case nsN => k_asm); (case nsm => with_reducible k_mem); (case nsd => with_reducible assumption); (case nslo => assumption); (case nsk => exact mix_str _ _))))
  (k_with "call builtin:len" => (k_here; (with_reducible show wpAny _ _ (call (Value.builtin "len") [Value.ref _]) _ _ _); k_dflt (refine' dk_len ?nsN ?nsm ?nsd ?nslo ?nsz ?_; (case nsN => k_asm); (case nsm => with_reducible k_mem); (case nsd => with_reducible assumption); (case nslo => assumption); (case nsz => omega))))
  (k_with "exec For Name Call cons nil" => (k_here; (rename Fr _ _ _ _ => lF'); (with_unfolding_all refine' For_turns lF' ?_); (try k_fold)))
  (k_with "call type:range" => (k_here; (with_reducible show wpAny _ _ (call _ [_, _]) _ _ _); k_dflt (refine' range2_rows ?nsF ?nsN ?_; (case nsF => k_asm); (case nsN => k_asm)); (intro h' tk' t1' t2' t3' hR' F' N' hk'; clear hk'); (try k_sweep)))
  (k_with "exec For Name Subscript cons nil" => (k_here; (rename Fr _ _ _ _ => lF'); (with_unfolding_all refine' For_turns lF' ?_); (try k_fold)))
  (k_with "subscriptTail Name Slice ref ref" => (k_here; (with_reducible show wpAny _ _ (subscriptTail _ (PySem.Expr.Slice _ _ none _) (Value.ref _) (Value.ref _)) _ _ _); (rename Heap.IsList _ _ _ => hL8'); (rename IntsAre _ _ => hI8'); k_dflt (refine' kmk_slice_ints ?nsF ?nsN (hL8'.at fun o e => Fr.keep (by k_asm) _ o e) ?nsp ?nsq hI8' ?nsm ?nsc ?_ ?nss ?nst ?nsz; (case nsF => k_asm); (case nsN => k_asm); (case nsp => kmk_part); (case nsq => kmk_part); (case nsm => exact kmk_upto hI8' (by decide)); (case nsc => exact rfl); (case nss => with_unfolding_all rfl); (case nst => kmk_pure); (case nsz => exact kmk_sz hI8' (by rw [PySem.sizeLine_eq]; omega))); (intro D' ws' h' F' N' l1 hI' hC' hL'; (have l0 := l1); (try k_lt l1); (try k_sweep))))
  have hmod2 : ∀ y : Int, 0 ≤ y.fmod 2147483647 ∧ y.fmod 2147483647 < 2147483647 := fun y => ⟨by rw [Int.fmod_eq_emod_of_nonneg y (by omega)]; exact Int.emod_nonneg y (by omega), by rw [Int.fmod_eq_emod_of_nonneg y (by omega)]; exact Int.emod_lt_of_pos y (by omega)⟩
  have hvl := hi.length
  revert X
  k_fill
  intro X
  refine wpAny_call ?_
  k_dflt cell_enter
  rename Fr h₀ _ _ _ => FG
  have hL2 := hL.at fun o e => FG.keep _ o e
  k_steps
  rename News _ _ _ (_ :: _) => N₁
  rename Fr _ _ _ _ => F₁
  rename IntsAre _ _ => hI9
  refine loopL (nn := 0) (fun i m nx => (∃ D o, nx = [(D, o)]) ∧ m (Str.ofString "script") = some (.ref sc) ∧ ∃ sd tt, m (Str.ofString "seed_here") = some (.int sd tt) ∧ 0 ≤ sd ∧ sd < 2147483647) rfl (.head _) F₁ N₁ ?_ ?_ ?_
  · exact ⟨⟨_, _, rfl⟩, rfl, _, _, rfl, by decide, by decide⟩
  · rintro i v m₁ nx h tk own₁ hv off hl₁ ⟨⟨D₂, o₂, rfl⟩, hm1, sd, tt, hm2, hs1, hs2⟩ F₂ N₂
    clear N₁ F₁
    obtain ⟨k9, t9, rfl, _⟩ := IntsAre.at hI9 i v hv
    have F₃ := frNames [(Str.ofString "script", .ref sc), (Str.ofString "seed_here", .int sd tt)] F₂ (by intro p hp; simp only [List.mem_cons, List.not_mem_nil, or_false] at hp; rcases hp with rfl | rfl <;> assumption)
    clear F₂
    k_steps
    exact TEnd.next [(D₂, o₂)] (by k_asm) (by assumption) (by walk_at "sub") (by walk_at "sub") off ⟨hl₁, ⟨_, _, rfl⟩, rfl, _, _, rfl, (hmod2 _).1, (hmod2 _).2⟩
  · rintro m₁ nx h tk hl₁ ⟨⟨D₂, o₂, rfl⟩, hm1, sd, tt, hm2, hs1, hs2⟩ F₂ N₂
    clear N₁ F₁
    have F₃ := frNames [(Str.ofString "script", .ref sc), (Str.ofString "seed_here", .int sd tt)] F₂ (by intro p hp; simp only [List.mem_cons, List.not_mem_nil, or_false] at hp; rcases hp with rfl | rfl <;> assumption)
    clear F₂
    clear hI9
    dsimp only
    have hz9 : ns.length ≤ 1000 := by omega
    k_steps
    exact hret _ _ _ _ _ _ _ _ _ _ (by k_asm) (News.sub (by assumption) (by walk_at "sub")) (by first | exact And.left (by assumption) | omega) (by assumption) (by rw [List.length_take]; exact Nat.min_le_left _ _) hs1 hs2
abbrev Chunk := Int × Array UInt8 × Bool
abbrev cEnd (c : Chunk) : Int := c.1 + (c.2.1.size : Int)
/-- what holds between the law's turns; live: the chunks yet to be told of -/
structure Core (p : PS) (kn ag : List Key) (live : List Chunk) : Prop where
  se0 : 0 ≤ p.se
  sen : p.se ≤ p.n
  nA : NormFrom (-1) p.A
  nB : NormFrom (-1) p.B
  aT : ∀ i, memS i p.A → i < p.se
  bT : ∀ i, memS i p.B → i < p.se
  ab : ∀ i, memS i p.A → memS i p.B → False
  cov : ∀ i, 0 ≤ i → i < p.se → memS i p.A ∨ memS i p.B ∨ ∃ c ∈ live, c.1 ≤ i ∧ i < cEnd c
  liv : ∀ c ∈ live, 0 ≤ c.1 ∧ cEnd c ≤ p.se ∧ c.2.1.size ≤ 9 ∧ (c.2.2 = true → p.fin = true ∧ (p.st = .sent ∨ p.st = .recvd)) ∧ p.st ≠ .ready
  eaF : p.ea = true → p.fin = true ∧ p.ow = false ∧ (p.st = .sent ∨ p.st = .recvd)
  owF : p.ow = true → p.fin = true
  stF : (p.st = .sent ∨ p.st = .recvd) → p.fin = true ∧ p.se = p.n
  fiN : p.fin = true → p.ow = true ∨ p.ea = true ∨ ∃ c ∈ live, c.2.2 = true
  rcv : p.st = .recvd ↔ (p.ea = true ∧ ∀ i, 0 ≤ i → i < p.n → memS i p.A)
  knI : ∀ i : Int, (KeyP.inl i : Key) ∈ kn ↔ memS i p.A
  knE : (KeyP.inr END : Key) ∈ kn ↔ p.ea = true
  knX : ∀ x : Str, (KeyP.inr x : Key) ∈ kn → x = END
  knN : kn.Nodup
  agI : ∀ i : Int, (KeyP.inl i : Key) ∈ ag ↔ memS i p.B
  agX : ∀ x : Str, (KeyP.inr x : Key) ∈ ag → False
  agN : ag.Nodup
theorem len_sub {α : Type} [DecidableEq α] : ∀ {l l' : List α}, l.Nodup → l ⊆ l' → l.length ≤ l'.length
  | [], _, _, _ => Nat.zero_le _
  | a :: r, l', hn, hs => by
    have ha : a ∈ l' := hs (List.mem_cons_self ..)
    have hn' := List.nodup_cons.mp hn
    have hr : r ⊆ l'.erase a := fun x hx => (List.mem_erase_of_ne (fun e => hn'.1 (by rw [← e]; exact hx))).mpr (hs (List.mem_cons_of_mem _ hx))
    have h1 := len_sub hn'.2 hr
    have h2 := List.length_erase_of_mem ha
    have h3 := List.length_pos_of_mem ha
    simp only [List.length_cons]
    omega
theorem n_def (p : PS) : p.n = (p.W.size : Int) := rfl
theorem n_nonneg (p : PS) : 0 ≤ p.n := by rw [n_def]; omega
section
variable {p : PS} {kn ag : List Key} {live : List Chunk}
theorem Core.lenA (h : Core p kn ag live) : (p.A.length : Int) ≤ p.se + 1 := by
  have := h.nA.len (N := p.se) h.aT (by have := h.se0; omega); omega
theorem Core.lenB (h : Core p kn ag live) : (p.B.length : Int) ≤ p.se + 1 := by
  have := h.nB.len (N := p.se) h.bT (by have := h.se0; omega); omega
theorem keys_len {ks : List Key} {N : Nat} (hn : ks.Nodup) (h : ∀ i : Int, (KeyP.inl i : Key) ∈ ks → 0 ≤ i ∧ i < (N : Int)) (hx : ∀ x : Str, (KeyP.inr x : Key) ∈ ks → x = END) : ks.length ≤ N + 1 := by
  have hs : ks ⊆ ((rowI 0 N).map fun i => (KeyP.inl i : Key)) ++ [KeyP.inr END] := by
    intro k hk
    cases k with
    | inl i =>
      refine List.mem_append_left _ (List.mem_map.mpr ⟨i, mem_rowI.mpr ?_, rfl⟩)
      have := h i hk
      omega
    | inr x => rw [hx x hk]; simp
  have := len_sub hn hs
  simpa [rowI_length] using this
theorem Core.lenK (h : Core p kn ag live) : kn.length ≤ p.W.size + 1 := by
  refine keys_len h.knN (fun i hi => ?_) h.knX
  have h1 := (h.knI i).mp hi
  have h2 := h.aT i h1
  have h3 := h.nA.low h1
  have h4 := h.sen
  rw [n_def] at h4
  omega
theorem Core.lenG (h : Core p kn ag live) : ag.length ≤ p.W.size + 1 := by
  refine keys_len h.agN (fun i hi => ?_) (fun x hx => (h.agX x hx).elim)
  have h1 := (h.agI i).mp hi
  have h2 := h.bT i h1
  have h3 := h.nB.low h1
  have h4 := h.sen
  rw [n_def] at h4
  omega
/-- all is known: the part is over -/
theorem Core.all (h : Core p kn ag live) : decide (p.st = .recvd) = decide ((KeyP.inr END : Key) ∈ kn ∧ (kn.length : Int) = (p.W.size : Int) + 1) := by
  rw [Bool.eq_iff_iff, decide_eq_true_eq, decide_eq_true_eq]
  rw [h.rcv, h.knE]
  constructor
  · rintro ⟨h1, h2⟩
    refine ⟨h1, ?_⟩
    have hs : ((rowI 0 p.W.size).map fun i => (KeyP.inl i : Key)) ++ [KeyP.inr END] ⊆ kn := by
      intro k hk
      rcases List.mem_append.mp hk with hk | hk
      · obtain ⟨i, hi, rfl⟩ := List.mem_map.mp hk
        have := mem_rowI.mp hi
        exact (h.knI i).mpr (h2 i (by omega) (by rw [n_def]; omega))
      · rw [List.mem_singleton.mp hk]; exact h.knE.mpr h1
    have hn : (((rowI 0 p.W.size).map fun i => (KeyP.inl i : Key)) ++ [KeyP.inr END]).Nodup := by
      rw [List.nodup_append]
      refine ⟨?_, by simp, ?_⟩
      · unfold rowI
        rw [List.map_map]
        unfold List.Nodup
        rw [List.pairwise_map]
        refine List.Pairwise.imp ?_ (List.nodup_range (n := p.W.size))
        intro a b hne e
        simp only [Function.comp, KeyP.inl.injEq] at e
        omega
      · intro a ha b hb e
        obtain ⟨i, _, rfl⟩ := List.mem_map.mp ha
        rw [List.mem_singleton] at hb
        rw [hb] at e; cases e
    have h3 := len_sub hn hs
    simp only [List.length_append, List.length_map, rowI_length, List.length_cons, List.length_nil] at h3
    have h4 := h.lenK
    omega
  · rintro ⟨h1, h2⟩
    refine ⟨h1, fun i hi0 hi1 => ?_⟩
    rw [← h.knI]
    -- a missing key would leave too few
    by_cases hm : (KeyP.inl i : Key) ∈ kn
    · exact hm
    · exfalso
      have hs : (KeyP.inl i : Key) :: kn ⊆ ((rowI 0 p.W.size).map fun i => (KeyP.inl i : Key)) ++ [KeyP.inr END] := by
        intro k hk
        rcases List.mem_cons.mp hk with rfl | hk
        · rw [n_def] at hi1
          exact List.mem_append_left _ (List.mem_map.mpr ⟨i, mem_rowI.mpr (by omega), rfl⟩)
        · cases k with
          | inl j =>
            have h5 := (h.knI j).mp hk
            have h6 := h.aT j h5
            have h7 := h.nA.low h5
            have h8 := h.sen
            rw [n_def] at h8
            exact List.mem_append_left _ (List.mem_map.mpr ⟨j, mem_rowI.mpr (by omega), rfl⟩)
          | inr x => rw [h.knX x hk]; simp
      have h3 := len_sub (List.nodup_cons.mpr ⟨hm, h.knN⟩) hs
      simp only [List.length_append, List.length_map, rowI_length, List.length_cons, List.length_nil] at h3
      omega
theorem Core.open_of (h : Core p kn ag live) (k : p.fin = false) : p.st.isOpen = true := by
  have := h.stF
  cases hs : p.st <;> simp_all [St.isOpen]
theorem Core.closed (h : Core p kn ag live) (k : p.st.isOpen = false) : p.se = p.n := by
  have := h.stF
  cases hs : p.st <;> simp_all [St.isOpen]
theorem Core.recvd_none (h : Core p kn ag live) (k : p.st = .recvd) (mn : Option Int) : hasToSend p mn = false := by
  have h1 := h.rcv.mp k
  have h2 := h.eaF h1.1
  have hB : p.B = [] := h.nB.nil_of fun i hi => h.ab i (h1.2 i (by have := h.nB.low hi; omega) (by have := h.bT i hi; have := h.sen; omega)) hi
  unfold hasToSend newRoom
  rw [k, hB, h2.2.1]
  simp [St.isOpen]
end
section
variable {p : PS} {kn ag : List Key} {live : List Chunk}
theorem Core.init (l : Int) : Core { lim := l, st := .ready, W := #[], se := 0, A := [], B := [], fin := false, ow := false, ea := false } [] [] [] where
  se0 := Int.le_refl _
  sen := by simp [n_def]
  nA := trivial
  nB := trivial
  aT := fun i h => absurd h memS_nil
  bT := fun i h => absurd h memS_nil
  ab := fun i h => absurd h memS_nil
  cov := fun i h1 h2 => by simp only at h2; omega
  liv := fun c h => nomatch h
  eaF := fun h => nomatch h
  owF := fun h => nomatch h
  stF := fun h => by rcases h with h | h <;> cases h
  fiN := fun h => nomatch h
  rcv := ⟨fun h => (nomatch h), fun h => nomatch h.1⟩
  knI := fun i => ⟨fun h => (nomatch h), fun h => absurd h memS_nil⟩
  knE := ⟨fun h => (nomatch h), fun h => nomatch h⟩
  knX := fun x h => nomatch h
  knN := List.nodup_nil
  agI := fun i => ⟨fun h => (nomatch h), fun h => absurd h memS_nil⟩
  agX := fun x h => nomatch h
  agN := List.nodup_nil
theorem Core.raise (h : Core p kn ag live) (l : Int) : Core { p with lim := l } kn ag live where
  se0 := h.se0
  sen := h.sen
  nA := h.nA
  nB := h.nB
  aT := h.aT
  bT := h.bT
  ab := h.ab
  cov := h.cov
  liv := h.liv
  eaF := h.eaF
  owF := h.owF
  stF := h.stF
  fiN := h.fiN
  rcv := h.rcv
  knI := h.knI
  knE := h.knE
  knX := h.knX
  knN := h.knN
  agI := h.agI
  agX := h.agX
  agN := h.agN
theorem Core.write (h : Core p kn ag live) (d : Array UInt8) (hf : p.fin = false) : Core { p with W := p.W ++ d } kn ag live where
  se0 := h.se0
  sen := by have := h.sen; simp only [n_def, Array.size_append] at this ⊢; omega
  nA := h.nA
  nB := h.nB
  aT := h.aT
  bT := h.bT
  ab := h.ab
  cov := h.cov
  liv := h.liv
  eaF := h.eaF
  owF := h.owF
  stF := fun k => by have := (h.stF k).1; rw [hf] at this; cases this
  fiN := h.fiN
  rcv := ⟨fun k => (by have := (h.stF (.inr k)).1; rw [hf] at this; cases this), fun k => by have := (h.eaF k.1).1; rw [hf] at this; cases this⟩
  knI := h.knI
  knE := h.knE
  knX := h.knX
  knN := h.knN
  agI := h.agI
  agX := h.agX
  agN := h.agN
theorem Core.finish (h : Core p kn ag live) (hf : p.fin = false) : Core { p with fin := true, ow := true } kn ag live where
  se0 := h.se0
  sen := h.sen
  nA := h.nA
  nB := h.nB
  aT := h.aT
  bT := h.bT
  ab := h.ab
  cov := h.cov
  liv := fun c hc => by
    have := h.liv c hc
    exact ⟨this.1, this.2.1, this.2.2.1, fun k => ⟨rfl, (this.2.2.2.1 k).2⟩, this.2.2.2.2⟩
  eaF := fun k => by have := (h.eaF k).1; rw [hf] at this; cases this
  owF := fun _ => rfl
  stF := fun k => by have := (h.stF k).1; rw [hf] at this; cases this
  fiN := fun _ => .inl rfl
  rcv := ⟨fun k => (by have := (h.stF (.inr k)).1; rw [hf] at this; cases this), fun k => by have := (h.eaF k.1).1; rw [hf] at this; cases this⟩
  knI := h.knI
  knE := h.knE
  knX := h.knX
  knN := h.knN
  agI := h.agI
  agX := h.agX
  agN := h.agN
theorem not_recvd (h : Core p kn ag live) (k : p.st ≠ .recvd) : ¬ (p.ea = true ∧ ∀ i, 0 ≤ i → i < p.n → memS i p.A) := fun e => k (h.rcv.mpr e)
/-- a chunk is acknowledged -/
theorem Core.ack {live' : List Chunk} {c : Chunk} (h : Core p kn ag live) (hc : c ∈ live) (hl : ∀ d ∈ live', d ∈ live) (hl' : ∀ d ∈ live, d = c ∨ d ∈ live') :
    Core (ackPS p c.1 c.2.1.size c.2.2) (if c.2.2 then keyPut (putAll kn (rowI c.1 c.2.1.size)) (.inr END) else putAll kn (rowI c.1 c.2.1.size)) (delAll ag (rowI c.1 c.2.1.size)) live' := by
  obtain ⟨c1, c2, c3, c4, c5⟩ := h.liv c hc
  have hA : ∀ i, memS i (addSpan p.A c.1 (c.1 + (c.2.1.size : Int))) ↔ memS i p.A ∨ (c.1 ≤ i ∧ i < cEnd c) := fun i => addSpan_mem h.nA
  have hB : ∀ i, memS i (cutSpan p.B c.1 (c.1 + (c.2.1.size : Int))) ↔ memS i p.B ∧ ¬ (c.1 ≤ i ∧ i < cEnd c) := fun i => cutSpan_mem
  have hNA : NormFrom (-1) (addSpan p.A c.1 (c.1 + (c.2.1.size : Int))) := addSpan_norm h.nA (by omega)
  have hhas := hasSpan_iff (lo := 0) (hi := p.n) hNA
  -- the state afterwards
  have hst : (ackPS p c.1 c.2.1.size c.2.2).st = .recvd ↔ ((c.2.2 || p.ea) = true ∧ ∀ i, 0 ≤ i → i < p.n → memS i (addSpan p.A c.1 (c.1 + (c.2.1.size : Int)))) := by
    by_cases hs : p.st = .sent
    · by_cases he : (c.2.2 || p.ea) = true
      · by_cases hh : hasSpan (addSpan p.A c.1 (c.1 + (c.2.1.size : Int))) 0 p.n = true
        · rw [ack_recvd hs he hh]
          exact ⟨fun _ => ⟨he, hhas.mp hh⟩, fun _ => rfl⟩
        · rw [ack_st3 (by simpa using hh), hs]
          exact ⟨fun e => (nomatch e), fun e => absurd (hhas.mpr e.2) hh⟩
      · rw [ack_st2 (by simpa using he), hs]
        exact ⟨fun e => (nomatch e), fun e => absurd e.1 he⟩
    · rw [ack_st1 hs]
      constructor
      · intro e
        have := h.rcv.mp e
        refine ⟨by simp [this.1], fun i h0 h1 => (hA i).mpr (.inl (this.2 i h0 h1))⟩
      · rintro ⟨e, _⟩
        rcases Bool.or_eq_true_iff.mp e with e | e
        · exact ((c4 e).2).resolve_left hs
        · exact ((h.eaF e).2.2).resolve_left hs
  have hst2 : (ackPS p c.1 c.2.1.size c.2.2).st = .sent ∨ (ackPS p c.1 c.2.1.size c.2.2).st = .recvd → p.st = .sent ∨ p.st = .recvd := by
    intro e
    by_cases hs : p.st = .sent
    · exact .inl hs
    · rw [ack_st1 hs] at e; exact e
  have hst3 : p.st = .sent ∨ p.st = .recvd → (ackPS p c.1 c.2.1.size c.2.2).st = .sent ∨ (ackPS p c.1 c.2.1.size c.2.2).st = .recvd := by
    rintro (e | e)
    · unfold ackPS
      simp only
      split
      · exact .inr rfl
      · exact .inl e
    · rw [ack_st1 (by rw [e]; exact fun k => nomatch k)]; exact .inr e
  have hst4 : (ackPS p c.1 c.2.1.size c.2.2).st ≠ .ready := by
    by_cases hs : p.st = .sent
    · rcases hst3 (.inl hs) with e | e <;> rw [e] <;> exact fun k => nomatch k
    · rw [ack_st1 hs]; exact c5
  have eK : (if c.2.2 then keyPut (putAll kn (rowI c.1 c.2.1.size)) (.inr END) else putAll kn (rowI c.1 c.2.1.size)) = (if c.2.2 = true then keyPut (putAll kn (rowI c.1 c.2.1.size)) (.inr END) else putAll kn (rowI c.1 c.2.1.size)) := rfl
  refine ⟨h.se0, h.sen, hNA, cutSpan_norm h.nB, fun i hi => ?_, fun i hi => h.bT i ((hB i).mp hi).1, fun i h1 h2 => ?_, fun i h0 h1 => ?_, fun d hd => ?_, fun k => ?_, fun k => ?_, fun k => h.stF (hst2 k), fun k => ?_, hst, fun i => ?_, ?_, fun x hx => ?_, ?_, fun i => ?_, fun x hx => ?_, nodup_delAll h.agN⟩
  · rcases (hA i).mp hi with h1 | h1
    · exact h.aT i h1
    · show i < p.se; omega
  · have h3 := (hB i).mp h2
    rcases (hA i).mp h1 with h4 | h4
    · exact h.ab i h4 h3.1
    · exact h3.2 h4
  · by_cases hi : c.1 ≤ i ∧ i < cEnd c
    · exact .inl ((hA i).mpr (.inr hi))
    · rcases h.cov i h0 h1 with h2 | h2 | ⟨d, hd, h2⟩
      · exact .inl ((hA i).mpr (.inl h2))
      · exact .inr (.inl ((hB i).mpr ⟨h2, hi⟩))
      · rcases hl' d hd with rfl | hd'
        · exact absurd h2 hi
        · exact .inr (.inr ⟨d, hd', h2⟩)
  · obtain ⟨d1, d2, d3, d4, d5⟩ := h.liv d (hl d hd)
    exact ⟨d1, d2, d3, fun k => ⟨(d4 k).1, hst3 (d4 k).2⟩, hst4⟩
  · have k' : c.2.2 = true ∨ p.ea = true := Bool.or_eq_true_iff.mp k
    show p.fin = true ∧ (if c.2.2 then false else p.ow) = false ∧ _
    rcases k' with k' | k'
    · exact ⟨(c4 k').1, by rw [k']; rfl, hst3 (c4 k').2⟩
    · have := h.eaF k'
      exact ⟨this.1, by rw [this.2.1]; simp, hst3 this.2.2⟩
  · have k' : (if c.2.2 then false else p.ow) = true := k
    cases hce : c.2.2 with
    | true => rw [hce] at k'; cases k'
    | false => rw [hce] at k'; exact h.owF k'
  · show (if c.2.2 then false else p.ow) = true ∨ (c.2.2 || p.ea) = true ∨ _
    cases hce : c.2.2 with
    | true => exact .inr (.inl rfl)
    | false =>
      rcases h.fiN k with e | e | ⟨d, hd, e⟩
      · exact .inl (by rw [e]; rfl)
      · exact .inr (.inl (by rw [e]; rfl))
      · rcases hl' d hd with rfl | hd'
        · rw [hce] at e; cases e
        · exact .inr (.inr ⟨d, hd', e⟩)
  · show _ ↔ memS i (addSpan p.A c.1 (c.1 + (c.2.1.size : Int)))
    rw [hA, ← h.knI]
    have hr : (KeyP.inl i : Key) ∈ putAll kn (rowI c.1 c.2.1.size) ↔ (KeyP.inl i : Key) ∈ kn ∨ (c.1 ≤ i ∧ i < cEnd c) := by
      rw [mem_putAll]
      constructor
      · rintro (e | ⟨j, hj, e⟩)
        · exact .inl e
        · cases e; exact .inr (mem_rowI.mp hj)
      · rintro (e | e)
        · exact .inl e
        · exact .inr ⟨i, mem_rowI.mpr e, rfl⟩
    split
    · rw [mem_keyPut, hr]
      constructor
      · rintro (e | e); exact e; cases e
      · exact .inl
    · exact hr
  · show _ ↔ (c.2.2 || p.ea) = true
    have hr : (KeyP.inr END : Key) ∈ putAll kn (rowI c.1 c.2.1.size) ↔ (KeyP.inr END : Key) ∈ kn := by
      rw [mem_putAll]
      constructor
      · rintro (e | ⟨j, hj, e⟩); exact e; cases e
      · exact .inl
    cases hce : c.2.2 with
    | true =>
      rw [if_pos rfl, mem_keyPut]
      exact ⟨fun _ => rfl, fun _ => .inr rfl⟩
    | false =>
      rw [if_neg (fun e => nomatch e), hr, h.knE]
      simp
  · have hr : (KeyP.inr x : Key) ∈ putAll kn (rowI c.1 c.2.1.size) → x = END := fun e => by
      rcases mem_putAll.mp e with e | ⟨j, hj, e⟩
      · exact h.knX x e
      · cases e
    split at hx
    · rcases mem_keyPut.mp hx with e | e
      · exact hr e
      · cases e; rfl
    · exact hr hx
  · split
    · exact nodup_keyPut (nodup_putAll h.knN) _
    · exact nodup_putAll h.knN
  · show _ ↔ memS i (cutSpan p.B c.1 (c.1 + (c.2.1.size : Int)))
    rw [hB, ← h.agI, mem_delAll]
    constructor
    · rintro ⟨e1, e2⟩
      exact ⟨e1, fun k => e2 i (mem_rowI.mpr k) rfl⟩
    · rintro ⟨e1, e2⟩
      refine ⟨e1, fun j hj e => ?_⟩
      cases e
      exact e2 (mem_rowI.mp hj)
  · exact h.agX x (mem_delAll.mp hx).1
end
section
variable {p : PS} {kn ag : List Key} {live : List Chunk}
theorem single_mem {i off sz : Int} : memS i (if sz > 0 then [(off, off + sz)] else []) ↔ off ≤ i ∧ i < off + sz := by
  split
  · rw [memS_cons]
    constructor
    · rintro (h | h); exact h; exact absurd h memS_nil
    · exact .inl
  · constructor
    · intro h; exact absurd h memS_nil
    · intro h; omega
theorem single_norm {off sz : Int} (h0 : 0 ≤ off) : NormFrom (-1) (if sz > 0 then [(off, off + sz)] else []) := by
  split
  · exact ⟨by show -1 < off; omega, by show off < off + sz; omega, trivial⟩
  · trivial
theorem lostSpans_norm {off sz : Int} (h0 : 0 ≤ off) : NormFrom (-1) (lostSpans p off sz) := withoutSpans_norm (single_norm h0)
theorem lostSpans_mem {i off sz : Int} : memS i (lostSpans p off sz) ↔ (off ≤ i ∧ i < off + sz) ∧ ¬ memS i p.A := by
  unfold lostSpans
  rw [withoutSpans_mem, single_mem]
theorem lostSpans_low {off sz : Int} (h0 : 0 ≤ off) : ∀ q ∈ lostSpans p off sz, (-1 : Int) < q.1 := fun q hq => ((lostSpans_norm h0).lt q hq).1
/-- a chunk is lost -/
theorem Core.lose {live' : List Chunk} {c : Chunk} (h : Core p kn ag live) (hc : c ∈ live) (hl : ∀ d ∈ live', d ∈ live) (hl' : ∀ d ∈ live, d = c ∨ d ∈ live') :
    Core (lostPS p c.1 c.2.1.size c.2.2) kn (putNew kn ag (rowI c.1 c.2.1.size)) live' := by
  obtain ⟨c1, c2, c3, c4, c5⟩ := h.liv c hc
  have hlow := lostSpans_low (p := p) (sz := (c.2.1.size : Int)) c1
  have hB : ∀ i, memS i (addAll p.B (lostSpans p c.1 c.2.1.size)) ↔ memS i p.B ∨ ((c.1 ≤ i ∧ i < cEnd c) ∧ ¬ memS i p.A) := fun i => by
    rw [addAll_mem h.nB hlow, lostSpans_mem]
  refine ⟨h.se0, h.sen, h.nA, addAll_norm h.nB hlow, h.aT, fun i hi => ?_, fun i h1 h2 => ?_, fun i h0 h1 => ?_, fun d hd => ?_, fun k => ?_, fun k => ?_, h.stF, fun k => ?_, h.rcv, h.knI, h.knE, h.knX, h.knN, fun i => ?_, fun x hx => ?_, nodup_putNew h.agN⟩
  · rcases (hB i).mp hi with h1 | h1
    · exact h.bT i h1
    · show i < p.se; omega
  · rcases (hB i).mp h2 with h3 | h3
    · exact h.ab i h1 h3
    · exact h3.2 h1
  · rcases h.cov i h0 h1 with h2 | h2 | ⟨d, hd, h2⟩
    · exact .inl h2
    · exact .inr (.inl ((hB i).mpr (.inl h2)))
    · rcases hl' d hd with rfl | hd'
      · by_cases hA : memS i p.A
        · exact .inl hA
        · exact .inr (.inl ((hB i).mpr (.inr ⟨h2, hA⟩)))
      · exact .inr (.inr ⟨d, hd', h2⟩)
  · exact h.liv d (hl d hd)
  · have := h.eaF k
    refine ⟨this.1, ?_, this.2.2⟩
    rw [lost_ow1 (p := p) (show p.ea = true from k)]
    exact this.2.1
  · show p.fin = true
    have k' : (if c.2.2 && !p.ea then true else p.ow) = true := k
    cases hce : c.2.2 with
    | true => exact (c4 hce).1
    | false => rw [hce] at k'; exact h.owF k'
  · show (if c.2.2 && !p.ea then true else p.ow) = true ∨ p.ea = true ∨ _
    rcases h.fiN k with e | e | ⟨d, hd, e⟩
    · left; rw [e]; simp
    · exact .inr (.inl e)
    · rcases hl' d hd with rfl | hd'
      · cases hea : p.ea with
        | true => exact .inr (.inl rfl)
        | false => left; rw [e]; rfl
      · exact .inr (.inr ⟨d, hd', e⟩)
  · show _ ↔ memS i (addAll p.B (lostSpans p c.1 c.2.1.size))
    rw [hB, ← h.agI, mem_putNew, ← h.knI]
    constructor
    · rintro (e | ⟨e, j, hj, e2⟩)
      · exact .inl e
      · cases e2; exact .inr ⟨mem_rowI.mp hj, e⟩
    · rintro (e | ⟨e, e2⟩)
      · exact .inl e
      · exact .inr ⟨e2, i, mem_rowI.mpr e, rfl⟩
  · rcases mem_putNew.mp hx with e | ⟨e, j, hj, e2⟩
    · exact h.agX x e
    · cases e2
/-- what next_chunk may take -/
theorem span_cases (h : Core p kn ag live) {most : Int} {mn : Option Int} (hm : 0 ≤ most) :
    (∃ q r, p.B = q :: r ∧ 0 < most ∧ chunkSpan p most mn = (q.1, min q.2 (q.1 + most)) ∧ 0 ≤ q.1 ∧ q.1 < q.2 ∧ q.2 ≤ p.se) ∨
    ((p.B = [] ∨ most = 0) ∧ chunkSpan p most mn = (p.se, p.se + max 0 (min most (newRoom p mn)))) := by
  unfold chunkSpan
  cases hB : p.B with
  | nil => right; exact ⟨.inl rfl, by simp [firstSpan]⟩
  | cons q r =>
    by_cases h0 : most ≤ 0
    · right
      exact ⟨.inr (by omega), by simp [firstSpan, h0]⟩
    · left
      have hn := h.nB
      rw [hB] at hn
      have ht := (hn.top (N := p.se) (by rw [← hB]; exact h.bT)) q (.head _)
      have := hn.1
      refine ⟨q, r, rfl, by omega, by simp [firstSpan, h0], by omega, hn.2.1, ht⟩
theorem room_le (h : Core p kn ag live) (mn : Option Int) : 0 ≤ newRoom p mn ∧ p.se + newRoom p mn ≤ p.n ∧ (0 < newRoom p mn → p.se + newRoom p mn ≤ p.lim ∧ p.st.isOpen = true ∧ ∀ k, mn = some k → newRoom p mn ≤ k) := by
  have h1 := h.sen
  unfold newRoom
  split
  · rename_i ho
    cases mn with
    | none =>
      simp only
      refine ⟨by omega, by omega, fun h2 => ⟨by omega, ho, fun k e => nomatch e⟩⟩
    | some k =>
      simp only
      refine ⟨by omega, by omega, fun h2 => ⟨by omega, ho, fun k' e => by cases e; omega⟩⟩
  · exact ⟨by omega, by omega, fun h2 => by omega⟩
theorem chunk_ok {S : LS} (h : Core S.p S.kn S.ag live) {most : Int} {mn : Option Int} (hm : 0 ≤ most) (hk : ∀ k, mn = some k → 0 ≤ k) : ChunkOK S most mn (chunkSpan S.p most mn) := by
  have hse := h.se0
  have hsn := h.sen
  obtain ⟨r1, r2, r3⟩ := room_le h mn
  rcases span_cases h (mn := mn) hm with ⟨q, r, hB, hm', e, q0, q1, q2⟩ | ⟨hB, e⟩
  · have hmem : ∀ i, q.1 ≤ i → i < q.2 → memS i S.p.B := fun i h1 h2 => by rw [hB]; exact memS_cons.mpr (.inl ⟨h1, h2⟩)
    rw [e]
    refine ⟨q0, (by show q.1 ≤ min q.2 (q.1 + most); omega), (by show min q.2 (q.1 + most) ≤ S.p.n; omega), fun hn => ?_, (by show min q.2 (q.1 + most) - q.1 ≤ most; omega), fun _ => (by show min q.2 (q.1 + most) ≤ S.p.se; omega), (by show q.1 ≤ S.p.se; omega), fun k hk' => ?_, fun hlt => ?_, fun i h1 h2 => ?_, fun hf => ?_⟩
    · rcases hn with hn | ⟨hn, _⟩
      · exact .inr (h.recvd_none hn mn)
      · have hn' : q.1 = min q.2 (q.1 + most) := hn
        omega
    · have := hk k hk'
      show min q.2 (q.1 + most) - S.p.se ≤ k
      omega
    · have hlt' : S.p.se < min q.2 (q.1 + most) := hlt
      omega
    · have h2' : i < min (min q.2 (q.1 + most)) S.p.se := h2
      have h1' : q.1 ≤ i := h1
      exact (h.agI i).mpr (hmem i h1' (by omega))
    · unfold chunkEnd at hf
      simp only [Bool.and_eq_true, decide_eq_true_eq] at hf
      exact ⟨hf.1.1, hf.1.2⟩
  · obtain ⟨m, hmd⟩ : ∃ m, m = max 0 (min most (newRoom S.p mn)) := ⟨_, rfl⟩
    rw [← hmd] at e
    rw [e]
    have hmp : 0 < m → 0 < newRoom S.p mn ∧ m ≤ newRoom S.p mn := fun h => by omega
    refine ⟨hse, (by show S.p.se ≤ S.p.se + m; omega), (by show S.p.se + m ≤ S.p.n; by_cases h0 : 0 < m; have := hmp h0; omega; omega), fun hn => ?_, (by show S.p.se + m - S.p.se ≤ most; omega), fun hlt => ?_, Int.le_refl _, fun k hk' => ?_, fun hlt => ?_, fun i h1 h2 => ?_, fun hf => ?_⟩
    · rcases hn with hn | ⟨hn1, hn2⟩
      · exact .inr (h.recvd_none hn mn)
      · by_cases hm0 : most = 0
        · exact .inl hm0
        · right
          have hn1' : S.p.se = S.p.se + m := hn1
          have hB' : S.p.B = [] := hB.resolve_right hm0
          have hn2' : chunkEnd S.p S.p.se (S.p.se + m) = false := hn2
          have hm' : m = 0 := by omega
          rw [hm', Int.add_zero] at hn2'
          unfold chunkEnd at hn2'
          unfold hasToSend
          rw [hB']
          have h5 : ¬ newRoom S.p mn > 0 := by omega
          simp only [ne_eq, not_true_eq_false, decide_false, Bool.false_or, decide_eq_false h5]
          cases how : S.p.ow with
          | false => rfl
          | true =>
            rw [how, h.owF how] at hn2'
            simpa using hn2'
    · have hlt' : S.p.lim < S.p.se + m := hlt
      show S.p.se + m ≤ S.p.se
      by_cases h0 : 0 < m
      · have h6 := hmp h0
        have := (r3 h6.1).1
        omega
      · omega
    · show S.p.se + m - S.p.se ≤ k
      by_cases h0 : 0 < m
      · have h6 := hmp h0
        have := (r3 h6.1).2.2 k hk'
        omega
      · have := hk k hk'
        omega
    · have hlt' : S.p.se < S.p.se + m := hlt
      have hB' : S.p.B = [] := hB.resolve_right (by omega)
      cases hag : S.ag with
      | nil => rfl
      | cons k r =>
        exfalso
        cases k with
        | inl i =>
          have := (h.agI i).mp (by rw [hag]; exact .head _)
          rw [hB'] at this
          exact memS_nil this
        | inr x => exact h.agX x (by rw [hag]; exact .head _)
    · have h2' : i < min (S.p.se + m) S.p.se := h2
      have h1' : S.p.se ≤ i := h1
      omega
    · unfold chunkEnd at hf
      simp only [Bool.and_eq_true, decide_eq_true_eq] at hf
      exact ⟨hf.1.1, hf.1.2⟩
/-- a chunk is sent -/
theorem Core.sendC {S : LS} {lo hi : Int} {e : Bool} {most : Int} {mn : Option Int} (h : Core S.p S.kn S.ag S.fl) (hq : (lo, hi) = chunkSpan S.p most mn) (he : e = chunkEnd S.p lo hi) (ok : ChunkOK S most mn (lo, hi)) (hm : most ≤ 9) (hno : ¬ isNone S (lo, hi)) :
    Core (chunkLS S lo hi e).p (chunkLS S lo hi e).kn (chunkLS S lo hi e).ag (chunkLS S lo hi e).fl := by
  have o1 : 0 ≤ lo := ok.lo0
  have o2 : lo ≤ hi := ok.le
  have o3 : hi ≤ S.p.n := ok.hi
  have o4 : hi - lo ≤ most := ok.len
  have o5 : lo ≤ S.p.se := ok.ahead
  have hr : S.p.st ≠ .recvd := fun k => hno (.inl k)
  have hse := h.se0
  have hsn := h.sen
  have hfin : e = true → S.p.fin = true ∧ hi = S.p.n := fun k => ok.fin (by rw [he] at k; exact k)
  have hsz : ((KBy.picked S.p.W (some lo) (some hi)).size : Int) = hi - lo := picked_size o1 o2 (by rw [n_def] at o3; exact o3)
  have hB : ∀ i, memS i (cutSpan S.p.B lo hi) ↔ memS i S.p.B ∧ ¬ (lo ≤ i ∧ i < hi) := fun i => cutSpan_mem
  have hst : (nextPS S.p lo hi e).st = if (e || decide (S.p.st = .sent)) then .sent else .send := rfl
  have hst1 : (nextPS S.p lo hi e).st ≠ .recvd ∧ (nextPS S.p lo hi e).st ≠ .ready := by rw [hst]; split <;> exact ⟨fun k => (nomatch k), fun k => (nomatch k)⟩
  have hst2 : S.p.st = .sent ∨ S.p.st = .recvd → (nextPS S.p lo hi e).st = .sent := fun k => by
    have := k.resolve_right hr
    rw [hst, if_pos (by simp [this])]
  have hst3 : e = true → (nextPS S.p lo hi e).st = .sent := fun k => by rw [hst, if_pos (by simp [k])]
  have hst4 : (nextPS S.p lo hi e).st = .sent → e = true ∨ S.p.st = .sent := fun k => by
    rw [hst] at k
    split at k
    · rename_i h1
      rcases Bool.or_eq_true_iff.mp h1 with h2 | h2
      · exact .inl h2
      · exact .inr (of_decide_eq_true h2)
    · cases k
  refine ⟨(by show 0 ≤ max S.p.se hi; omega), (by show max S.p.se hi ≤ S.p.n; omega), h.nA, cutSpan_norm h.nB, fun i hi' => ?_, fun i hi' => ?_, fun i h1 h2 => h.ab i h1 ((hB i).mp h2).1, fun i h0 h1 => ?_, fun d hd => ?_, fun k => ?_, fun k => ?_, fun k => ?_, fun k => ?_, ?_, h.knI, h.knE, h.knX, h.knN, fun i => ?_, fun x hx => h.agX x (mem_delAll.mp hx).1, nodup_delAll h.agN⟩
  · have := h.aT i hi'
    show i < max S.p.se hi
    omega
  · have := h.bT i ((hB i).mp hi').1
    show i < max S.p.se hi
    omega
  · have h1' : i < max S.p.se hi := h1
    by_cases hr' : lo ≤ i ∧ i < hi
    · refine .inr (.inr ⟨_, List.mem_append_right _ (List.mem_singleton.mpr rfl), hr'.1, ?_⟩)
      show i < lo + ((KBy.picked S.p.W (some lo) (some hi)).size : Int)
      omega
    · rcases h.cov i h0 (by omega) with h2 | h2 | ⟨d, hd, h2⟩
      · exact .inl h2
      · exact .inr (.inl ((hB i).mpr ⟨h2, hr'⟩))
      · exact .inr (.inr ⟨d, List.mem_append_left _ hd, h2⟩)
  · rcases List.mem_append.mp hd with hd | hd
    · obtain ⟨d1, d2, d3, d4, d5⟩ := h.liv d hd
      exact ⟨d1, (by show cEnd d ≤ max S.p.se hi; omega), d3, fun k => ⟨(d4 k).1, .inl (hst2 (d4 k).2)⟩, hst1.2⟩
    · rw [List.mem_singleton.mp hd]
      refine ⟨o1, (by show lo + ((KBy.picked S.p.W (some lo) (some hi)).size : Int) ≤ max S.p.se hi; omega), (by show (KBy.picked S.p.W (some lo) (some hi)).size ≤ 9; omega), fun k => ⟨(hfin k).1, .inl (hst3 k)⟩, hst1.2⟩
  · have := h.eaF k
    exact ⟨this.1, (by show (if e then false else S.p.ow) = false; rw [this.2.1]; simp), .inl (hst2 this.2.2)⟩
  · have k' : (if e then false else S.p.ow) = true := k
    cases hce : e with
    | true => exact (hfin hce).1
    | false => rw [hce] at k'; exact h.owF k'
  · have k' := hst4 (k.resolve_right hst1.1)
    rcases k' with k' | k'
    · exact ⟨(hfin k').1, by show max S.p.se hi = S.p.n; have := (hfin k').2; omega⟩
    · have := h.stF (.inl k')
      exact ⟨this.1, by show max S.p.se hi = S.p.n; omega⟩
  · show (if e then false else S.p.ow) = true ∨ S.p.ea = true ∨ _
    cases hce : e with
    | true => exact .inr (.inr ⟨_, List.mem_append_right _ (List.mem_singleton.mpr rfl), rfl⟩)
    | false =>
      rcases h.fiN k with e' | e' | ⟨d, hd, e'⟩
      · exact .inl e'
      · exact .inr (.inl e')
      · exact .inr (.inr ⟨d, List.mem_append_left _ hd, e'⟩)
  · constructor
    · intro k; exact absurd k hst1.1
    · intro k; exact (not_recvd h hr k).elim
  · show (KeyP.inl i : Key) ∈ delAll S.ag (rowI lo (hi - lo).toNat) ↔ memS i (cutSpan S.p.B lo hi)
    rw [hB, ← h.agI, mem_delAll]
    constructor
    · rintro ⟨e1, e2⟩
      exact ⟨e1, fun k => e2 i (mem_rowI.mpr (by omega)) rfl⟩
    · rintro ⟨e1, e2⟩
      refine ⟨e1, fun j hj e => ?_⟩
      cases e
      have := mem_rowI.mp hj
      exact e2 (by omega)
end
structure Inv (t : Nat) (S : LS) : Prop where
  core : Core S.p S.kn S.ag S.fl
  hw : S.hw = S.p.W
  wz : S.p.W.size ≤ 5 * t
  fz : S.fl.length ≤ t
theorem Core.ackOK {S : LS} {live : List Chunk} (h : Core S.p S.kn S.ag live) (hz : S.p.W.size ≤ 500) {c : Chunk} (hc : c ∈ live) : AckOK S c := by
  obtain ⟨c1, c2, c3, _⟩ := h.liv c hc
  have c6 : c.1 + (c.2.1.size : Int) ≤ S.p.se := c2
  have h1 := h.sen
  have h2 := h.se0
  rw [n_def] at h1
  refine ⟨?_, by omega, by omega⟩
  have := (addSpan_norm (lo := c.1) (hi := c.1 + (c.2.1.size : Int)) h.nA (by omega)).len (N := S.p.se) (fun i hi => by
    rcases (addSpan_mem h.nA).mp hi with h3 | h3
    · exact h.aT i h3
    · omega) (by omega)
  omega
theorem Core.lostOK {S : LS} {live : List Chunk} (h : Core S.p S.kn S.ag live) (hz : S.p.W.size ≤ 500) (hr : S.p.st ≠ .recvd) {c : Chunk} (hc : c ∈ live) : LostOK S c := by
  obtain ⟨c1, c2, c3, _, c5⟩ := h.liv c hc
  have c6 : c.1 + (c.2.1.size : Int) ≤ S.p.se := c2
  have h1 := h.sen
  have h2 := h.se0
  rw [n_def] at h1
  have hlow := lostSpans_low (p := S.p) (sz := (c.2.1.size : Int)) c1
  refine ⟨?_, fun i => ?_, fun i => ?_, by omega, by omega⟩
  · cases hs : S.p.st with
    | ready => exact absurd hs c5
    | recvd => exact absurd hs hr
    | send => exact .inl rfl
    | sent => exact .inr rfl
  · have := (withoutSpans_norm (qs := S.p.A.take i) (single_norm (sz := (c.2.1.size : Int)) c1)).len (N := S.p.se) (fun j hj => by
      have := single_mem.mp (withoutSpans_mem.mp hj).1
      omega) (by omega)
    omega
  · have hlow' : ∀ q ∈ (lostSpans S.p c.1 c.2.1.size).take i, (-1 : Int) < q.1 := fun q hq => hlow q (List.mem_of_mem_take hq)
    have := (addAll_norm h.nB hlow').len (N := S.p.se) (fun j hj => by
      rcases (addAll_mem h.nB hlow').mp hj with h3 | ⟨q, hq, h3⟩
      · exact h.bT j h3
      · have := (lostSpans_mem (p := S.p)).mp ⟨q, List.mem_of_mem_take hq, h3⟩
        omega) (by omega)
    omega
theorem Core.sizes {S : LS} {live : List Chunk} (h : Core S.p S.kn S.ag live) (hz : S.p.W.size ≤ 500) (hf : S.fl.length ≤ 900) : Sizes S := by
  have h1 := h.sen
  rw [n_def] at h1
  have h2 := h.lenA
  have h3 := h.lenB
  have h4 := h.lenK
  have h5 := h.lenG
  exact ⟨by omega, by omega, by omega, by omega, by omega, hf⟩
theorem Inv.ok {t : Nat} {S : LS} (h : Inv t S) (ht : t ≤ 60) (hr : S.p.st ≠ .recvd) : StepOK S := by
  have h1 := h.wz
  have h2 := h.fz
  have hz : S.p.W.size ≤ 500 := by omega
  refine ⟨h.hw, h.core.sizes hz (by omega), h.core.open_of, fun most mn ha => chunk_ok h.core ha.lt.1 fun k hk => ?_, fun c hc => h.core.ackOK hz hc, fun c hc => h.core.lostOK hz hr hc⟩
  rcases ha.mn with h3 | ⟨k', h3, h4, _⟩
  · rw [h3] at hk; cases hk
  · rw [h3] at hk; cases hk; exact h4
theorem mem_erase {α : Type} : ∀ {l : List α} {i : Nat} {c d : α}, l[i]? = some c → d ∈ l → d = c ∨ d ∈ l.eraseIdx i
  | [], _, _, _, h, _ => by simp at h
  | a :: r, 0, c, d, h, hd => by
    simp only [List.getElem?_cons_zero, Option.some.injEq] at h
    rcases List.mem_cons.mp hd with e | e
    · exact .inl (e.trans h)
    · exact .inr e
  | a :: r, i + 1, c, d, h, hd => by
    simp only [List.getElem?_cons_succ] at h
    simp only [List.eraseIdx_cons_succ]
    rcases List.mem_cons.mp hd with e | e
    · exact .inr (by rw [e]; exact .head _)
    · rcases mem_erase h e with e' | e'
      · exact .inl e'
      · exact .inr (.tail _ e')
theorem Inv.step {t : Nat} {S S' : LS} (h : Inv t S) (k : StepTo S S') : Inv (t + 1) S' := by
  have hwz := h.wz
  have hfz := h.fz
  cases k with
  | write d hf hd =>
    refine ⟨h.core.write d hf, (by show S.hw ++ d = S.p.W ++ d; rw [h.hw]), ?_, (by show S.fl.length ≤ t + 1; omega)⟩
    show (S.p.W ++ d).size ≤ 5 * (t + 1)
    rw [Array.size_append]
    omega
  | raise l h0 h1 => exact ⟨h.core.raise _, h.hw, (by show S.p.W.size ≤ _; omega), (by show S.fl.length ≤ _; omega)⟩
  | finish hf => exact ⟨h.core.finish hf, h.hw, (by show S.p.W.size ≤ _; omega), (by show S.fl.length ≤ _; omega)⟩
  | acked i c hc =>
    have hl : (S.fl.eraseIdx i).length ≤ S.fl.length := List.length_eraseIdx_le ..
    exact ⟨h.core.ack (List.mem_of_getElem? hc) (fun d hd => List.mem_of_mem_eraseIdx hd) (fun d hd => mem_erase hc hd), h.hw, (by show S.p.W.size ≤ _; omega), (by show (S.fl.eraseIdx i).length ≤ _; omega)⟩
  | lost i c hc =>
    have hl : (S.fl.eraseIdx i).length ≤ S.fl.length := List.length_eraseIdx_le ..
    exact ⟨h.core.lose (List.mem_of_getElem? hc) (fun d hd => List.mem_of_mem_eraseIdx hd) (fun d hd => mem_erase hc hd), h.hw, (by show S.p.W.size ≤ _; omega), (by show (S.fl.eraseIdx i).length ≤ _; omega)⟩
  | chunk most mn ha =>
    obtain ⟨q1, q2, hq⟩ : ∃ q1 q2, (q1, q2) = chunkSpan S.p most mn := ⟨_, _, rfl⟩
    by_cases hn : isNone S (q1, q2)
    · rw [step_none hq hn]
      exact ⟨h.core, h.hw, by omega, by omega⟩
    · rw [step_some hq hn]
      have ok := chunk_ok (mn := mn) h.core ha.lt.1 (fun k hk => by
        rcases ha.mn with h3 | ⟨k', h3, h4, _⟩
        · rw [h3] at hk; cases hk
        · rw [h3] at hk; cases hk; exact h4)
      rw [← hq] at ok
      refine ⟨h.core.sendC hq rfl ok ha.lt.2 hn, h.hw, (by show S.p.W.size ≤ _; omega), ?_⟩
      show (S.fl ++ [_]).length ≤ t + 1
      simp only [List.length_append, List.length_cons, List.length_nil]
      omega
theorem Inv.mono {t t' : Nat} {S : LS} (h : Inv t S) (k : t ≤ t') : Inv t' S := ⟨h.core, h.hw, by have := h.wz; omega, by have := h.fz; omega⟩
theorem Inv.init (l : Int) : Inv 0 { p := { lim := l, st := .ready, W := #[], se := 0, A := [], B := [], fin := false, ow := false, ea := false }, hw := #[], fl := [], kn := [], ag := [] } := ⟨Core.init l, rfl, by simp, by simp⟩
/-! at last all goes through -/
def mu (S : LS) : Nat := (S.p.n - S.p.se).toNat + S.ag.length + (if S.p.ow then 1 else 0)
structure Last (S : LS) : Prop where
  core : Core S.p S.kn S.ag S.fl
  hw : S.hw = S.p.W
  wz : S.p.W.size ≤ 300
  fz : S.fl.length + mu S ≤ 800
  fin : S.p.fin = true
  lim : S.p.n ≤ S.p.lim
  nr : S.p.st ≠ .recvd
theorem Last.ok {S : LS} (h : Last S) : ∀ most mn, Allowed true most mn → ChunkOK S most mn (chunkSpan S.p most mn) := fun most mn ha => by
  refine chunk_ok h.core ha.lt.1 fun k hk => ?_
  rcases ha.mn with h3 | ⟨k', h3, h4, _⟩
  · rw [h3] at hk; cases hk
  · rw [h3] at hk; cases hk; exact h4
theorem Last.sizes {S : LS} (h : Last S) : Sizes S := h.core.sizes (by have := h.wz; omega) (by have := h.fz; omega)
theorem len_del_lt {ks : List Key} {k : Key} (hk : k ∈ ks) : (keyDel ks k).length < ks.length := by
  unfold keyDel
  refine Nat.lt_of_le_of_ne (List.length_filter_le _ _) fun e => ?_
  have := List.length_filter_eq_length_iff.mp e k hk
  simp at this
theorem len_delAll_le (is : List Int) : ∀ ks : List Key, (delAll ks is).length ≤ ks.length := fun ks => len_delAll is ks
theorem Last.step {S S' : LS} (h : Last S) (hh : hasToSend S.p none = true) (k : ∃ most mn, Allowed true most mn ∧ S' = stepChunk S most mn) : Last S' ∧ mu S' < mu S := by
  obtain ⟨most, mn, ha, rfl⟩ := k
  have ok := h.ok most mn ha
  have ha' : most = 9 ∧ mn = none := by unfold Allowed at ha; rw [if_pos rfl] at ha; exact ha
  obtain ⟨rfl, rfl⟩ := ha'
  obtain ⟨q1, q2, hq⟩ : ∃ q1 q2, (q1, q2) = chunkSpan S.p 9 none := ⟨_, _, rfl⟩
  rw [← hq] at ok
  have hn : ¬ isNone S (q1, q2) := fun hn => by
    rcases ok.none hn with e | e
    · cases e
    · rw [hh] at e; cases e
  rw [step_some hq hn]
  have hc := h.core.sendC hq rfl ok (by decide) hn
  have hse := h.core.se0
  have hsn := h.core.sen
  have o1 : 0 ≤ q1 := ok.lo0
  have o2 : q1 ≤ q2 := ok.le
  have o3 : q2 ≤ S.p.n := ok.hi
  have o5 : q1 ≤ S.p.se := ok.ahead
  have hlen := len_delAll_le (rowI q1 (q2 - q1).toNat) S.ag
  have hmu : mu (chunkLS S q1 q2 (chunkEnd S.p q1 q2)) = (S.p.n - max S.p.se q2).toNat + (delAll S.ag (rowI q1 (q2 - q1).toNat)).length + (if (if chunkEnd S.p q1 q2 then false else S.p.ow) then 1 else 0) := rfl
  have how : (if (if chunkEnd S.p q1 q2 then false else S.p.ow) then 1 else 0) ≤ (if S.p.ow then 1 else 0) := by
    cases chunkEnd S.p q1 q2 <;> simp
  have hlt : mu (chunkLS S q1 q2 (chunkEnd S.p q1 q2)) < mu S := by
    rw [hmu]
    unfold mu
    rcases span_cases h.core (mn := none) (show (0 : Int) ≤ 9 by decide) with ⟨q, r, hB, hm', e, q0, q1', q2'⟩ | ⟨hB, e⟩
    · rw [← hq] at e
      simp only [Prod.mk.injEq] at e
      obtain ⟨e1, e2⟩ := e
      have hmem : (KeyP.inl q1 : Key) ∈ S.ag := (h.core.agI q1).mpr (by rw [hB]; exact memS_cons.mpr (.inl (by omega)))
      have hlt2 : (delAll S.ag (rowI q1 (q2 - q1).toNat)).length < S.ag.length := by
        have hsplit : rowI q1 (q2 - q1).toNat = q1 :: (rowI q1 (q2 - q1).toNat).tail := by
          have hpos : 0 < (q2 - q1).toNat := by omega
          have hg := rowI_get (a := q1) hpos
          cases hr : rowI q1 (q2 - q1).toNat with
          | nil => rw [hr] at hg; simp at hg
          | cons a b => rw [hr] at hg; simp at hg; simp [hg]
        rw [hsplit]
        exact Nat.lt_of_le_of_lt (len_delAll_le _ (keyDel S.ag (.inl q1))) (len_del_lt hmem)
      omega
    · rw [← hq] at e
      simp only [Prod.mk.injEq] at e
      obtain ⟨e1, e2⟩ := e
      by_cases hgt : S.p.se < q2
      · omega
      · have hq2 : q2 = q1 := by omega
        have hce : chunkEnd S.p q1 q2 = true := by
          cases hce : chunkEnd S.p q1 q2 with
          | true => rfl
          | false => exact absurd (.inr ⟨hq2.symm, hce⟩) hn
        have hwo : S.p.ow = true := by
          have hce' := hce
          unfold chunkEnd at hce'
          simp only [Bool.and_eq_true, Bool.or_eq_true, decide_eq_true_eq] at hce'
          rcases hce'.2 with h1 | h1
          · exact h1
          · omega
        rw [hce, hwo]
        simp only [if_true, Bool.false_eq_true, if_false]
        omega
  refine ⟨⟨hc, h.hw, h.wz, ?_, h.fin, h.lim, ?_⟩, hlt⟩
  · have := h.fz
    show (S.fl ++ [_]).length + _ ≤ 800
    simp only [List.length_append, List.length_cons, List.length_nil]
    omega
  · show (if (chunkEnd S.p q1 q2 || decide (S.p.st = .sent)) then St.sent else St.send) ≠ .recvd
    split <;> exact fun k => (nomatch k)
/-- all is sent; what flies is being acknowledged -/
structure Done (S : LS) (live : List Chunk) : Prop where
  core : Core S.p S.kn S.ag live
  hw : S.hw = S.p.W
  wz : S.p.W.size ≤ 300
  fz : S.fl.length ≤ 800
  fin : S.p.fin = true
  ow : S.p.ow = false
  B : S.p.B = []
  se : S.p.se = S.p.n
theorem Last.done {S : LS} (h : Last S) (hh : hasToSend S.p none = false) : Done S S.fl := by
  have hsn := h.core.sen
  unfold hasToSend at hh
  simp only [Bool.or_eq_false_iff, decide_eq_false_iff_not, Decidable.not_not, Bool.and_eq_false_iff] at hh
  obtain ⟨⟨h1, h2⟩, h3⟩ := hh
  have hlim := h.lim
  have hse : S.p.se = S.p.n := by
    cases ho : S.p.st.isOpen with
    | false => exact h.core.closed ho
    | true =>
      unfold newRoom at h2
      rw [if_pos ho] at h2
      simp only at h2
      omega
  refine ⟨h.core, h.hw, h.wz, by have := h.fz; omega, h.fin, ?_, h1, hse⟩
  rcases h3 with h3 | h3
  · exact h3
  · exact absurd hse h3
theorem Done.ack {S : LS} {c : Chunk} {r : List Chunk} (h : Done S (c :: r)) : Done (ackLS S c) r := by
  refine ⟨h.core.ack (.head _) (fun d hd => .tail _ hd) (fun d hd => List.mem_cons.mp hd), h.hw, h.wz, h.fz, h.fin, ?_, ?_, h.se⟩
  · show (if c.2.2 then false else S.p.ow) = false
    rw [h.ow]; simp
  · show cutSpan S.p.B _ _ = []
    rw [h.B]
    unfold cutSpan
    split <;> rfl
theorem Done.sizes {S : LS} {live : List Chunk} (h : Done S live) : Sizes S := h.core.sizes (by have := h.wz; omega) (by have := h.fz; omega)
theorem Done.all {S : LS} (h : Done S []) : S.p.st = .recvd := by
  refine h.core.rcv.mpr ⟨?_, fun i h0 h1 => ?_⟩
  · rcases h.core.fiN h.fin with e | e | ⟨d, hd, _⟩
    · rw [h.ow] at e; cases e
    · exact e
    · exact nomatch hd
  · rcases h.core.cov i h0 (by rw [h.se]; exact h1) with e | e | ⟨d, hd, _⟩
    · exact e
    · rw [h.B] at e; exact absurd e memS_nil
    · exact nomatch hd
theorem Inv.last {S : LS} (h : Inv 60 S) (hr : S.p.st ≠ .recvd) (hf : S.p.fin = true) (hl : 500 ≤ S.p.lim) : Last S := by
  have h1 := h.wz
  have h2 := h.fz
  have h3 := h.core.lenG
  have h4 := h.core.se0
  refine ⟨h.core, h.hw, by omega, ?_, hf, by rw [n_def]; omega, hr⟩
  unfold mu
  rw [n_def]
  have : (if S.p.ow = true then 1 else 0) ≤ 1 := by split <;> omega
  omega
theorem Spec.weaken {w : World} {D U : Nat} {f : Addr} {args : List Value} {news : Led} {Post Post' : Value → Led → Prop} (C : Spec w D U f args news Post) (k : ∀ r n, Post r n → ∃ n', Sub n' n ∧ Post' r n') : Spec w D U f args news Post' := by
  intro mean mg mb dp un gd cn cs a ccd cl outer A₀ base h₀ L m s Q E B F X N T hk hd hu hret
  refine C _ _ _ _ _ _ _ _ _ _ _ _ _ _ _ _ _ _ _ _ B F X N T hk hd hu fun r news' h' tk' F' N' hp => ?_
  obtain ⟨n', hs, hp'⟩ := k r news' hp
  exact hret r n' h' tk' F' (News.sub N' hs) hp'
section
variable {w : World} {ib b dx x fl kn ag hr : Nat} {S : LS} {M own : Led} {D U : Nat} {f : Addr} {args : List Value}
theorem LawL.mono {own' : Led} (h : LawL w ib b dx x fl kn ag hr S own M) (k : Sub own own') : LawL w ib b dx x fl kn ag hr S own' M := by
  refine LawL.elim h ?_
  intro vs ns n0 seed ts n1 k0 t1 t2 t3 t4 la lb fvs n2 ok oa oh tw hi hl40 hs0 hs1 hA hB hC hK hG hH
  exact LawL.of vs ns n0 seed ts n1 k0 t1 t2 t3 t4 la lb fvs n2 ok oa oh tw hi hl40 hs0 hs1 (hA.mono k) (hB.mono k) (hC.mono k) hK hG hH
theorem LawL.part (h : LawL w ib b dx x fl kn ag hr S own M) : ∃ M2 o1 o2 o3 o4 o5 o6, M = (ib, o1) :: (b, o2) :: (M2 ++ [(fl, o3), (kn, o4), (ag, o5), (hr, o6)]) ∧ PartL w.params dx x S.p own M2 ∧ M2.map (·.1) = [dx, x] ∧
    ∀ p' own' M2', Sub own own' → PartL w.params dx x p' own' M2' → LawL w ib b dx x fl kn ag hr { S with p := p' } own' ((ib, o1) :: (b, o2) :: (M2' ++ [(fl, o3), (kn, o4), (ag, o5), (hr, o6)])) := by
  refine LawL.elim h ?_
  intro vs ns n0 seed ts n1 k0 t1 t2 t3 t4 la lb fvs n2 ok oa oh tw hi hl40 hs0 hs1 hA hB hC hK hG hH
  refine ⟨[_, _], _, _, _, _, _, _, rfl, PartL.of k0 t1 t2 t3 t4 la lb hA hB, rfl, fun p' own' M2' hs hp => ?_⟩
  refine PartL.elim hp ?_
  intro k9 u1 u2 u3 u4 la9 lb9 hA9 hB9
  exact LawL.of (S := { S with p := p' }) vs ns n0 seed ts n1 k9 u1 u2 u3 u4 la9 lb9 fvs n2 ok oa oh tw hi hl40 hs0 hs1 hA9 hB9 (hC.mono hs) hK hG hH
theorem MSpec.toL {Post : Value → PS → Led → Prop} (ho : Ords ib b dx x fl kn ag hr) (hP : LawL w ib b dx x fl kn ag hr S own M) (C : ∀ M2, PartL w.params dx x S.p own M2 → MSpec w D U f args dx x M2 own Post) :
    LSpec w D U f args ib b dx x fl kn ag hr M own (fun r S' O => ∃ p', Post r p' O ∧ S' = { S with p := p' }) := by
  obtain ⟨M2, q1, q2, q3, q4, q5, q6, e, hp, e2, back⟩ := hP.part
  subst e
  refine LSpec.start ?_
  intro own₀ hsub hoff R hR
  have hoff' : OwnOff ([(ib, q1), (b, q2), (fl, q3), (kn, q4), (ag, q5), (hr, q6)] ++ own₀) [dx, x] := offApp (Ords.dxx ho) fun q hq z hz => hoff q hq z (by
    rcases List.mem_cons.mp hz with rfl | hz
    · exact .tail _ (.tail _ (.head _))
    · rw [List.mem_singleton.mp hz]; exact .tail _ (.tail _ (.tail _ (.head _))))
  intro mean mg mb dp un gd cn cs a ccd cl outer A₀ base h₀ L m s Q E B F X N T hk hd hu hret
  have hin : ∀ p ∈ [(ib, q1), (b, q2), (fl, q3), (kn, q4), (ag, q5), (hr, q6)] ++ own₀, p ∈ ((ib, q1) :: (b, q2) :: (M2 ++ [(fl, q3), (kn, q4), (ag, q5), (hr, q6)])) ++ own₀ := by
    have h4 : Sub [(fl, q3), (kn, q4), (ag, q5), (hr, q6)] (((ib, q1) :: (b, q2) :: (M2 ++ [(fl, q3), (kn, q4), (ag, q5), (hr, q6)])) ++ own₀) := Sub.appR1 (Sub.consR (Sub.consR (Sub.appR2 (Sub.refl _))))
    exact Sub.appL (a := [(ib, q1), (b, q2), (fl, q3), (kn, q4), (ag, q5), (hr, q6)]) (Sub.consL (.head _) (Sub.consL (.tail _ (.head _)) h4)) (Sub.appR2 (Sub.refl _))
  refine Spec.use (C M2 hp ([(ib, q1), (b, q2), (fl, q3), (kn, q4), (ag, q5), (hr, q6)] ++ own₀) (Sub.appR2 hsub) hoff') B F X N T hk hd hu (Sub.appL (Sub.appR1 (Sub.consR (Sub.consR (Sub.appR1 (Sub.refl _))))) hin) ?_
  rintro r _ h' tk' F' N' ⟨T', M2', p', rfl, hf, hL, hpost⟩
  have hY : Sub ([(ib, q1), (b, q2), (fl, q3), (kn, q4), (ag, q5), (hr, q6)] ++ own₀) (M2' ++ (T' ++ ([(ib, q1), (b, q2), (fl, q3), (kn, q4), (ag, q5), (hr, q6)] ++ own₀))) := Sub.appR2 (Sub.appR2 (Sub.refl _))
  refine hret r (((ib, q1) :: (b, q2) :: (M2' ++ [(fl, q3), (kn, q4), (ag, q5), (hr, q6)])) ++ (T' ++ own₀)) h' tk' F' (News.sub N' ?_) (hR r T' _ { S with p := p' } ?_ (back p' (T' ++ own) M2' (Sub.appR2 (Sub.refl _)) hL) ⟨p', hpost, rfl⟩)
  · exact Sub.appL (Sub.consL (hY _ (.head _)) (Sub.consL (hY _ (.tail _ (.head _))) (Sub.appL (Sub.appR1 (Sub.refl _)) fun p hp => hY p (.tail _ (.tail _ (List.mem_append_left _ hp)))))) (Sub.appL (Sub.appR2 (Sub.appR1 (Sub.refl _))) fun p hp => hY p (List.mem_append_right [(ib, q1), (b, q2), (fl, q3), (kn, q4), (ag, q5), (hr, q6)] hp))
  · have h1 := hf.1
    have hz : ∀ q ∈ T', ∀ p ∈ [(ib, q1), (b, q2), (fl, q3), (kn, q4), (ag, q5), (hr, q6)] ++ own₀, @LT.lt Nat _ p.1 q.1 := h1
    exact ⟨fun q hq p hp => hz q hq p (List.mem_append_right _ hp), fun q hq => List.forall_mem_cons.mpr ⟨hz q hq (ib, q1) (.head _), List.forall_mem_cons.mpr ⟨hz q hq (b, q2) (.tail _ (.head _)), List.forall_mem_cons.mpr ⟨hf.2 q hq dx (.head _), List.forall_mem_cons.mpr ⟨hf.2 q hq x (.tail _ (.head _)), List.forall_mem_cons.mpr ⟨hz q hq (fl, q3) (.tail _ (.tail _ (.head _))), List.forall_mem_cons.mpr ⟨hz q hq (kn, q4) (.tail _ (.tail _ (.tail _ (.head _)))), List.forall_mem_cons.mpr ⟨hz q hq (ag, q5) (.tail _ (.tail _ (.tail _ (.tail _ (.head _))))), List.forall_mem_cons.mpr ⟨hz q hq (hr, q6) (.tail _ (.tail _ (.tail _ (.tail _ (.tail _ (.head _)))))), fun _ h => nomatch h⟩⟩⟩⟩⟩⟩⟩⟩⟩
theorem LSpec.useG {own₀ K : Led} {Post : Value → LS → Led → Prop} (C : LSpec w D U f args ib b dx x fl kn ag hr M own Post) (hsub : Sub own own₀) (off : OwnOff own₀ [ib, b, dx, x, fl, kn, ag, hr]) (hK : Sub K own₀) (hKO : OwnOff K (own.map (·.1)))
    {mean : ExcName → Option Value} {mg mb : Str → Option Value} {dp un : Nat} {gd : Option (List Code)} {cn : Str} {cs : Scope} {a : Addr} {ccd : Value} {cl : List (Str × Addr)} {outer : List Env} {A₀ : Around} {base h₀ : Heap} {L : Addr} {m : Str → Option Value} {news₀ : Led} {s : Shared}
    {Q E : Value → Shared → Prop} (B : Below A₀ base outer h₀) (F : Fr h₀ L s.heap m) (X : (NH.hd.heap_39 w.params).In h₀) (N : News h₀ L s.heap news₀) (T : Top NH.hd.view_39 (looseW NH.hd.view_39 [Str.ofString "OPEN_STATES"]) mean mg mb h₀) (hk : cs.kind = .function)
    (hd : dp + D < recursionLimit) (hu : un + U < cLine) (hn : Sub (M ++ own₀) news₀)
    (ret : ∀ r M' S' O O₀ h' tk', Fr h₀ L h' m → News h₀ L h' (M' ++ O₀) → Sub own O → Sub own₀ O₀ → Sub O O₀ → OwnOff O₀ [ib, b, dx, x, fl, kn, ag, hr] → Sub K O₀ → OwnOff K (O.map (·.1)) → LawL w ib b dx x fl kn ag hr S' O M' → Post r S' O → Q r { s with heap := h', toks := tk' }) :
    wpAny (model PySem.Challenge.rw_no0075_01.row.prog w) (ktrTop dp un gd cn cs L a ccd cl outer) (call (.ref f) args) Q E s := by
  refine Spec.use (C own₀ hsub off) B F X N T hk hd hu hn ?_
  rintro r _ h' tk' F' N' ⟨T', M', S', rfl, hf', hL, hp⟩
  exact ret r M' S' (T' ++ own) (T' ++ own₀) h' tk' F' N' (Sub.appR2 (Sub.refl _)) (Sub.appR2 (Sub.refl _)) (Sub.appL (Sub.appR1 (Sub.refl _)) (Sub.appR2 hsub)) (hf'.off off) (fun p hp => List.mem_append_right _ (hK p hp)) (fun p hp z hz => by
    rw [List.map_append] at hz
    rcases List.mem_append.mp hz with hz | hz
    · obtain ⟨q, hq, rfl⟩ := List.mem_map.mp hz
      exact Nat.ne_of_lt (hf'.1 q hq p (hK p hp))
    · exact hKO p hp z hz) hL hp
end
theorem DictK.nil {w : World} {o : Obj} (h : o.IsDictOf (strKind PySem.Challenge.rw_no0075_01.row.prog w) []) : DictK w o [] := by
  obtain ⟨es, ep, ex, hd, hk, hp, hn⟩ := h
  have he : es = #[] := by
    rcases es with ⟨l⟩
    cases l with
    | nil => rfl
    | cons a r => exfalso; cases hp
  subst he
  refine ⟨#[], ep, ex, hd, ?_, ?_, List.nodup_nil⟩
  · intro i
    simp
  · first | exact .nil | trivial | constructor
def S0 (l : Int) : LS := { p := { lim := l, st := .ready, W := #[], se := 0, A := [], B := [], fin := false, ow := false, ea := false }, hw := #[], fl := [], kn := [], ag := [] }
theorem start_J {w : World} {h₀ h : Heap} {L : Addr} {D7 tp ag kn fl hr lb la x dx b ib : Nat} {ol ot oa ok oh : Obj} {n2 nb na n1 n0 : Nat} {l seed : Int} {t1 t2 t3 t4 ts tw c0 c1 c2 c3 a0 a1 a2 a3 a4 a5 a6 a7 a8 a9 a10 : Tok} {vs : List Value} {ns : List Int}
    (N : News h₀ L h ((D7, ol) :: (tp, ot) :: (ag, oa) :: (kn, ok) :: (fl, listOf #[] n2) :: (hr, oh) :: (lb, listOf #[] nb) :: (la, listOf #[] na) :: (x, instObj 199 dx) :: (dx, dictOf [⟨PyData.keyHash w.params (Str.ofString "limit"), .str (Str.ofString "limit") a0, .int l t1⟩, ⟨PyData.keyHash w.params (Str.ofString "state"), .str (Str.ofString "state") a1, .str (Str.ofString "ready") t2⟩, ⟨PyData.keyHash w.params (Str.ofString "written"), .str (Str.ofString "written") a2, .bytes #[] t3⟩, ⟨PyData.keyHash w.params (Str.ofString "sent_to"), .str (Str.ofString "sent_to") a3, .int 0 t4⟩, ⟨PyData.keyHash w.params (Str.ofString "acked"), .str (Str.ofString "acked") a4, .ref la⟩, ⟨PyData.keyHash w.params (Str.ofString "lost"), .str (Str.ofString "lost") a5, .ref lb⟩, ⟨PyData.keyHash w.params (Str.ofString "is_finished"), .str (Str.ofString "is_finished") a6, .bool false⟩, ⟨PyData.keyHash w.params (Str.ofString "owes_end"), .str (Str.ofString "owes_end") a7, .bool false⟩, ⟨PyData.keyHash w.params (Str.ofString "is_end_acked"), .str (Str.ofString "is_end_acked") a8, .bool false⟩, ⟨PyData.keyHash w.params (Str.ofString "reset_code"), .str (Str.ofString "reset_code") a9, .none⟩, ⟨PyData.keyHash w.params (Str.ofString "owes_reset"), .str (Str.ofString "owes_reset") a10, .bool false⟩] 11) :: (ib, listOf vs.toArray n0) :: (b, listOf #[.ref ib, .int seed ts] n1) :: []))
    (hd : oh.IsDictOf (strKind PySem.Challenge.rw_no0075_01.row.prog w) (strPairs [(.str (Str.ofString "written") c0, .bytes #[] tw), (.str (Str.ofString "flying") c1, .ref fl), (.str (Str.ofString "known") c2, .ref kn), (.str (Str.ofString "again") c3, .ref ag)]))
    (hk : ok.IsDictOf (strKind PySem.Challenge.rw_no0075_01.row.prog w) []) (ha : oa.IsDictOf (strKind PySem.Challenge.rw_no0075_01.row.prog w) [])
    (o1 : ib < b) (o2 : b < dx) (o3 : dx < x) (p1 : x < la) (p2 : la < lb) (p3 : lb < hr) (o5 : hr < fl) (o6 : fl < kn) (o7 : kn < ag) (lk : (kn == sysModules) = false) (lg : (ag == sysModules) = false) (lh : (hr == sysModules) = false)
    (hi : IntsAre vs ns) (hl : ns.length ≤ 40) (hs0 : 0 ≤ seed) (hs1 : seed < 2147483647) :
    News h₀ L h ([(ib, listOf vs.toArray n0), (b, listOf #[.ref ib, .int seed ts] n1), (dx, dictOf [⟨PyData.keyHash w.params (Str.ofString "limit"), .str (Str.ofString "limit") a0, .int l t1⟩, ⟨PyData.keyHash w.params (Str.ofString "state"), .str (Str.ofString "state") a1, .str (Str.ofString "ready") t2⟩, ⟨PyData.keyHash w.params (Str.ofString "written"), .str (Str.ofString "written") a2, .bytes #[] t3⟩, ⟨PyData.keyHash w.params (Str.ofString "sent_to"), .str (Str.ofString "sent_to") a3, .int 0 t4⟩, ⟨PyData.keyHash w.params (Str.ofString "acked"), .str (Str.ofString "acked") a4, .ref la⟩, ⟨PyData.keyHash w.params (Str.ofString "lost"), .str (Str.ofString "lost") a5, .ref lb⟩, ⟨PyData.keyHash w.params (Str.ofString "is_finished"), .str (Str.ofString "is_finished") a6, .bool false⟩, ⟨PyData.keyHash w.params (Str.ofString "owes_end"), .str (Str.ofString "owes_end") a7, .bool false⟩, ⟨PyData.keyHash w.params (Str.ofString "is_end_acked"), .str (Str.ofString "is_end_acked") a8, .bool false⟩, ⟨PyData.keyHash w.params (Str.ofString "reset_code"), .str (Str.ofString "reset_code") a9, .none⟩, ⟨PyData.keyHash w.params (Str.ofString "owes_reset"), .str (Str.ofString "owes_reset") a10, .bool false⟩] 11), (x, instObj 199 dx), (fl, listOf #[] n2), (kn, ok), (ag, oa), (hr, oh)] ++ [(lb, listOf #[] nb), (la, listOf #[] na)]) ∧
    Ords ib b dx x fl kn ag hr ∧ OwnOff [(lb, listOf #[] nb), (la, listOf #[] na)] [ib, b, dx, x, fl, kn, ag, hr] ∧
    LawL w ib b dx x fl kn ag hr (S0 l) [(lb, listOf #[] nb), (la, listOf #[] na)] [(ib, listOf vs.toArray n0), (b, listOf #[.ref ib, .int seed ts] n1), (dx, dictOf [⟨PyData.keyHash w.params (Str.ofString "limit"), .str (Str.ofString "limit") a0, .int l t1⟩, ⟨PyData.keyHash w.params (Str.ofString "state"), .str (Str.ofString "state") a1, .str (Str.ofString "ready") t2⟩, ⟨PyData.keyHash w.params (Str.ofString "written"), .str (Str.ofString "written") a2, .bytes #[] t3⟩, ⟨PyData.keyHash w.params (Str.ofString "sent_to"), .str (Str.ofString "sent_to") a3, .int 0 t4⟩, ⟨PyData.keyHash w.params (Str.ofString "acked"), .str (Str.ofString "acked") a4, .ref la⟩, ⟨PyData.keyHash w.params (Str.ofString "lost"), .str (Str.ofString "lost") a5, .ref lb⟩, ⟨PyData.keyHash w.params (Str.ofString "is_finished"), .str (Str.ofString "is_finished") a6, .bool false⟩, ⟨PyData.keyHash w.params (Str.ofString "owes_end"), .str (Str.ofString "owes_end") a7, .bool false⟩, ⟨PyData.keyHash w.params (Str.ofString "is_end_acked"), .str (Str.ofString "is_end_acked") a8, .bool false⟩, ⟨PyData.keyHash w.params (Str.ofString "reset_code"), .str (Str.ofString "reset_code") a9, .none⟩, ⟨PyData.keyHash w.params (Str.ofString "owes_reset"), .str (Str.ofString "owes_reset") a10, .bool false⟩] 11), (x, instObj 199 dx), (fl, listOf #[] n2), (kn, ok), (ag, oa), (hr, oh)] := by
  refine ⟨News.sub N (Sub.appL (Sub.consL (.tail _ (.tail _ (.tail _ (.tail _ (.tail _ (.tail _ (.tail _ (.tail _ (.tail _ (.tail _ (.head _))))))))))) (Sub.consL (.tail _ (.tail _ (.tail _ (.tail _ (.tail _ (.tail _ (.tail _ (.tail _ (.tail _ (.tail _ (.tail _ (.head _)))))))))))) (Sub.consL (.tail _ (.tail _ (.tail _ (.tail _ (.tail _ (.tail _ (.tail _ (.tail _ (.tail _ (.head _)))))))))) (Sub.consL (.tail _ (.tail _ (.tail _ (.tail _ (.tail _ (.tail _ (.tail _ (.tail _ (.head _))))))))) (Sub.consL (.tail _ (.tail _ (.tail _ (.tail _ (.head _))))) (Sub.consL (.tail _ (.tail _ (.tail _ (.head _)))) (Sub.consL (.tail _ (.tail _ (.head _))) (Sub.consL (.tail _ (.tail _ (.tail _ (.tail _ (.tail _ (.head _)))))) Sub.nil)))))))) (Sub.consL (.tail _ (.tail _ (.tail _ (.tail _ (.tail _ (.tail _ (.head _))))))) (Sub.consL (.tail _ (.tail _ (.tail _ (.tail _ (.tail _ (.tail _ (.tail _ (.head _)))))))) Sub.nil))), ⟨⟨o1, o2, o3, (Nat.lt_trans p1 (Nat.lt_trans p2 p3)), o5, o6, o7⟩, lk, lg, lh⟩, offCons (List.forall_mem_cons.mpr ⟨(Nat.ne_of_gt (Nat.lt_trans o1 (Nat.lt_trans o2 (Nat.lt_trans o3 (Nat.lt_trans p1 p2))))), List.forall_mem_cons.mpr ⟨(Nat.ne_of_gt (Nat.lt_trans o2 (Nat.lt_trans o3 (Nat.lt_trans p1 p2)))), List.forall_mem_cons.mpr ⟨(Nat.ne_of_gt (Nat.lt_trans o3 (Nat.lt_trans p1 p2))), List.forall_mem_cons.mpr ⟨(Nat.ne_of_gt (Nat.lt_trans p1 p2)), List.forall_mem_cons.mpr ⟨(Nat.ne_of_lt (Nat.lt_trans p3 o5)), List.forall_mem_cons.mpr ⟨(Nat.ne_of_lt (Nat.lt_trans p3 (Nat.lt_trans o5 o6))), List.forall_mem_cons.mpr ⟨(Nat.ne_of_lt (Nat.lt_trans p3 (Nat.lt_trans o5 (Nat.lt_trans o6 o7)))), List.forall_mem_cons.mpr ⟨(Nat.ne_of_lt p3), fun _ h => nomatch h⟩⟩⟩⟩⟩⟩⟩⟩) (offCons (List.forall_mem_cons.mpr ⟨(Nat.ne_of_gt (Nat.lt_trans o1 (Nat.lt_trans o2 (Nat.lt_trans o3 p1)))), List.forall_mem_cons.mpr ⟨(Nat.ne_of_gt (Nat.lt_trans o2 (Nat.lt_trans o3 p1))), List.forall_mem_cons.mpr ⟨(Nat.ne_of_gt (Nat.lt_trans o3 p1)), List.forall_mem_cons.mpr ⟨(Nat.ne_of_gt p1), List.forall_mem_cons.mpr ⟨(Nat.ne_of_lt (Nat.lt_trans p2 (Nat.lt_trans p3 o5))), List.forall_mem_cons.mpr ⟨(Nat.ne_of_lt (Nat.lt_trans p2 (Nat.lt_trans p3 (Nat.lt_trans o5 o6)))), List.forall_mem_cons.mpr ⟨(Nat.ne_of_lt (Nat.lt_trans p2 (Nat.lt_trans p3 (Nat.lt_trans o5 (Nat.lt_trans o6 o7))))), List.forall_mem_cons.mpr ⟨(Nat.ne_of_lt (Nat.lt_trans p2 p3)), fun _ h => nomatch h⟩⟩⟩⟩⟩⟩⟩⟩) offNil), (LawL.of vs ns n0 seed ts n1 (fun i => [a0, a1, a2, a3, a4, a5, a6, a7, a8, a9, a10].getD i 0) t1 t2 t3 t4 la lb ([]) n2 ok oa oh tw hi hl hs0 hs1 (⟨la, [], na, rfl, .tail _ (.head _), .nil⟩) (⟨lb, [], nb, rfl, .head _, .nil⟩) .nil (DictK.nil hk) (DictK.nil ha) hd)⟩
theorem take40 {ws : List Value} {ns : List Int} (_ : IntsAre ws (List.take (Int.toNat 40) ns)) : (List.take (Int.toNat 40) ns).length ≤ 40 := by rw [List.length_take]; exact Nat.min_le_left _ _
theorem Inv.b {t : Nat} {S : LS} (h : Inv t S) (ht : t < 50) : S.p.W.size ≤ 1000 ∧ S.hw.size ≤ 1000 ∧ S.kn.length ≤ 1000 ∧ S.p.B.length ≤ 1000 := by
  have h1 := h.wz
  have h2 := h.core.lenK
  have h3 := h.core.lenB
  have h4 := h.core.sen
  have h5 := h.hw
  rw [n_def] at h4
  rw [h5]
  omega
theorem Inv.allEq {t : Nat} {S : LS} (h : Inv t S) : decide ((KeyP.inr END : Key) ∈ S.kn ∧ (S.kn.length : Int) = (S.hw.size : Int) + 1) = decide (S.p.st = .recvd) := by
  rw [h.hw]; exact h.core.all.symm
theorem off_end {K M O P : Led} {adr : List Nat} (eM : M.map (·.1) = adr) (h : Sub K P) (ho : OwnOff P adr) (hK : OwnOff K (O.map (·.1))) : OwnOff K ((M ++ O).map (·.1)) := fun q hq z hz => by
  rw [List.map_append, eM] at hz
  rcases List.mem_append.mp hz with hz | hz
  · exact ho q (h q hq) z hz
  · exact hK q hq z hz
/-! what the law's frame and ledger are, between its statements -/
def Three (b x hr : Nat) (m : Str → Option Value) : Prop := m (Str.ofString "box") = some (.ref b) ∧ m (Str.ofString "part") = some (.ref x) ∧ m (Str.ofString "here") = some (.ref hr)
theorem Three.frame {h₀ h : Heap} {L : Addr} {b x hr : Nat} {m : Str → Option Value} (k : Three b x hr m) (F : Fr h₀ L h m) : Fr h₀ L h (kstB m [(Str.ofString "box", .ref b), (Str.ofString "part", .ref x), (Str.ofString "here", .ref hr)]) :=
  frNames _ F (by intro p hp; simp only [List.mem_cons, List.not_mem_nil, or_false] at hp; rcases hp with rfl | rfl | rfl; exact k.1; exact k.2.1; exact k.2.2)
def TurnJ (w : World) (b ib i : Nat) (m : Str → Option Value) (nx : Led) : Prop :=
  ∃ (dx x fl kn ag hr : Nat) (S : LS) (M O : Led), nx = M ++ O ∧ Ords ib b dx x fl kn ag hr ∧ OwnOff O [ib, b, dx, x, fl, kn, ag, hr] ∧ LawL w ib b dx x fl kn ag hr S O M ∧ Inv i S ∧ S.p.st ≠ .recvd ∧ Three b x hr m
theorem turn_end {w : World} {h₀ h' : Heap} {L : Addr} {m' : Str → Option Value} {own₁ M O P : Led} {Q : Flow → Shared → Prop} {tk : Nat} {s₁ : Shared} {i b ib dx x fl kn ag hr : Nat} {S : LS} {news' : Led}
    (F : Fr h₀ L h' m') (N : News h₀ L h' news') (hN : Sub (M ++ P) news') (ho : Ords ib b dx x fl kn ag hr) (hP : LawL w ib b dx x fl kn ag hr S O M) (hsO : Sub O P) (hoO : OwnOff P [ib, b, dx, x, fl, kn, ag, hr]) (hKS : Sub own₁ P) (hKO : OwnOff own₁ (O.map (·.1)))
    (hIv : Inv (i + 1) S) (hnr : S.p.st ≠ .recvd) (hm : Three b x hr m') : TEnd h₀ L (TurnJ w b ib (i + 1)) own₁ s₁ Q .next { s₁ with heap := h', toks := tk } :=
  TEnd.next (M ++ O) F N ((Sub.appL (Sub.appR1 (Sub.refl _)) (Sub.appR2 hsO)).trans hN) ((Sub.appR2 hKS).trans hN) (off_end hP.adr hKS hoO hKO) ⟨dx, x, fl, kn, ag, hr, S, M, O, rfl, ho, offSub hsO hoO, hP, hIv, hnr, hm⟩
/-- the same, at fixed places, of any state in P -/
def LawJ (w : World) (ib b dx x fl kn ag hr : Nat) (P : LS → Prop) (m : Str → Option Value) (nx : Led) : Prop :=
  ∃ (S : LS) (M O : Led), nx = M ++ O ∧ OwnOff O [ib, b, dx, x, fl, kn, ag, hr] ∧ LawL w ib b dx x fl kn ag hr S O M ∧ P S ∧ Three b x hr m
theorem TurnJ.of {w : World} {ib b i dx x fl kn ag hr : Nat} {S : LS} {m : Str → Option Value} {M O : Led} (ho : Ords ib b dx x fl kn ag hr) (hoO : OwnOff O [ib, b, dx, x, fl, kn, ag, hr]) (hP : LawL w ib b dx x fl kn ag hr S O M) (hIv : Inv i S) (hnr : S.p.st ≠ .recvd) (hm : Three b x hr m) : TurnJ w b ib i m (M ++ O) :=
  ⟨dx, x, fl, kn, ag, hr, S, M, O, rfl, ho, hoO, hP, hIv, hnr, hm⟩
theorem LawJ.of {w : World} {ib b dx x fl kn ag hr : Nat} {P : LS → Prop} {S : LS} {m : Str → Option Value} {M O : Led} (hoO : OwnOff O [ib, b, dx, x, fl, kn, ag, hr]) (hP : LawL w ib b dx x fl kn ag hr S O M) (hp : P S) (hm : Three b x hr m) : LawJ w ib b dx x fl kn ag hr P m (M ++ O) :=
  ⟨S, M, O, rfl, hoO, hP, hp, hm⟩
theorem law_join {w : World} {h₀ h' : Heap} {L : Addr} {m' : Str → Option Value} {M O R : Led} {tk : Nat} {s₁ : Shared} {b ib dx x fl kn ag hr : Nat} {S : LS} {news' : Led} {P : LS → Prop}
    (F : Fr h₀ L h' m') (N : News h₀ L h' news') (hN : Sub (M ++ R) news') (hP : LawL w ib b dx x fl kn ag hr S O M) (hsO : Sub O R) (hoO : OwnOff R [ib, b, dx, x, fl, kn, ag, hr]) (hp : P S) (hm : Three b x hr m') :
    JoinQ h₀ L (fun (f : Flow) m nx => f = Flow.next ∧ LawJ w ib b dx x fl kn ag hr P m nx) s₁ Flow.next { s₁ with heap := h', toks := tk } :=
  joinQ F (News.sub N ((Sub.appL (Sub.appR1 (Sub.refl _)) (Sub.appR2 hsO)).trans hN)) ⟨rfl, S, M, O, rfl, offSub hsO hoO, hP, hp, hm⟩
theorem while_end {w : World} {h₀ h' : Heap} {L : Addr} {m' : Str → Option Value} {M O R : Led} {Q : Flow → Shared → Prop} {tk n : Nat} {s₁ : Shared} {b ib dx x fl kn ag hr : Nat} {S : LS} {news' : Led}
    (F : Fr h₀ L h' m') (N : News h₀ L h' news') (hN : Sub (M ++ R) news') (hP : LawL w ib b dx x fl kn ag hr S O M) (hsO : Sub O R) (hoO : OwnOff R [ib, b, dx, x, fl, kn, ag, hr]) (hl : Last S) (hmu : mu S < n) (hm : Three b x hr m') :
    WhileStep2 h₀ L s₁ (fun n m nx => LawJ w ib b dx x fl kn ag hr (fun S => Last S ∧ mu S = n) m nx) Q n .next { s₁ with heap := h', toks := tk } :=
  ⟨h', tk, m', M ++ O, mu S, rfl, F, News.sub N ((Sub.appL (Sub.appR1 (Sub.refl _)) (Sub.appR2 hsO)).trans hN), hmu, S, M, O, rfl, offSub hsO hoO, hP, ⟨hl, rfl⟩, hm⟩
theorem ack_end {w : World} {h₀ h' : Heap} {L : Addr} {m' : Str → Option Value} {own₁ M O P : Led} {Q : Flow → Shared → Prop} {tk : Nat} {s₁ : Shared} {i b ib dx x fl kn ag hr n2 : Nat} {S : LS} {news' : Led} {fvs : List Value}
    (F : Fr h₀ L h' m') (N : News h₀ L h' news') (hN : Sub (M ++ P) news') (hP : LawL w ib b dx x fl kn ag hr S O M) (hf : M[4]? = some (fl, listOf fvs.toArray n2)) (hsO : Sub O P) (hoO : OwnOff P [ib, b, dx, x, fl, kn, ag, hr]) (hKS : Sub own₁ P) (hKO : OwnOff own₁ (O.map (·.1)))
    (hd : Done S (S.fl.drop (i + 1))) (hm : Three b x hr m') :
    TEnd h₀ L (fun m nx => (fl, listOf fvs.toArray n2) ∈ nx ∧ LawJ w ib b dx x fl kn ag hr (fun S => Done S (S.fl.drop (i + 1))) m nx) own₁ s₁ Q .next { s₁ with heap := h', toks := tk } :=
  TEnd.next (M ++ O) F N ((Sub.appL (Sub.appR1 (Sub.refl _)) (Sub.appR2 hsO)).trans hN) ((Sub.appR2 hKS).trans hN) (off_end hP.adr hKS hoO hKO) ⟨List.mem_append_left _ (List.mem_of_getElem? hf), S, M, O, rfl, offSub hsO hoO, hP, hd, hm⟩
theorem same_obj {h₀ h : Heap} {L a : Addr} {nx : Led} {o o' : Obj} (N : News h₀ L h nx) (h1 : (a, o) ∈ nx) (h2 : (a, o') ∈ nx) : o = o' := Option.some.inj ((N _ h1).1.symm.trans (N _ h2).1)
theorem same_list {vs us : List Value} {n k : Nat} (e : listOf vs.toArray n = listOf us.toArray k) : vs = us := by
  have e2 : Data.seq vs.toArray n = Data.seq us.toArray k := congrArg Obj.data e
  injection e2 with e3 e4
  simpa using congrArg Array.toList e3
theorem LawL.flying {w : World} {ib b dx x fl kn ag hr : Nat} {S : LS} {M O : Led} (h : LawL w ib b dx x fl kn ag hr S O M) : ∃ fvs n2, M[4]? = some (fl, listOf (List.toArray fvs) n2) ∧ ChunksAt O fvs S.fl := by
  refine LawL.elim h ?_
  intro vs ns n0 seed ts n1 k t1 t2 t3 t4 la lb fvs n2 ok oa oh tw hi hl40 hs0 hs1 hA hB hC hK hG hH
  exact ⟨fvs, n2, rfl, hC⟩
/-- the turn's chunk in the last loop -/
theorem fly_at {w : World} {ib b dx x fl kn ag hr i n : Nat} {S : LS} {M O own : Led} {h₀ h : Heap} {L : Addr} {vs : List Value} {v : Value} (h1 : LawL w ib b dx x fl kn ag hr S O M) (N : News h₀ L h (M ++ O ++ own)) (hl : (fl, listOf vs.toArray n) ∈ M ++ O) (hv : vs[i]? = some v) :
    ∃ c cv, v = .ref cv ∧ ChunkAt O (.ref cv) c ∧ S.fl.drop i = c :: S.fl.drop (i + 1) ∧ M[4]? = some (fl, listOf vs.toArray n) := by
  obtain ⟨fvs, n2, h2, h3⟩ := h1.flying
  have e := same_obj N (List.mem_append_left _ hl) (List.mem_append_left _ (List.mem_append_left _ (List.mem_of_getElem? h2)))
  have e' := same_list e
  rw [← e] at h2
  subst e'
  obtain ⟨c, h4, h5⟩ := h3.get hv
  obtain ⟨cv, t, u, n', rfl, h6⟩ := id h5
  refine ⟨c, cv, rfl, h5, ?_, h2⟩
  obtain ⟨hlt, e⟩ := List.getElem?_eq_some_iff.mp h4
  rw [← e]
  exact List.drop_eq_getElem_cons hlt
theorem fly_all {w : World} {ib b dx x fl kn ag hr n : Nat} {S : LS} {M O : Led} {h₀ h : Heap} {L : Addr} {vs : List Value} (h1 : LawL w ib b dx x fl kn ag hr S O M) (N : News h₀ L h (M ++ O)) (hl : (fl, listOf vs.toArray n) ∈ M ++ O) (hd : Done S (S.fl.drop vs.length)) : Done S [] := by
  obtain ⟨fvs, n2, h2, h3⟩ := h1.flying
  have e := same_list (same_obj N hl (List.mem_append_left _ (List.mem_of_getElem? h2)))
  subst e
  rw [h3.length, List.drop_length] at hd
  exact hd
theorem Done.next {S : LS} {i : Nat} {c : Chunk} (h : Done S (S.fl.drop i)) (e : S.fl.drop i = c :: S.fl.drop (i + 1)) : Done (ackLS S c) ((ackLS S c).fl.drop (i + 1)) := by
  rw [e] at h
  exact h.ack
theorem LSpecM.useG {w : World} {D U : Nat} {f : Addr} {args : List Value} {ib b dx x fl kn ag hr : Nat} {M own own₀ K : Led} {Post : Value → LS → Led → Led → Prop} (C : LSpecM w D U f args ib b dx x fl kn ag hr M own Post) (hsub : Sub own own₀) (off : OwnOff own₀ [ib, b, dx, x, fl, kn, ag, hr]) (hK : Sub K own₀) (hKO : OwnOff K (own.map (·.1)))
    {mean : ExcName → Option Value} {mg mb : Str → Option Value} {dp un : Nat} {gd : Option (List Code)} {cn : Str} {cs : Scope} {a : Addr} {ccd : Value} {cl : List (Str × Addr)} {outer : List Env} {A₀ : Around} {base h₀ : Heap} {L : Addr} {m : Str → Option Value} {news₀ : Led} {s : Shared}
    {Q E : Value → Shared → Prop} (B : Below A₀ base outer h₀) (F : Fr h₀ L s.heap m) (X : (NH.hd.heap_39 w.params).In h₀) (N : News h₀ L s.heap news₀) (T : Top NH.hd.view_39 (looseW NH.hd.view_39 [Str.ofString "OPEN_STATES"]) mean mg mb h₀) (hk : cs.kind = .function)
    (hd : dp + D < recursionLimit) (hu : un + U < cLine) (hn : Sub (M ++ own₀) news₀)
    (ret : ∀ r M' S' O O₀ h' tk', Fr h₀ L h' m → News h₀ L h' (M' ++ O₀) → Sub own O → Sub own₀ O₀ → Sub O O₀ → OwnOff O₀ [ib, b, dx, x, fl, kn, ag, hr] → Sub K O₀ → OwnOff K (O.map (·.1)) → LawL w ib b dx x fl kn ag hr S' O M' → Post r S' O M' → Q r { s with heap := h', toks := tk' }) :
    wpAny (model PySem.Challenge.rw_no0075_01.row.prog w) (ktrTop dp un gd cn cs L a ccd cl outer) (call (.ref f) args) Q E s := by
  refine Spec.use (C own₀ hsub off) B F X N T hk hd hu hn ?_
  rintro r _ h' tk' F' N' ⟨T', M', S', rfl, hf', hL, hp⟩
  exact ret r M' S' (T' ++ own) (T' ++ own₀) h' tk' F' N' (Sub.appR2 (Sub.refl _)) (Sub.appR2 (Sub.refl _)) (Sub.appL (Sub.appR1 (Sub.refl _)) (Sub.appR2 hsub)) (hf'.off off) (fun p hp => List.mem_append_right _ (hK p hp)) (fun p hp z hz => by
    rw [List.map_append] at hz
    rcases List.mem_append.mp hz with hz | hz
    · obtain ⟨q, hq, rfl⟩ := List.mem_map.mp hz
      exact Nat.ne_of_lt (hf'.1 q hq p (hK p hp))
    · exact hKO p hp z hz) hL hp
theorem Inv.raise {t : Nat} {S S' : LS} {l : Int} (h : Inv t S) (e : S' = { S with p := { S.p with lim := max S.p.lim l } }) : Inv t S' ∧ l ≤ S'.p.lim ∧ S'.p.st = S.p.st := by
  subst e
  exact ⟨⟨h.core.raise _, h.hw, h.wz, h.fz⟩, by show l ≤ max S.p.lim l; omega, rfl⟩
theorem Inv.finish {t : Nat} {S S' : LS} (h : Inv t S) (hf : S.p.fin = false) (e : S' = { S with p := { S.p with fin := true, ow := true } }) : Inv t S' ∧ S'.p.lim = S.p.lim ∧ S'.p.fin = true ∧ S'.p.st = S.p.st := by
  subst e
  exact ⟨⟨h.core.finish hf, h.hw, h.wz, h.fz⟩, rfl, rfl, rfl⟩
theorem Done.allEq {S : LS} (h : Done S []) : ((KeyP.inr END : Key) ∈ S.kn ∧ (S.kn.length : Int) = (S.hw.size : Int) + 1) := by
  have h1 := h.core.all
  rw [decide_eq_true h.all] at h1
  rw [h.hw]
  exact of_decide_eq_true h1.symm
/-- the objects written out -/
theorem law_open {w : World} {ib b dx x fl kn ag hr : Nat} {S : LS} {M O P : Led} {h₀ h : Heap} {L : Addr} {C : Prop} (hP : LawL w ib b dx x fl kn ag hr S O M) (N : News h₀ L h (M ++ P))
    (c : ∀ (vs : List Value) (n0 : Nat) (seed : Int) (ts : Tok) (n1 : Nat) (k : Nat → Tok) (t1 t2 t3 t4 : Tok) (la lb : Nat) (fvs : List Value) (n2 : Nat) (ok oa oh : Obj) (tw : Tok), News h₀ L h ((ib, listOf vs.toArray n0) :: (b, listOf #[.ref ib, .int seed ts] n1) :: (dx, dictOf (partEs w.params k (.int S.p.lim t1) (.str S.p.st.str t2) (.bytes S.p.W t3) (.int S.p.se t4) (.ref la) (.ref lb) (.bool S.p.fin) (.bool S.p.ow) (.bool S.p.ea)) 11) :: (x, instObj 199 dx) :: (fl, listOf fvs.toArray n2) :: (kn, ok) :: (ag, oa) :: (hr, oh) :: P) → LawL w ib b dx x fl kn ag hr S O [(ib, listOf vs.toArray n0), (b, listOf #[.ref ib, .int seed ts] n1), (dx, dictOf (partEs w.params k (.int S.p.lim t1) (.str S.p.st.str t2) (.bytes S.p.W t3) (.int S.p.se t4) (.ref la) (.ref lb) (.bool S.p.fin) (.bool S.p.ow) (.bool S.p.ea)) 11), (x, instObj 199 dx), (fl, listOf fvs.toArray n2), (kn, ok), (ag, oa), (hr, oh)] → oh.IsDictOf (strKind PySem.Challenge.rw_no0075_01.row.prog w) (hereKvs S.hw tw fl kn ag) → C) : C := by
  revert N
  refine LawL.elim hP ?_
  intro vs ns n0 seed ts n1 k t1 t2 t3 t4 la lb fvs n2 ok oa oh tw hi hl40 hs0 hs1 hA hB hC hK hG hH N
  exact c vs n0 seed ts n1 k t1 t2 t3 t4 la lb fvs n2 ok oa oh tw N (LawL.of vs ns n0 seed ts n1 k t1 t2 t3 t4 la lb fvs n2 ok oa oh tw hi hl40 hs0 hs1 hA hB hC hK hG hH) hH
theorem TurnJ.turn {w : World} {ib b i : Nat} {m : Str → Option Value} {nx K : Led} {h₀ h : Heap} {L : Addr} {C : Prop} (hJ : TurnJ w b ib i m nx) (F : Fr h₀ L h m) (N : News h₀ L h (nx ++ K)) (hK : OwnOff K (nx.map (·.1)))
    (c : ∀ (dx x fl kn ag hr : Nat) (S : LS) (O : Led) (vs : List Value) (n0 : Nat) (seed : Int) (ts : Tok) (n1 : Nat) (k : Nat → Tok) (t1 t2 t3 t4 : Tok) (la lb : Nat) (fvs : List Value) (n2 : Nat) (ok oa oh : Obj) (tw : Tok), Ords ib b dx x fl kn ag hr → Fr h₀ L h (kstB m [(Str.ofString "box", .ref b), (Str.ofString "part", .ref x), (Str.ofString "here", .ref hr)]) → News h₀ L h ((ib, listOf vs.toArray n0) :: (b, listOf #[.ref ib, .int seed ts] n1) :: (dx, dictOf (partEs w.params k (.int S.p.lim t1) (.str S.p.st.str t2) (.bytes S.p.W t3) (.int S.p.se t4) (.ref la) (.ref lb) (.bool S.p.fin) (.bool S.p.ow) (.bool S.p.ea)) 11) :: (x, instObj 199 dx) :: (fl, listOf fvs.toArray n2) :: (kn, ok) :: (ag, oa) :: (hr, oh) :: (O ++ K)) → LawL w ib b dx x fl kn ag hr S O [(ib, listOf vs.toArray n0), (b, listOf #[.ref ib, .int seed ts] n1), (dx, dictOf (partEs w.params k (.int S.p.lim t1) (.str S.p.st.str t2) (.bytes S.p.W t3) (.int S.p.se t4) (.ref la) (.ref lb) (.bool S.p.fin) (.bool S.p.ow) (.bool S.p.ea)) 11), (x, instObj 199 dx), (fl, listOf fvs.toArray n2), (kn, ok), (ag, oa), (hr, oh)] → oh.IsDictOf (strKind PySem.Challenge.rw_no0075_01.row.prog w) (hereKvs S.hw tw fl kn ag) →
      Sub O (O ++ K) → OwnOff (O ++ K) [ib, b, dx, x, fl, kn, ag, hr] → Sub K (O ++ K) → OwnOff K (O.map (·.1)) → Inv i S → S.p.st ≠ .recvd → C) : C := by
  obtain ⟨dx, x, fl, kn, ag, hr, S, M, O, rfl, ho, hoO, hP, hIv, hnr, hm⟩ := hJ
  have eM := hP.adr
  rw [List.append_assoc] at N
  refine law_open hP N ?_
  intro vs n0 seed ts n1 k t1 t2 t3 t4 la lb fvs n2 ok oa oh tw N' hP' hH
  exact c dx x fl kn ag hr S O vs n0 seed ts n1 k t1 t2 t3 t4 la lb fvs n2 ok oa oh tw ho (hm.frame F) N' hP' hH (Sub.appR1 (Sub.refl _)) (offApp hoO (fun q hq z hz => hK q hq z (by rw [List.map_append, eM]; exact List.mem_append_left _ hz))) (Sub.appR2 (Sub.refl _)) (fun q hq z hz => hK q hq z (by rw [List.map_append]; exact List.mem_append_right _ hz)) hIv hnr
theorem TurnJ.done {w : World} {ib b i : Nat} {m : Str → Option Value} {nx : Led} {h₀ h : Heap} {L : Addr} {C : Prop} (hJ : TurnJ w b ib i m nx) (F : Fr h₀ L h m) (N : News h₀ L h nx)
    (c : ∀ (dx x fl kn ag hr : Nat) (S : LS) (O : Led) (vs : List Value) (n0 : Nat) (seed : Int) (ts : Tok) (n1 : Nat) (k : Nat → Tok) (t1 t2 t3 t4 : Tok) (la lb : Nat) (fvs : List Value) (n2 : Nat) (ok oa oh : Obj) (tw : Tok), Ords ib b dx x fl kn ag hr → Fr h₀ L h (kstB m [(Str.ofString "box", .ref b), (Str.ofString "part", .ref x), (Str.ofString "here", .ref hr)]) → News h₀ L h ((ib, listOf vs.toArray n0) :: (b, listOf #[.ref ib, .int seed ts] n1) :: (dx, dictOf (partEs w.params k (.int S.p.lim t1) (.str S.p.st.str t2) (.bytes S.p.W t3) (.int S.p.se t4) (.ref la) (.ref lb) (.bool S.p.fin) (.bool S.p.ow) (.bool S.p.ea)) 11) :: (x, instObj 199 dx) :: (fl, listOf fvs.toArray n2) :: (kn, ok) :: (ag, oa) :: (hr, oh) :: O) → LawL w ib b dx x fl kn ag hr S O [(ib, listOf vs.toArray n0), (b, listOf #[.ref ib, .int seed ts] n1), (dx, dictOf (partEs w.params k (.int S.p.lim t1) (.str S.p.st.str t2) (.bytes S.p.W t3) (.int S.p.se t4) (.ref la) (.ref lb) (.bool S.p.fin) (.bool S.p.ow) (.bool S.p.ea)) 11), (x, instObj 199 dx), (fl, listOf fvs.toArray n2), (kn, ok), (ag, oa), (hr, oh)] → oh.IsDictOf (strKind PySem.Challenge.rw_no0075_01.row.prog w) (hereKvs S.hw tw fl kn ag) →
      OwnOff O [ib, b, dx, x, fl, kn, ag, hr] → Inv i S → S.p.st ≠ .recvd → C) : C := by
  obtain ⟨dx, x, fl, kn, ag, hr, S, M, O, rfl, ho, hoO, hP, hIv, hnr, hm⟩ := hJ
  refine law_open hP N ?_
  intro vs n0 seed ts n1 k t1 t2 t3 t4 la lb fvs n2 ok oa oh tw N' hP' hH
  exact c dx x fl kn ag hr S O vs n0 seed ts n1 k t1 t2 t3 t4 la lb fvs n2 ok oa oh tw ho (hm.frame F) N' hP' hH hoO hIv hnr
theorem LawJ.done {w : World} {ib b dx x fl kn ag hr : Nat} {P : LS → Prop} {m : Str → Option Value} {nx : Led} {h₀ h : Heap} {L : Addr} {C : Prop} (hJ : LawJ w ib b dx x fl kn ag hr P m nx) (F : Fr h₀ L h m) (N : News h₀ L h nx)
    (c : ∀ (S : LS) (O : Led) (vs : List Value) (n0 : Nat) (seed : Int) (ts : Tok) (n1 : Nat) (k : Nat → Tok) (t1 t2 t3 t4 : Tok) (la lb : Nat) (fvs : List Value) (n2 : Nat) (ok oa oh : Obj) (tw : Tok), Fr h₀ L h (kstB m [(Str.ofString "box", .ref b), (Str.ofString "part", .ref x), (Str.ofString "here", .ref hr)]) → News h₀ L h ((ib, listOf vs.toArray n0) :: (b, listOf #[.ref ib, .int seed ts] n1) :: (dx, dictOf (partEs w.params k (.int S.p.lim t1) (.str S.p.st.str t2) (.bytes S.p.W t3) (.int S.p.se t4) (.ref la) (.ref lb) (.bool S.p.fin) (.bool S.p.ow) (.bool S.p.ea)) 11) :: (x, instObj 199 dx) :: (fl, listOf fvs.toArray n2) :: (kn, ok) :: (ag, oa) :: (hr, oh) :: O) → LawL w ib b dx x fl kn ag hr S O [(ib, listOf vs.toArray n0), (b, listOf #[.ref ib, .int seed ts] n1), (dx, dictOf (partEs w.params k (.int S.p.lim t1) (.str S.p.st.str t2) (.bytes S.p.W t3) (.int S.p.se t4) (.ref la) (.ref lb) (.bool S.p.fin) (.bool S.p.ow) (.bool S.p.ea)) 11), (x, instObj 199 dx), (fl, listOf fvs.toArray n2), (kn, ok), (ag, oa), (hr, oh)] → oh.IsDictOf (strKind PySem.Challenge.rw_no0075_01.row.prog w) (hereKvs S.hw tw fl kn ag) → OwnOff O [ib, b, dx, x, fl, kn, ag, hr] → P S → C) : C := by
  obtain ⟨S, M, O, rfl, hoO, hP, hp, hm⟩ := hJ
  refine law_open hP N ?_
  intro vs n0 seed ts n1 k t1 t2 t3 t4 la lb fvs n2 ok oa oh tw N' hP' hH
  exact c S O vs n0 seed ts n1 k t1 t2 t3 t4 la lb fvs n2 ok oa oh tw (hm.frame F) N' hP' hH hoO hp
section
variable {w : World} {ib b dx x fl kn ag hr : Nat} {D U : Nat} {f : Addr} {args : List Value} {S : LS} {M own own₀ K : Led} {mean : ExcName → Option Value} {mg mb : Str → Option Value} {dp un : Nat} {gd : Option (List Code)} {cn : Str} {cs : Scope} {a : Addr} {ccd : Value} {cl : List (Str × Addr)} {outer : List Env} {A₀ : Around} {base h₀ : Heap} {L : Addr} {m : Str → Option Value} {news₀ : Led} {s : Shared} {Q E : Value → Shared → Prop}
theorem RSpec.useH {Post : Value → Prop} (hP : LawL w ib b dx x fl kn ag hr S own M) (R : ∀ M2, PartL w.params dx x S.p own M2 → RSpec w D U f args M2 own Post) (hsub : Sub own own₀) (off : OwnOff own₀ [ib, b, dx, x, fl, kn, ag, hr]) (hK : Sub K own₀) (hKO : OwnOff K (own.map (·.1)))
    (B : Below A₀ base outer h₀) (F : Fr h₀ L s.heap m) (X : (NH.hd.heap_39 w.params).In h₀) (N : News h₀ L s.heap news₀) (T : Top NH.hd.view_39 (looseW NH.hd.view_39 [Str.ofString "OPEN_STATES"]) mean mg mb h₀) (hk : cs.kind = .function)
    (hd : dp + D < recursionLimit) (hu : un + U < cLine) (hn : Sub (M ++ own₀) news₀)
    (ret : ∀ r O O₀ h' tk', Fr h₀ L h' m → News h₀ L h' (M ++ O₀) → Sub O O₀ → OwnOff O₀ [ib, b, dx, x, fl, kn, ag, hr] → Sub K O₀ → OwnOff K (O.map (·.1)) → LawL w ib b dx x fl kn ag hr S O M → Post r → Q r { s with heap := h', toks := tk' }) :
    wpAny (model PySem.Challenge.rw_no0075_01.row.prog w) (ktrTop dp un gd cn cs L a ccd cl outer) (call (.ref f) args) Q E s := by
  have eM := hP.adr
  obtain ⟨M2, o1, o2, o3, o4, o5, o6, e, hp, _, _⟩ := hP.part
  have hM2 : Sub M2 M := fun p hp => by rw [e]; simp [hp]
  refine Spec.use (R M2 hp (M ++ own₀) (Sub.appR2 hsub) (hM2.trans (Sub.appR1 (Sub.refl _)))) B F X N T hk hd hu hn ?_
  rintro r _ h' tk' F' N' ⟨T', rfl, hf, hr⟩
  have hf1 : Fresh T' own₀ := hf.sub (Sub.appR2 (Sub.refl _))
  refine ret r (T' ++ own) (T' ++ own₀) h' tk' F' (News.sub N' ?_) (Sub.appL (Sub.appR1 (Sub.refl _)) (Sub.appR2 hsub)) (offApp (fun q hq z hz => ?_) off) (Sub.appR2 hK) (fun q hq z hz => ?_) (hP.mono (Sub.appR2 (Sub.refl _))) hr
  · intro p hp
    simp only [List.mem_append] at hp ⊢
    rcases hp with h | h | h <;> simp [h]
  · rw [← eM] at hz
    obtain ⟨y, hy, rfl⟩ := List.mem_map.mp hz
    exact Nat.ne_of_gt (hf q hq y (List.mem_append_left _ hy))
  · rw [List.map_append] at hz
    rcases List.mem_append.mp hz with hz | hz
    · obtain ⟨y, hy, rfl⟩ := List.mem_map.mp hz
      exact Nat.ne_of_lt (hf1 y hy q (hK q hq))
    · exact hKO q hq z hz
/-- the law's state turned, the objects written out -/
theorem LSpec.useH {Post : Value → LS → Led → Prop} (R : LSpec w D U f args ib b dx x fl kn ag hr M own Post) (hsub : Sub own own₀) (off : OwnOff own₀ [ib, b, dx, x, fl, kn, ag, hr]) (hK : Sub K own₀) (hKO : OwnOff K (own.map (·.1)))
    (B : Below A₀ base outer h₀) (F : Fr h₀ L s.heap m) (X : (NH.hd.heap_39 w.params).In h₀) (N : News h₀ L s.heap news₀) (T : Top NH.hd.view_39 (looseW NH.hd.view_39 [Str.ofString "OPEN_STATES"]) mean mg mb h₀) (hk : cs.kind = .function)
    (hd : dp + D < recursionLimit) (hu : un + U < cLine) (hn : Sub (M ++ own₀) news₀)
    (ret : ∀ r S O P h' tk' (vs : List Value) (n0 : Nat) (seed : Int) (ts : Tok) (n1 : Nat) (k : Nat → Tok) (t1 t2 t3 t4 : Tok) (la lb : Nat) (fvs : List Value) (n2 : Nat) (ok oa oh : Obj) (tw : Tok), Fr h₀ L h' m → News h₀ L h' ((ib, listOf vs.toArray n0) :: (b, listOf #[.ref ib, .int seed ts] n1) :: (dx, dictOf (partEs w.params k (.int S.p.lim t1) (.str S.p.st.str t2) (.bytes S.p.W t3) (.int S.p.se t4) (.ref la) (.ref lb) (.bool S.p.fin) (.bool S.p.ow) (.bool S.p.ea)) 11) :: (x, instObj 199 dx) :: (fl, listOf fvs.toArray n2) :: (kn, ok) :: (ag, oa) :: (hr, oh) :: P) → Sub O P → OwnOff P [ib, b, dx, x, fl, kn, ag, hr] → Sub K P → OwnOff K (O.map (·.1)) → LawL w ib b dx x fl kn ag hr S O [(ib, listOf vs.toArray n0), (b, listOf #[.ref ib, .int seed ts] n1), (dx, dictOf (partEs w.params k (.int S.p.lim t1) (.str S.p.st.str t2) (.bytes S.p.W t3) (.int S.p.se t4) (.ref la) (.ref lb) (.bool S.p.fin) (.bool S.p.ow) (.bool S.p.ea)) 11), (x, instObj 199 dx), (fl, listOf fvs.toArray n2), (kn, ok), (ag, oa), (hr, oh)] → oh.IsDictOf (strKind PySem.Challenge.rw_no0075_01.row.prog w) (hereKvs S.hw tw fl kn ag) → Post r S O → Q r { s with heap := h', toks := tk' }) :
    wpAny (model PySem.Challenge.rw_no0075_01.row.prog w) (ktrTop dp un gd cn cs L a ccd cl outer) (call (.ref f) args) Q E s := by
  refine LSpec.useG R hsub off hK hKO B F X N T hk hd hu hn ?_
  intro r M' S' O P h' tk' F' N' _ _ z3 z4 z5 z6 hL hp
  refine law_open hL N' ?_
  intro vs n0 seed ts n1 k t1 t2 t3 t4 la lb fvs n2 ok oa oh tw N'' hP' hH
  exact ret r S' O P h' tk' vs n0 seed ts n1 k t1 t2 t3 t4 la lb fvs n2 ok oa oh tw F' N'' z3 z4 z5 z6 hP' hH hp
theorem LSpec.useS {v : Value} (R : LSpec w D U f args ib b dx x fl kn ag hr M own (fun r S' _ => r = v ∧ S' = S)) (hsub : Sub own own₀) (off : OwnOff own₀ [ib, b, dx, x, fl, kn, ag, hr]) (hK : Sub K own₀) (hKO : OwnOff K (own.map (·.1)))
    (B : Below A₀ base outer h₀) (F : Fr h₀ L s.heap m) (X : (NH.hd.heap_39 w.params).In h₀) (N : News h₀ L s.heap news₀) (T : Top NH.hd.view_39 (looseW NH.hd.view_39 [Str.ofString "OPEN_STATES"]) mean mg mb h₀) (hk : cs.kind = .function)
    (hd : dp + D < recursionLimit) (hu : un + U < cLine) (hn : Sub (M ++ own₀) news₀)
    (ret : ∀ O P h' tk' (vs : List Value) (n0 : Nat) (seed : Int) (ts : Tok) (n1 : Nat) (k : Nat → Tok) (t1 t2 t3 t4 : Tok) (la lb : Nat) (fvs : List Value) (n2 : Nat) (ok oa oh : Obj) (tw : Tok), Fr h₀ L h' m → News h₀ L h' ((ib, listOf vs.toArray n0) :: (b, listOf #[.ref ib, .int seed ts] n1) :: (dx, dictOf (partEs w.params k (.int S.p.lim t1) (.str S.p.st.str t2) (.bytes S.p.W t3) (.int S.p.se t4) (.ref la) (.ref lb) (.bool S.p.fin) (.bool S.p.ow) (.bool S.p.ea)) 11) :: (x, instObj 199 dx) :: (fl, listOf fvs.toArray n2) :: (kn, ok) :: (ag, oa) :: (hr, oh) :: P) → Sub O P → OwnOff P [ib, b, dx, x, fl, kn, ag, hr] → Sub K P → OwnOff K (O.map (·.1)) → LawL w ib b dx x fl kn ag hr S O [(ib, listOf vs.toArray n0), (b, listOf #[.ref ib, .int seed ts] n1), (dx, dictOf (partEs w.params k (.int S.p.lim t1) (.str S.p.st.str t2) (.bytes S.p.W t3) (.int S.p.se t4) (.ref la) (.ref lb) (.bool S.p.fin) (.bool S.p.ow) (.bool S.p.ea)) 11), (x, instObj 199 dx), (fl, listOf fvs.toArray n2), (kn, ok), (ag, oa), (hr, oh)] → oh.IsDictOf (strKind PySem.Challenge.rw_no0075_01.row.prog w) (hereKvs S.hw tw fl kn ag) → Q v { s with heap := h', toks := tk' }) :
    wpAny (model PySem.Challenge.rw_no0075_01.row.prog w) (ktrTop dp un gd cn cs L a ccd cl outer) (call (.ref f) args) Q E s := by
  refine LSpec.useH R hsub off hK hKO B F X N T hk hd hu hn ?_
  rintro r S' O P h' tk' vs n0 seed ts n1 k t1 t2 t3 t4 la lb fvs n2 ok oa oh tw F' N' z3 z4 z5 z6 hP' hH ⟨rfl, rfl⟩
  exact ret O P h' tk' vs n0 seed ts n1 k t1 t2 t3 t4 la lb fvs n2 ok oa oh tw F' N' z3 z4 z5 z6 hP' hH
end
theorem LawJ.fly {w : World} {ib b dx x fl kn ag hr n : Nat} {m : Str → Option Value} {nx : Led} {h₀ h : Heap} {L : Addr} {vs : List Value} (hJ : LawJ w ib b dx x fl kn ag hr (fun S => Done S (S.fl.drop vs.length)) m nx) (N : News h₀ L h nx) (hl : (fl, listOf vs.toArray n) ∈ nx) : LawJ w ib b dx x fl kn ag hr (fun S => Done S []) m nx := by
  obtain ⟨S, M, O, rfl, hoO, hP, hp, hm⟩ := hJ
  exact ⟨S, M, O, rfl, hoO, hP, fly_all hP N hl hp, hm⟩
@[elab_as_elim] theorem LawJ.turn {w : World} {ib b dx x fl kn ag hr i n : Nat} {m : Str → Option Value} {nx K : Led} {h₀ h : Heap} {L : Addr} {vs : List Value} {v : Value} {C : Value → Prop} (hJ : LawJ w ib b dx x fl kn ag hr (fun S => Done S (S.fl.drop i)) m nx) (F : Fr h₀ L h m) (N : News h₀ L h (nx ++ K)) (hl : (fl, listOf vs.toArray n) ∈ nx) (hv : vs[i]? = some v) (hK : OwnOff K (nx.map (·.1)))
    (c : ∀ (S : LS) (M O : Led) (c : Chunk) (cv : Nat), ChunkAt O (.ref cv) c → M[4]? = some (fl, listOf vs.toArray n) → Fr h₀ L h (kstB m [(Str.ofString "box", .ref b), (Str.ofString "part", .ref x), (Str.ofString "here", .ref hr)]) → News h₀ L h (M ++ (O ++ K)) → LawL w ib b dx x fl kn ag hr S O M →
      Sub O (O ++ K) → OwnOff (O ++ K) [ib, b, dx, x, fl, kn, ag, hr] → Sub K (O ++ K) → OwnOff K (O.map (·.1)) → AckOK S c → Sizes S → Done (ackLS S c) ((ackLS S c).fl.drop (i + 1)) → C (.ref cv)) : C v := by
  obtain ⟨S, M, O, rfl, hoO, hP, hDn, hm⟩ := hJ
  obtain ⟨c', cv, rfl, hc, hdr, hM4⟩ := fly_at hP N hl hv
  have eM := hP.adr
  refine c S M O c' cv hc hM4 (hm.frame F) (by rw [← List.append_assoc]; exact N) hP (Sub.appR1 (Sub.refl _)) (offApp hoO (fun q hq z hz => hK q hq z (by rw [List.map_append, eM]; exact List.mem_append_left _ hz))) (Sub.appR2 (Sub.refl _)) (fun q hq z hz => hK q hq z (by rw [List.map_append]; exact List.mem_append_right _ hz)) (hDn.core.ackOK (by have := hDn.wz; omega) (by rw [hdr]; exact .head _)) hDn.sizes (hDn.next hdr)
theorem ne_same {w : World} {prog : Program} {A : Around} {E Q : Value → Shared → Prop} {s : Shared} {a : Bool} (h : Q (.bool false) s) : wpAny (model prog w) A (compareOp .NotEq (.bool a) (.bool a)) Q E s := ne_bool (by simpa using h)
theorem top_law : PySem.Challenge.rw_no0075_01.Holds := by
  k_with_none
  (k_with "call type:list" => (k_here; (with_reducible show wpAny _ _ (call (Value.type _) [Value.ref _]) _ _ _); k_dflt (refine' r_list ?nsF ?nsN ?nsm ?nsz ?_; (case nsF => k_asm); (case nsN => k_asm); (case nsm => k_mem); (case nsz => omega)); intro D' c' h' F' N' l1; (try k_lt l1); (try k_sweep)))
  (k_with "binaryOp Add ref ref" => (k_here; (with_reducible show wpAny _ _ (binaryOp _ (Value.ref _) (Value.ref _)) _ _ _); k_dflt (refine' r_cat ?nsF ?nsN ?nsm ?nsb ?nsz ?_; (case nsF => k_asm); (case nsN => k_asm); (case nsm => k_mem); (case nsb => k_mem); (case nsz => (simp only [List.length_cons, List.length_nil]; omega))); intro D' h' F' N' l1; (try k_lt l1); (try k_sweep)))
  (k_with "call builtin:list.append" => (k_here; (with_reducible show wpAny _ _ (call (Value.builtin _) [Value.ref _, _]) _ _ _); k_dflt (refine' r_append ?nsF ?nsN ?nsU ?nsz ?_; (case nsF => k_asm); (case nsN => k_asm); (case nsU => k_upd); (case nsz => (simp only [List.length_append, List.length_cons, List.length_nil]; omega))); intro h' F' N'; (try k_sweep)))
  (k_with "exec For Tuple Name cons nil" => (k_here; (rename Fr _ _ _ _ => lF'); (with_unfolding_all refine' For_turns lF' ?_); (try k_fold)))
  (k_with "sub" => (repeat' (first | (with_reducible exact Sub.refl _) | (with_reducible exact Sub.nil) | (with_reducible assumption) | ((with_reducible show Sub (_ :: _) _); refine Sub.consL (by k_mem) ?_) | (with_reducible refine Sub.appL ?_ ?_) | (with_reducible exact Sub.appR1 (Sub.refl _)) | (with_reducible exact Sub.appR2 (Sub.refl _)) | (with_reducible exact Sub.appR1 (Sub.appR1 (Sub.refl _))) | (with_reducible exact Sub.appR1 (Sub.appR2 (Sub.refl _))) | (with_reducible refine Sub.consR ?_) | (with_reducible refine Sub.appR2 ?_))))
  (k_with "call builtin:list.pop" => (k_here; (with_reducible show wpAny _ _ (call (Value.builtin _) [Value.ref _, Value.int _ _]) _ _ _); k_dflt (refine' pop0 ?nsF ?nsN ?nsU ?nsz ?_; (case nsF => k_asm); (case nsN => k_asm); (case nsU => k_upd); (case nsz => omega)); (intro h' F' N')))
  (k_with "call builtin:len" => (k_here; (with_reducible show wpAny _ _ (call (Value.builtin "len") [Value.ref _]) _ _ _); k_dflt (refine' r_len ?nsF ?nsN ?nsm ?nse ?nsz ?_; (case nsF => k_asm); (case nsN => k_asm); (case nsm => k_mem); (case nse => first | exact rfl | assumption | (simp only [List.length_cons, List.length_nil]; exact rfl)); (case nsz => ((try simp only [List.length_cons, List.length_nil, List.length_append, List.length_map]); omega))); (try simp only [List.length_cons, List.length_nil])))
  (k_with "subscriptTail" => (k_here; (with_reducible show wpAny _ _ (subscriptTail _ _ (Value.ref _) (Value.int _ _)) _ _ _); (with_unfolding_all refine' r_item ?nsN ?nsm ?nsh0 ?nshi ?nshx ?_ ?nshs; (case nsN => k_asm); (case nsm => k_mem); (case nsh0 => decide); (case nshi => decide); (case nshx => rfl); (case nshs => with_unfolding_all rfl); k_whole)))
  (k_with "compareOp In str ref" => (k_here; (with_reducible show wpAny _ _ (compareOp _ (Value.str _ _) (Value.ref _)) _ _ _); (first | (with_unfolding_all refine' r_instr true ?nsht ?nshi ?nshb ?_; (case nsht => first | exact News.isTup (by k_asm) (by k_mem) | exact kun_topT (by k_asm) (by k_asm) (by k_is)); (case nshi => kde_strs); (case nshb => decide)) | (with_unfolding_all refine' r_instr false ?nsht ?nshi ?nshb ?_; (case nsht => first | exact News.isTup (by k_asm) (by k_mem) | exact kun_topT (by k_asm) (by k_asm) (by k_is)); (case nshi => kde_strs); (case nshb => decide)) | (with_unfolding_all refine' r_instr _ ?nsht ?nshi ?nshb ?_; (case nsht => first | exact News.isTup (by k_asm) (by k_mem) | exact kun_topT (by k_asm) (by k_asm) (by k_is)); (case nshi => kde_strs); (case nshb => walk_at "st in")))))
  (k_with "compareOp NotIn str ref" => (k_here; (with_reducible show wpAny _ _ (compareOp _ (Value.str _ _) (Value.ref _)) _ _ _); (first | (with_unfolding_all refine' r_notinstr true ?nsht ?nshi ?nshb ?_; (case nsht => first | exact News.isTup (by k_asm) (by k_mem) | exact kun_topT (by k_asm) (by k_asm) (by k_is)); (case nshi => kde_strs); (case nshb => decide)) | (with_unfolding_all refine' r_notinstr false ?nsht ?nshi ?nshb ?_; (case nsht => first | exact News.isTup (by k_asm) (by k_mem) | exact kun_topT (by k_asm) (by k_asm) (by k_is)); (case nshi => kde_strs); (case nshb => decide)) | (with_unfolding_all refine' r_notinstr _ ?nsht ?nshi ?nshb ?_; (case nsht => first | exact News.isTup (by k_asm) (by k_mem) | exact kun_topT (by k_asm) (by k_asm) (by k_is)); (case nshi => kde_strs); (case nshb => walk_at "st in")))))
  (k_with "exec If" => k_dflt (k_extra "my if"))
  (k_with "eval BoolOp" => k_dflt (k_extra "my bool"))
  (k_with "eval IfExp" => k_dflt (k_extra "my ifexp"))
  (k_with "isTrue BoolOp" => k_dflt (k_extra "my test"))
  (k_with "call ref" => k_dflt (k_extra "my call"))
  (k_with "subscriptTail" => (k_here; (with_reducible show wpAny _ _ (subscriptTail _ (Expr.Slice _ _ none _) (Value.bytes _ _) (Value.ref _)) _ _ _); (with_reducible rename Fr _ _ _ _ => F'); (with_reducible rename News _ _ _ _ => N'); k_dflt (refine r_bslice (s := ⟨_, _, _, _, _⟩) F' N' (by constructor) (by constructor) (by omega) ?_); intro _ _ _ _ _))
  (k_with "call type:bytes" => (k_here; (with_reducible show wpAny _ _ (call (Value.type "bytes") [Value.bytes _ _]) _ _ _); refine call_bytes_bytes ?_))
  (k_with "newTuple" => (k_here; k_dflt (refine' r_newTuple ?nsF ?nsN ?nsz ?_; (case nsF => k_asm); (case nsN => k_asm); (case nsz => exact Nat.le_of_ble_eq_true rfl)); intro D' h' F' N' l1; (have l0 := l1); (try k_lt l1); (try k_sweep)))
  (k_with "newList" => (k_here; k_dflt (refine' r_newList ?nsF ?nsN ?nsz ?_; (case nsF => k_asm); (case nsN => k_asm); (case nsz => exact Nat.le_of_ble_eq_true rfl)); intro D' h' F' N' l1; (have l0 := l1); (try k_lt l1); (try k_sweep)))
  (k_with "binaryOp Add bytes bytes" => (k_here; (with_reducible show wpAny _ _ (binaryOp _ (Value.bytes _ _) (Value.bytes _ _)) _ _ _); refine r_badd (by omega) ?_; intro _ _))
  (k_with "exec For Tuple Call cons nil" => (k_here; (rename Fr _ _ _ _ => lF'); (with_unfolding_all refine' For_turns lF' ?_); (try k_fold)))
  (k_with "st in" => first | exact congrArg not (st_in _) | exact congrArg not (st_lost _) | exact st_in _ | exact st_lost _)
  (k_with "lt" => (intro b hb; (simp only [List.mem_cons, List.not_mem_nil, or_false] at hb); rcases hb with rfl | rfl <;> omega))
  (k_with "apart" => ((try simp only [List.cons_append, List.nil_append]); (repeat' (first | exact offNil | (refine offCons (by k_all) ?_)))))
  (k_with "subscriptTail Name Constant ref str" => (k_here; (with_reducible show wpAny _ _ (subscriptTail _ _ (Value.ref _) (Value.str _ _)) _ _ _); k_dflt (refine' kda_item (knd := PySem.strKind PySem.Challenge.rw_no0075_01.row.prog _) ?nsN ?nsm ?nsd ?nsk ?nsl ?_ ?nshs ?nshg; (case nsN => k_asm); (case nsm => with_reducible k_mem); (case nsd => with_reducible assumption); (case nsk => exact strKind_is _ _ _ _); (case nsl => first | exact (rfl : _ = some (Value.ref _)) | exact (rfl : _ = some (Value.bytes _ _))); (case nshs => with_unfolding_all rfl); (case nshg => (intro _; with_unfolding_all rfl)); k_whole)))
  (k_with "setItem ref int" => (k_here; (with_reducible show wpAny _ _ (setItem (Value.ref _) (Value.int _ _) (Value.bool true)) _ _ _); k_dflt (refine' dk_set (k := KeyP.inl _) ?nsF ?nsN ?nsU ?nsd ?nsk ?nsz ?_; (case nsF => k_asm); (case nsN => k_asm); (case nsU => k_updF); (case nsd => with_reducible assumption); (case nsk => exact mix_int _ _); (case nsz => omega)); (intro h' o' F' N' hd'); (try k_sweep)))
  (k_with "setItem ref str" => (k_here; (with_reducible show wpAny _ _ (setItem (Value.ref _) (Value.str _ _) (Value.bool true)) _ _ _); k_dflt (refine' dk_set (k := KeyP.inr _) ?nsF ?nsN ?nsU ?nsd ?nsk ?nsz ?_; (case nsF => k_asm); (case nsN => k_asm); (case nsU => k_updF); (case nsd => with_reducible assumption); (case nsk => exact mix_str _ _); (case nsz => omega)); (intro h' o' F' N' hd'); (try k_sweep)))
  (k_with "getMethod ref" => (k_here; (with_reducible show wpAny _ _ (getMethod (Value.ref _) (PySem.Str.ofString "pop") _) _ _ _); k_dflt (refine' dk_popm ?nsN ?nsm ?nsd ?_; (case nsN => k_asm); (case nsm => with_reducible k_mem); (case nsd => with_reducible assumption))))
  (k_with "call builtin:dict.pop" => (k_here; (with_reducible show wpAny _ _ (call (Value.builtin _) [Value.ref _, Value.int _ _, Value.none]) _ _ _); k_dflt (refine' dk_pop ?nsF ?nsN ?nsU ?nsd ?nslo ?nsz ?_; (case nsF => k_asm); (case nsN => k_asm); (case nsU => k_updF); (case nsd => with_reducible assumption); (case nslo => assumption); (case nsz => omega)); (intro h' o' r' F' N' hd'); (try k_sweep)))
  (k_with "compareOp NotIn int ref" => (k_here; (with_reducible show wpAny _ _ (compareOp _ (Value.int _ _) (Value.ref _)) _ _ _); k_dflt (refine' dk_notin (k := KeyP.inl _) ?nsN ?nsm ?nsd ?nslo ?nsk ?_; (case nsN => k_asm); (case nsm => with_reducible k_mem); (case nsd => with_reducible assumption); (case nslo => assumption); (case nsk => exact mix_int _ _))))
  (k_with "compareOp In str ref" => (k_here; (with_reducible show wpAny _ _ (compareOp _ (Value.str _ _) (Value.ref _)) _ _ _); k_dflt (refine' dk_in (k := KeyP.inr _) ?nsN ?nsm ?nsd ?nslo ?nsk ?_; (case nsN => k_asm); (case nsm => with_reducible k_mem); (case nsd => with_reducible assumption); (case nslo => assumption); (case nsk => exact mix_str _ _))))
  (k_with "call builtin:len" => (k_here; (with_reducible show wpAny _ _ (call (Value.builtin "len") [Value.ref _]) _ _ _); k_dflt (refine' dk_len ?nsN ?nsm ?nsd ?nslo ?nsz ?_; (case nsN => k_asm); (case nsm => with_reducible k_mem); (case nsd => with_reducible assumption); (case nslo => assumption); (case nsz => omega))))
  (k_with "exec For Name Call cons nil" => (k_here; (rename Fr _ _ _ _ => lF'); (with_unfolding_all refine' For_turns lF' ?_); (try k_fold)))
  (k_with "call type:range" => (k_here; (with_reducible show wpAny _ _ (call _ [_, _]) _ _ _); k_dflt (refine' range2_rows ?nsF ?nsN ?_; (case nsF => k_asm); (case nsN => k_asm)); (intro h' tk' t1' t2' t3' hR' F' N' hk'; clear hk'); (try k_sweep)))
  (k_with "compareOp NotEq bool bool" => (k_here; k_dflt (refine' ne_same ?_)))
  (k_with "exec While Call cons nil" => k_dflt (k_extra "my while"))
  (k_with "exec For Name Subscript cons nil" => (k_here; (rename Fr _ _ _ _ => lF'); (with_unfolding_all refine' For_turns lF' ?_); (try k_fold)))
  (k_with "subscriptTail Name Slice ref ref" => k_dflt (k_extra "my slice"))
  (k_with "eval Dict nil nil" => k_dflt (k_extra "my dict"))
  (k_with "callWith ref cons nil" => (k_here; (rename Fr _ _ _ _ => cwF'); k_dflt (refine' callWith_K0 ?nscwX ?nscwK ?_; (case nscwX => exact Frag.In.keeps (by k_asm) cwF'.keep); (case nscwK => k_is); k_whole; (try dsimp only [List.nil_append, List.cons_append]))))
  w_on
  refine holds_law (by decide +kernel) fun said => ?_
  refine holds_open (q := NH.hd.view_39) (loose := NH.hd.loose) (Xt := fun s => xlAt NH.hd.view_39 NH.hd.lv s && recOk (RowW.records PySem.Challenge.rw_no0075_01.row.toRowW) s) (XP := XL NH.hd.view_39 NH.hd.lv) (Yf := Hook.obs (kHook NH.hd.heap_39 NH.hd.adr NH.hd.adr_ok)) (Ya := Hook.val (kHook NH.hd.heap_39 NH.hd.adr NH.hd.adr_ok)) (YP := Hook.says (kHook NH.hd.heap_39 NH.hd.adr NH.hd.adr_ok)) (N := 3184) NH.hd.left (Hook.of (kHook NH.hd.heap_39 NH.hd.adr NH.hd.adr_ok)) (Hook.keeps (kHook NH.hd.heap_39 NH.hd.adr NH.hd.adr_ok)) (fun s e => xl_of s (Bool.and_eq_true_iff.mp e).1) XL.keeps (by rfl) (by rfl) (by rfl) (fun s e => recFacts_of (Bool.and_eq_true_iff.mp e).2) (by rfl) (by first | assumption | decide +kernel) (by decide +kernel) ⟨rfl, rfl, rfl, rfl, rfl, by decide +kernel⟩ ?hw ?hc
  case hw => w_witness2
  k_go0
  rename World => w
  rename Heap.IsList _ _ _ => hLs
  rename IntsAre _ _ => hIs
  rename ¬ ((63 : Nat) : Int) < _ => hlen
  have hvs := hIs.length
  have hl63 : List.length _ ≤ 63 := Nat.le_of_not_lt (fun h => hlen (Int.ofNat_lt.mpr h))
  (k_with "my call" => (
    (with_reducible show wpAny _ _ (call (Value.ref 210) [Value.ref _, Value.int _ _]) _ _ _)
    refine' box_spec _ _ _ _ _ hIs hl63 ?B ?F ?X ?N ?T ?hk ?hd ?hu hLs ?_
    (case B => k_asm)
    (case F => k_asm)
    (case X => k_asm)
    (case N => k_asm)
    (case T => k_asm)
    (case hk => exact rfl)
    (case hd => ktr_room)
    (case hu => ktr_units)
    intro ib b vs9 ns9 n09 seed9 ts9 n19 h9 tk9 F9 N9 hlt9 hi9 hl9 hs09 hs19
    all_goals (try dsimp only)
    all_goals (try k_fold)))
  (k_with "my call" => (
    (with_reducible show wpAny _ _ (call (Value.ref 217) [Value.ref _, Value.int _ _]) _ _ _)
    refine' take_use (ib := ib) (b := b) (own := []) ?w1 ?w2 ?hi ?hl ?hs0 ?hs1 hlt9 offNil ?B ?F ?X ?N ?T ?hk ?hd ?hu ?hn ?_
    (case B => k_asm)
    (case F => k_asm)
    (case X => k_asm)
    (case N => k_asm)
    (case T => k_asm)
    (case hk => exact rfl)
    (case hd => ktr_room)
    (case hu => ktr_units)
    (case hn => (refine (?_ : Sub _ _); walk_at "sub"))
    (case w1 => decide)
    (case w2 => decide)
    (case hi => assumption)
    (case hl => assumption)
    (case hs0 => assumption)
    (case hs1 => assumption)
    intro vs9 ns9 n09 seed9 ts9 n19 k9 tk99 h9 tk9 F9 N9 hi9 hl9 hs09 hs19 hk0 hk1
    all_goals (try dsimp only)
    all_goals (try k_fold)))
  (k_with "my slice" => (
    (with_reducible show wpAny _ _ (subscriptTail _ (PySem.Expr.Slice _ _ none _) (Value.ref _) (Value.ref _)) _ _ _)
    refine' kmk_slice_ints ?slzF ?slzN (hLs.at fun o e => Fr.keep (by k_asm) _ o e) ?slzp ?slzq hIs ?slzm ?slzc ?_ ?slzs ?slzt ?slzz
    (case slzF => k_asm)
    (case slzN => k_asm)
    (case slzp => kmk_part)
    (case slzq => kmk_part)
    (case slzm => exact kmk_upto hIs (by decide))
    (case slzc => exact rfl)
    (case slzs => with_unfolding_all rfl)
    (case slzt => kmk_pure)
    (case slzz => exact kmk_sz hIs (by rw [PySem.sizeLine_eq]; omega))
    intro D7 ws7 h7 F7 N7 l7 hI7 hC7 hL7
    have hw7 := hI7.length
    have l70 := l7
    (try k_lt l7)
    (try k_sweep)))
  (k_with "my dict" => (
    (with_reducible show wpAny _ _ (eval (Expr.Dict [] [] _) _) _ _ _)
    refine' newDict_K ?dqF ?dqN ?dqB ?_
    (case dqF => k_asm)
    (case dqN => k_asm)
    (case dqB => exact Top.nolimit (by k_asm))
    intro d7 h7 o7 F7 N7 l7 lo7 hs7 fs7 hi7 fi7
    have l70 := l7
    (try k_lt l7)
    (try k_sweep)))
  (k_with "my call" => (
    (try dsimp only [List.cons_append, List.nil_append])
    (with_reducible show wpAny _ _ (call (Value.ref 241) [Value.ref _, Value.ref _, Value.ref _]) _ _ _)
    skip
    refine' LSpec.useH (step_law w ib b _ _ _ _ _ _ _ _ _ ho hP (hIv.ok (Nat.le_trans (Nat.le_of_lt hi48) (by decide)) hnr)) hsO hoO hKS hKO ?B ?F ?X ?N ?T ?hk ?hd ?hu ?hn ?_
    (case B => k_asm)
    (case F => k_asm)
    (case X => k_asm)
    (case N => k_asm)
    (case T => k_asm)
    (case hk => exact rfl)
    (case hd => ktr_room)
    (case hu => ktr_units)
    (case hn => walk_at "sub")
    clear hH9
    rintro r9 S9 O9 P9 h9 tk9 vs9 n09 seed9 ts9 n19 k9 u1 u2 u3 u4 la9 lb9 fvs9 n29 ok9 oa9 oh9 tw9 F9 N9 hz3 hz4 hz5 hz6 hL9 hH9 ⟨rfl, hst9⟩
    clear hP hsO hoO hKS hKO
    have hP := hL9
    have hsO := hz3
    have hoO := hz4
    have hKS := hz5
    have hKO := hz6
    clear hL9 hz3 hz4 hz5 hz6
    have hIv9 := hIv.step hst9
    clear hIv hnr hst9
    have hIv := hIv9
    clear hIv9
    all_goals (try dsimp only)
    all_goals (try k_fold)))
  (k_with "my call" => (
    (try dsimp only [List.cons_append, List.nil_append])
    (with_reducible show wpAny _ _ (call (Value.ref 248) [Value.ref _, Value.bytes _ _]) _ _ _)
    skip
    refine' LSpec.useS (is_blocked_law w ib b _ _ _ _ _ _ _ _ _ _ ho hP hIv.hw (hIv.b (Nat.succ_lt_succ hi48)).1 hIv.core.closed) hsO hoO hKS hKO ?B ?F ?X ?N ?T ?hk ?hd ?hu ?hn ?_
    (case B => k_asm)
    (case F => k_asm)
    (case X => k_asm)
    (case N => k_asm)
    (case T => k_asm)
    (case hk => exact rfl)
    (case hd => ktr_room)
    (case hu => ktr_units)
    (case hn => walk_at "sub")
    clear hH9
    intro O9 P9 h9 tk9 vs9 n09 seed9 ts9 n19 k9 u1 u2 u3 u4 la9 lb9 fvs9 n29 ok9 oa9 oh9 tw9 F9 N9 hz3 hz4 hz5 hz6 hL9 hH9
    clear hP hsO hoO hKS hKO
    have hP := hL9
    have hsO := hz3
    have hoO := hz4
    have hKS := hz5
    have hKO := hz6
    clear hL9 hz3 hz4 hz5 hz6
    all_goals (try dsimp only)
    all_goals (try k_fold)))
  (k_with "my call" => (
    (try dsimp only [List.cons_append, List.nil_append])
    (with_reducible show wpAny _ _ (call (Value.ref 196) [Value.ref _]) _ _ _)
    skip
    refine' RSpec.useH hP (fun M2 hp => over_spec w _ _ _ M2 _ hp) hsO hoO hKS hKO ?B ?F ?X ?N ?T ?hk ?hd ?hu ?hn ?_
    (case B => k_asm)
    (case F => k_asm)
    (case X => k_asm)
    (case N => k_asm)
    (case T => k_asm)
    (case hk => exact rfl)
    (case hd => ktr_room)
    (case hu => ktr_units)
    (case hn => walk_at "sub")
    rintro r9 O9 P9 h9 tk9 F9 N9 hz3 hz4 hz5 hz6 hL9 rfl
    dsimp only [List.cons_append, List.nil_append] at N9
    clear hP hsO hoO hKS hKO
    have hP := hL9
    have hsO := hz3
    have hoO := hz4
    have hKS := hz5
    have hKO := hz6
    clear hL9 hz3 hz4 hz5 hz6
    all_goals (try dsimp only)
    all_goals (try k_fold)))
  (k_with "my call" => (
    (try dsimp only [List.cons_append, List.nil_append])
    (with_reducible show wpAny _ _ (call (Value.ref 255) [Value.ref _]) _ _ _)
    skip
    refine' LSpec.useS (is_all_law w ib b _ _ _ _ _ _ _ _ _ ho hP (hIv.b (Nat.succ_lt_succ hi48)).2.1 (hIv.b (Nat.succ_lt_succ hi48)).2.2.1) hsO hoO hKS hKO ?B ?F ?X ?N ?T ?hk ?hd ?hu ?hn ?_
    (case B => k_asm)
    (case F => k_asm)
    (case X => k_asm)
    (case N => k_asm)
    (case T => k_asm)
    (case hk => exact rfl)
    (case hd => ktr_room)
    (case hu => ktr_units)
    (case hn => walk_at "sub")
    clear hH9
    intro O9 P9 h9 tk9 vs9 n09 seed9 ts9 n19 k9 u1 u2 u3 u4 la9 lb9 fvs9 n29 ok9 oa9 oh9 tw9 F9 N9 hz3 hz4 hz5 hz6 hL9 hH9
    clear hP hsO hoO hKS hKO
    have hP := hL9
    have hsO := hz3
    have hoO := hz4
    have hKS := hz5
    have hKO := hz6
    clear hL9 hz3 hz4 hz5 hz6
    rw [hIv.allEq]
    all_goals (try dsimp only)
    all_goals (try k_fold)))
  (k_with "my call" => (
    (try dsimp only [List.cons_append, List.nil_append])
    (with_reducible show wpAny _ _ (call (Value.ref 147) [Value.ref _, Value.none]) _ _ _)
    have hIv8 := hIv
    clear hIv8
    have hrec : S9.p.st = St.recvd := by first | assumption | exact of_decide_eq_true (by assumption)
    refine' RSpec.useH hP (fun M2 hp => has_to_spec w _ _ _ M2 _ _ none hp .none (hIv.b (Nat.succ_lt_succ hi48)).1 (hIv.b (Nat.succ_lt_succ hi48)).2.2.2) hsO hoO hKS hKO ?B ?F ?X ?N ?T ?hk ?hd ?hu ?hn ?_
    (case B => k_asm)
    (case F => k_asm)
    (case X => k_asm)
    (case N => k_asm)
    (case T => k_asm)
    (case hk => exact rfl)
    (case hd => ktr_room)
    (case hu => ktr_units)
    (case hn => walk_at "sub")
    rintro r9 O9 P9 h9 tk9 F9 N9 hz3 hz4 hz5 hz6 hL9 rfl
    dsimp only [List.cons_append, List.nil_append] at N9
    clear hP hsO hoO hKS hKO
    have hP := hL9
    have hsO := hz3
    have hoO := hz4
    have hKS := hz5
    have hKO := hz6
    clear hL9 hz3 hz4 hz5 hz6
    rw [hIv.core.recvd_none hrec]
    all_goals (try dsimp only)
    all_goals (try k_fold)))
  (k_with "my call" => (
    (try dsimp only [List.cons_append, List.nil_append])
    (with_reducible show wpAny _ _ (call (Value.ref 154) [Value.ref _, Value.int _ _, Value.none]) _ _ _)
    have ok8 := chunk_ok (mn := none) hIv.core (show (0 : Int) ≤ 9 by decide) (fun k e => nomatch e)
    have hrec : S9.p.st = St.recvd := by first | assumption | exact of_decide_eq_true (by assumption)
    refine' LSpec.useH (MSpec.toL ho hP fun M2 hp => next_spec w _ _ _ M2 _ 9 _ _ none ho.o.2.2.1 hp .none (hIv.b (Nat.succ_lt_succ hi48)).1 (hIv.b (Nat.succ_lt_succ hi48)).2.2.2 ok8.lo0 ok8.le ok8.hi) hsO hoO hKS hKO ?B ?F ?X ?N ?T ?hk ?hd ?hu ?hn ?_
    (case B => k_asm)
    (case F => k_asm)
    (case X => k_asm)
    (case N => k_asm)
    (case T => k_asm)
    (case hk => exact rfl)
    (case hd => ktr_room)
    (case hu => ktr_units)
    (case hn => walk_at "sub")
    clear hH9
    rintro r9 S9 O9 P9 h9 tk9 vs9 n09 seed9 ts9 n19 k9 u1 u2 u3 u4 la9 lb9 fvs9 n29 ok9 oa9 oh9 tw9 F9 N9 hz3 hz4 hz5 hz6 hL9 hH9 ⟨p9, hp9, hS9⟩
    clear hP hsO hoO hKS hKO
    have hP := hL9
    have hsO := hz3
    have hoO := hz4
    have hKS := hz5
    have hKO := hz6
    clear hL9 hz3 hz4 hz5 hz6
    (dsimp only at hp9)
    rw [if_pos (Or.inl hrec)] at hp9
    obtain ⟨rfl, rfl⟩ := hp9
    subst hS9
    all_goals (try dsimp only)
    all_goals (try k_fold)))
  k_steps
  rename News _ _ _ ((_, _) :: _) => N₁
  rename Fr _ _ _ _ => F₁
  rename IsRange _ _ _ _ _ _ _ _ => hR₁
  rename Obj.IsDictOf (PySem.strKind _ _) _ (strPairs _) => hd1
  rename IntsAre _ (List.take _ _) => hI7
  have h40 := take40 hI7
  have st := start_J N₁ hd1 (by assumption) (by assumption) hlt9 (by omega) (by omega) (by omega) (by omega) (by omega) (by omega) (by omega) (by omega) (by assumption) (by assumption) (by assumption) hi9 hl9 hs09 hs19
  obtain ⟨N₂, ho, hoO, hL0⟩ := st
  refine loopR (TurnJ w b ib) rfl hR₁ (by omega) (by omega) rfl F₁ N₂ ?_ ?_ ?_
  · exact TurnJ.of ho hoO hL0 (Inv.init _) (fun k => nomatch k) ⟨rfl, rfl, rfl⟩
  · clear ho hoO hL0 N₁ F₁ N₂ hR₁ hd1
    intro i t m₁ nx h tk own₁ hin off₁ hJ F₂ N₃
    have hi48 : i < 49 := by omega
    clear h40 hlen hl63 hlt9
    refine TurnJ.turn hJ F₂ N₃ off₁ ?_
    clear hJ F₂ N₃ off₁
    intro dx x fl kn ag hr S O vs9 n09 seed9 ts9 n19 k9 u1 u2 u3 u4 la9 lb9 fvs9 n29 ok9 oa9 oh9 tw9 ho F₃ N₃ hP hH9 hsO hoO hKS hKO hIv hnr
    obtain ⟨o1, o2, o3, o4, o5, o6, o7⟩ := ho.o
    have loh := ho.h
    k_steps
    · unfold TEnd
      dsimp only
      k_steps
    · exact turn_end (by assumption) (by assumption) (by walk_at "sub") ho hP hsO hoO hKS hKO hIv (by first | assumption | exact of_decide_eq_false (by assumption)) ⟨rfl, rfl, rfl⟩
  · (k_with "my call" => (
      (try dsimp only [List.cons_append, List.nil_append])
      (with_reducible show wpAny _ _ (call (Value.ref 126) [Value.ref _, Value.int _ _]) _ _ _)
      have hIvG := hIv
      clear hIvG
      refine' LSpec.useH (MSpec.toL ho hP fun M2 hp => raise_spec w _ _ _ M2 _ 500 _ ho.o.2.2.1 hp) hsO hoO hKS hKO ?B ?F ?X ?N ?T ?hk ?hd ?hu ?hn ?_
      (case B => k_asm)
      (case F => k_asm)
      (case X => k_asm)
      (case N => k_asm)
      (case T => k_asm)
      (case hk => exact rfl)
      (case hd => ktr_room)
      (case hu => ktr_units)
      (case hn => walk_at "sub")
      clear hH9
      rintro r9 S9 O9 P9 h9 tk9 vs9 n09 seed9 ts9 n19 k9 u1 u2 u3 u4 la9 lb9 fvs9 n29 ok9 oa9 oh9 tw9 F9 N9 hz3 hz4 hz5 hz6 hL9 hH9 ⟨p9, ⟨rfl, hp9⟩, hS9⟩
      clear hP hsO hoO hKS hKO
      have hP := hL9
      have hsO := hz3
      have hoO := hz4
      have hKS := hz5
      have hKO := hz6
      clear hL9 hz3 hz4 hz5 hz6
      subst hp9
      obtain ⟨hIv9, hlim, hst9⟩ := hIv.raise hS9
      have hnr9 : S9.p.st ≠ .recvd := by rw [hst9]; exact hnr
      clear hIv hnr hS9 hst9
      have hIv := hIv9
      have hnr := hnr9
      clear hIv9 hnr9
      all_goals (try dsimp only)
      all_goals (try k_fold)))
    (k_with "my call" => (
      (try dsimp only [List.cons_append, List.nil_append])
      (with_reducible show wpAny _ _ (call (Value.ref 105) [Value.ref _]) _ _ _)
      have hlimG := hlim
      clear hlimG
      refine' LSpec.useH (MSpec.toL ho hP fun M2 hp => finish_spec w _ _ _ M2 _ ho.o.2.2.1 hp (hIv.core.open_of (by assumption)) (by assumption)) hsO hoO hKS hKO ?B ?F ?X ?N ?T ?hk ?hd ?hu ?hn ?_
      (case B => k_asm)
      (case F => k_asm)
      (case X => k_asm)
      (case N => k_asm)
      (case T => k_asm)
      (case hk => exact rfl)
      (case hd => ktr_room)
      (case hu => ktr_units)
      (case hn => walk_at "sub")
      clear hH9
      rintro r9 S9 O9 P9 h9 tk9 vs9 n09 seed9 ts9 n19 k9 u1 u2 u3 u4 la9 lb9 fvs9 n29 ok9 oa9 oh9 tw9 F9 N9 hz3 hz4 hz5 hz6 hL9 hH9 ⟨p9, ⟨rfl, hp9⟩, hS9⟩
      clear hP hsO hoO hKS hKO
      have hP := hL9
      have hsO := hz3
      have hoO := hz4
      have hKS := hz5
      have hKO := hz6
      clear hL9 hz3 hz4 hz5 hz6
      subst hp9
      obtain ⟨hIv9, hl9', hfin, hst9⟩ := hIv.finish (by assumption) hS9
      have hlim9 : 500 ≤ S9.p.lim := by rw [hl9']; exact hlim
      have hnr9 : S9.p.st ≠ .recvd := by rw [hst9]; exact hnr
      clear hIv hnr hlim hS9 hst9 hl9'
      have hIv := hIv9
      have hnr := hnr9
      have hlim := hlim9
      clear hIv9 hnr9 hlim9
      all_goals (try dsimp only)
      all_goals (try k_fold)))
    (k_with "my if" => (
      (with_reducible show wpAny _ _ (exec (Stmt.If (Expr.UnaryOp _ _ _) _ _ _) _) _ _ _)
      (fail_if_success (with_reducible show wpAny _ _ _ (JoinQ _ _ _ _) _ _))
      have hlimG := hlim
      clear hlimG
      refine cutH (by k_asm) (fun (f : Flow) (m' : Str → Option Value) (nx : Led) => f = Flow.next ∧ LawJ w ib b dx x fl kn ag hr Last m' nx) ?cutA ?_
      (case cutA =>
        k_steps
        all_goals exact law_join (by assumption) (by assumption) (by walk_at "sub") hP hsO hoO (hIv.last hnr (by assumption) hlim) ⟨rfl, rfl, rfl⟩)
      clear hP hsO hoO hKS hKO hIv hnr hlim
      rintro _ h8 tk8 m8 nx8 F8 N8 ⟨rfl, hJ⟩
      clear hH9
      refine LawJ.done hJ F8 N8 ?_
      clear hJ F8 N8
      intro S O vs9 n09 seed9 ts9 n19 k9 u1 u2 u3 u4 la9 lb9 fvs9 n29 ok9 oa9 oh9 tw9 F8 N8 hP hH9 hoO hLa
      have hsO : Sub O O := Sub.refl _
      have hKS : Sub ([] : Led) O := Sub.nil
      have hKO : OwnOff ([] : Led) (O.map (·.1)) := offNil
      all_goals (try dsimp only)
      all_goals (try k_fold)))
    (k_with "my while" => (
      (with_reducible show wpAny _ _ (exec (Stmt.While _ _ _ _) _) _ _ _)
      have hLaG := hLa
      clear hLaG
      refine While_inv2 (fun n m nx => LawJ w ib b dx x fl kn ag hr (fun S => Last S ∧ mu S = n) m nx) (by k_asm) (News.sub (a := [(ib, _), (b, _), (dx, _), (x, _), (fl, _), (kn, _), (ag, _), (hr, _)] ++ O) (by assumption) (by walk_at "sub")) (LawJ.of (P := fun S => Last S ∧ mu S = _) hoO hP ⟨hLa, rfl⟩ ⟨rfl, rfl, rfl⟩) ?_
      clear hP hsO hoO hKS hKO hLa
      clear hH9
      intro nmu m8 nx8 h8 tk8 F8 N8 hJ
      refine LawJ.done hJ F8 N8 ?_
      clear hJ F8 N8
      intro S O vs9 n09 seed9 ts9 n19 k9 u1 u2 u3 u4 la9 lb9 fvs9 n29 ok9 oa9 oh9 tw9 F8 N8 hP hH9 hoO hLm
      obtain ⟨hLa, hmu⟩ := hLm
      have hsO : Sub O O := Sub.refl _
      have hKS : Sub ([] : Led) O := Sub.nil
      have hKO : OwnOff ([] : Led) (O.map (·.1)) := offNil
      all_goals (try dsimp only)
      all_goals (try k_fold)))
    (k_with "my call" => (
      (try dsimp only [List.cons_append, List.nil_append])
      (with_reducible show wpAny _ _ (call (Value.ref 147) [Value.ref _, Value.none]) _ _ _)
      have hLaG := hLa
      clear hLaG
      refine' RSpec.useH hP (fun M2 hp => has_to_spec w _ _ _ M2 _ _ none hp .none (Nat.le_trans hLa.sizes.W (by decide)) hLa.sizes.B) hsO hoO hKS hKO ?B ?F ?X ?N ?T ?hk ?hd ?hu ?hn ?_
      (case B => k_asm)
      (case F => k_asm)
      (case X => k_asm)
      (case N => k_asm)
      (case T => k_asm)
      (case hk => exact rfl)
      (case hd => ktr_room)
      (case hu => ktr_units)
      (case hn => walk_at "sub")
      rintro r9 O9 P9 h9 tk9 F9 N9 hz3 hz4 hz5 hz6 hL9 rfl
      dsimp only [List.cons_append, List.nil_append] at N9
      clear hP hsO hoO hKS hKO
      have hP := hL9
      have hsO := hz3
      have hoO := hz4
      have hKS := hz5
      have hKO := hz6
      clear hL9 hz3 hz4 hz5 hz6
      all_goals (try dsimp only)
      all_goals (try k_fold)))
    (k_with "my call" => (
      (try dsimp only [List.cons_append, List.nil_append])
      (with_reducible show wpAny _ _ (call (Value.ref 222) [Value.ref _, Value.ref _, Value.ref _, Value.bool _]) _ _ _)
      have hLaG := hLa
      clear hLaG
      refine' LSpec.useH (chunk_law w ib b _ _ _ _ _ _ _ _ _ true ho hP hLa.ok hLa.hw (Nat.le_trans hLa.sizes.W (by decide)) hLa.sizes.B hLa.sizes.kn hLa.sizes.ag (Nat.le_trans hLa.sizes.fl (by decide))) hsO hoO hKS hKO ?B ?F ?X ?N ?T ?hk ?hd ?hu ?hn ?_
      (case B => k_asm)
      (case F => k_asm)
      (case X => k_asm)
      (case N => k_asm)
      (case T => k_asm)
      (case hk => exact rfl)
      (case hd => ktr_room)
      (case hu => ktr_units)
      (case hn => walk_at "sub")
      clear hH9
      rintro r9 S9 O9 P9 h9 tk9 vs9 n09 seed9 ts9 n19 k9 u1 u2 u3 u4 la9 lb9 fvs9 n29 ok9 oa9 oh9 tw9 F9 N9 hz3 hz4 hz5 hz6 hL9 hH9 ⟨rfl, hst9⟩
      clear hP hsO hoO hKS hKO
      have hP := hL9
      have hsO := hz3
      have hoO := hz4
      have hKS := hz5
      have hKO := hz6
      clear hL9 hz3 hz4 hz5 hz6
      obtain ⟨hLa9, hmu9⟩ := hLa.step (by assumption) hst9
      have hmu8 : mu S9 < nmu := Nat.lt_of_lt_of_eq hmu9 hmu
      clear hLa hst9 hmu9
      have hLa := hLa9
      clear hLa9
      all_goals (try dsimp only)
      all_goals (try k_fold)))
    (k_with "my call" => (
      (try dsimp only [List.cons_append, List.nil_append])
      (with_reducible show wpAny _ _ (call (Value.ref 255) [Value.ref _]) _ _ _)
      have hDnG := hDn
      clear hDnG
      refine' LSpec.useS (is_all_law w ib b _ _ _ _ _ _ _ _ _ ho hP hhz hsz.kn) hsO hoO hKS hKO ?B ?F ?X ?N ?T ?hk ?hd ?hu ?hn ?_
      (case B => k_asm)
      (case F => k_asm)
      (case X => k_asm)
      (case N => k_asm)
      (case T => k_asm)
      (case hk => exact rfl)
      (case hd => ktr_room)
      (case hu => ktr_units)
      (case hn => walk_at "sub")
      clear hH9
      intro O9 P9 h9 tk9 vs9 n09 seed9 ts9 n19 k9 u1 u2 u3 u4 la9 lb9 fvs9 n29 ok9 oa9 oh9 tw9 F9 N9 hz3 hz4 hz5 hz6 hL9 hH9
      clear hP hsO hoO hKS hKO
      have hP := hL9
      have hsO := hz3
      have hoO := hz4
      have hKS := hz5
      have hKO := hz6
      clear hL9 hz3 hz4 hz5 hz6
      rw [decide_eq_true hDn.allEq]
      all_goals (try dsimp only)
      all_goals (try k_fold)))
    (k_with "my call" => (
      (try dsimp only [List.cons_append, List.nil_append])
      (with_reducible show wpAny _ _ (call (Value.ref 196) [Value.ref _]) _ _ _)
      have hDnG := hDn
      clear hDnG
      refine' RSpec.useH hP (fun M2 hp => over_spec w _ _ _ M2 _ hp) hsO hoO hKS hKO ?B ?F ?X ?N ?T ?hk ?hd ?hu ?hn ?_
      (case B => k_asm)
      (case F => k_asm)
      (case X => k_asm)
      (case N => k_asm)
      (case T => k_asm)
      (case hk => exact rfl)
      (case hd => ktr_room)
      (case hu => ktr_units)
      (case hn => walk_at "sub")
      rintro r9 O9 P9 h9 tk9 F9 N9 hz3 hz4 hz5 hz6 hL9 rfl
      dsimp only [List.cons_append, List.nil_append] at N9
      clear hP hsO hoO hKS hKO
      have hP := hL9
      have hsO := hz3
      have hoO := hz4
      have hKS := hz5
      have hKO := hz6
      clear hL9 hz3 hz4 hz5 hz6
      rw [decide_eq_true hDn.all]
      rw [hDn.all] at N9
      all_goals (try dsimp only)
      all_goals (try k_fold)))
    (k_with "my call" => (
      (with_reducible show wpAny _ _ (call (Value.ref 229) [Value.ref _, Value.ref _, Value.ref _]) _ _ _)
      refine' LSpecM.useG (acked_lawM w ib b _ _ _ _ _ _ _ _ _ _ _ ho hP hc (Nat.le_trans hsz.W (by decide)) hsz.A hsz.B hak.A' hsz.kn hsz.ag hak.of hak.cs) hsO hoO hKS hKO ?B ?F ?X ?N ?T ?hk ?hd ?hu ?hn ?_
      (case B => k_asm)
      (case F => k_asm)
      (case X => k_asm)
      (case N => k_asm)
      (case T => k_asm)
      (case hk => exact rfl)
      (case hd => ktr_room)
      (case hu => ktr_units)
      (case hn => walk_at "sub")
      rintro r9 M9 S9 O9 P9 h9 tk9 F9 N9 hz1 hz2 hz3 hz4 hz5 hz6 hL9 ⟨⟨rfl, rfl⟩, hM9⟩
      clear hP hsO hoO hKS hKO
      have hP := hL9
      have hsO := hz3
      have hoO := hz4
      have hKS := hz5
      have hKO := hz6
      clear hL9 hz1 hz2 hz3 hz4 hz5 hz6
      all_goals (try dsimp only)
      all_goals (try k_fold)))
    clear ho hoO hL0 N₁ F₁ N₂ hR₁ hd1
    intro m₁ nx h tk hJ F₂ N₃
    refine TurnJ.done hJ F₂ N₃ ?_
    clear hJ F₂ N₃
    intro dx x fl kn ag hr S O vs9 n09 seed9 ts9 n19 k9 u1 u2 u3 u4 la9 lb9 fvs9 n29 ok9 oa9 oh9 tw9 ho F₃ N₃ hP hH9 hoO hIv0 hnr
    have hIv := hIv0.mono (t' := 60) (by omega)
    clear hIv0 h40 hlen hl63 hlt9
    obtain ⟨o1, o2, o3, o4, o5, o6, o7⟩ := ho.o
    have loh := ho.h
    have hsO : Sub O O := Sub.refl _
    have hKS : Sub ([] : Led) O := Sub.nil
    have hKO : OwnOff ([] : Led) (O.map (·.1)) := offNil
    k_steps
    · exact while_end (by assumption) (by assumption) (by walk_at "sub") hP hsO hoO hLa hmu8 ⟨rfl, rfl, rfl⟩
    · have hDn := hLa.done (by assumption)
      refine loopL (l := fl) (vs := fvs9) (nn := n29) (news := [(ib, _), (b, _), (dx, _), (x, _), (fl, _), (kn, _), (ag, _), (hr, _)] ++ O9) (fun i m nx => LawJ w ib b dx x fl kn ag hr (fun S => Done S (S.fl.drop i)) m nx) rfl (List.mem_append_left _ (.tail _ (.tail _ (.tail _ (.tail _ (.head _)))))) (by k_asm) (News.sub (by assumption) (by walk_at "sub")) (LawJ.of (P := fun S => Done S (S.fl.drop 0)) (offSub hsO hoO) hP hDn ⟨rfl, rfl, rfl⟩) ?_ ?_
      · clear hP hsO hoO hKS hKO hLa hDn hmu
        clear hH9
        intro i v m₁ nx h tk own₁ hv off₁ hl₁ hJ F₂ N₃
        refine LawJ.turn hJ F₂ N₃ hl₁ hv off₁ ?_
        clear hJ F₂ N₃ hl₁ hv off₁
        intro S M O c cv hc hM4 F₃ N₃ hP hsO hoO hKS hKO hak hsz hnx
        k_steps
        exact ack_end (by assumption) (by assumption) (by walk_at "sub") hP (hM9.trans hM4) hsO hoO hKS hKO hnx ⟨rfl, rfl, rfl⟩
      · clear hP hsO hoO hKS hKO hLa hDn hmu
        clear hH9
        intro m₁ nx h tk hl₁ hJ F₂ N₃
        have hJ' := LawJ.fly hJ N₃ hl₁
        clear hJ hl₁
        refine LawJ.done hJ' F₂ N₃ ?_
        clear hJ' F₂ N₃
        intro S O vs9 n09 seed9 ts9 n19 k9 u1 u2 u3 u4 la9 lb9 fvs9 n29 ok9 oa9 oh9 tw9 F₃ N₃ hP hH9 hoO hDn
        have hsO : Sub O O := Sub.refl _
        have hKS : Sub ([] : Led) O := Sub.nil
        have hKO : OwnOff ([] : Led) (O.map (·.1)) := offNil
        have hsz := hDn.sizes
        have hhz : S.hw.size ≤ 1000 := by have := hsz.W; rw [hDn.hw]; omega
        k_steps
end main
end NS
open PySem PySem.W PyProof.Rows
theorem PySem.Challenge.cw_no0075_01_holds : PySem.Challenge.rw_no0075_01.Holds :=
  NS.top_law
