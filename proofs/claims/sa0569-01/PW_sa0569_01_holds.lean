import PyProof.Rows.All
import Wide.All
import OpenK.AllK
import Wide.FinOn
import Lean
import PySem.Challenge.RW_sa0569_01
open PySem PySem.W PySem.Calls PyProof.Rows PyProof.V PySem.Spec
set_option Elab.async false
set_option maxRecDepth 100000
set_option maxHeartbeats 8000000
set_option linter.all false
namespace Mine
noncomputable def top (i : Nat) : Stmt := (PySem.Challenge.pw_sa0569_01.main.body[i]?).getD (.Pass ⟨0, 0, 0, 0⟩)
noncomputable def meth (i j : Nat) : Stmt := match top i with | .ClassDef _ _ _ b _ _ _ _ _ _ _ => (b[j]?).getD (.Pass ⟨0, 0, 0, 0⟩) | _ => .Pass ⟨0, 0, 0, 0⟩
noncomputable def fnO (s : Stmt) (q m : Str) (mt : Nat) (cd : Addr) : Obj := match s with
  | .FunctionDef n a b _ _ _ sc _ _ _ => ⟨.type "function", none, .func (FuncData.mk n q a (.stmts b) sc 3 [] .none .none .none (.str m mt) none (.ref cd) .none 0), Array.mk []⟩
  | _ => ⟨.none, none, .plain, Array.mk []⟩
noncomputable def cdO (l : List Value) : Obj := ⟨.type "code", none, .fields l.toArray, Array.mk []⟩
noncomputable def en (P : Params) (x : Str) (t : Nat) (v : Value) : DictEntry := ⟨PyData.keyHash P x, .str x t, v⟩
noncomputable def K (P : Params) : Frag := (
(nat_lit 2, PySem.Obj.mk PySem.Value.none Option.none (PySem.Data.dict (List.cons (en P (PySem.Str.ofString "type.__subclasses__.Exception.0") 362 (PySem.Value.int 129 0)) (List.cons (en P (PySem.Str.ofString "type.__subclasses__.Exception.n") 363 (PySem.Value.int 1 0)) List.nil)).toArray 2) (Array.mk [])) ::
  (nat_lit 3, PySem.Obj.mk (PySem.Value.type "dict") Option.none (PySem.Data.dict (List.cons (en P (PySem.Str.ofString "__name__") 165 (PySem.Value.str (PySem.Str.ofString "law_sa0569_01") 543)) (List.cons (en P (PySem.Str.ofString "__doc__") 166 PySem.Value.none) (List.cons (en P (PySem.Str.ofString "__package__") 167 PySem.Value.none) (List.cons (en P (PySem.Str.ofString "__loader__") 168 (PySem.Value.builtin "__main__.__loader__#opaque")) (List.cons (en P (PySem.Str.ofString "__spec__") 169 PySem.Value.none) (List.cons (en P (PySem.Str.ofString "__annotations__") 170 (PySem.Value.ref 6)) (List.cons (en P (PySem.Str.ofString "__builtins__") 171 (PySem.Value.ref 4)) (List.cons (en P (PySem.Str.ofString "__file__") 173 (PySem.Value.str (PySem.Str.ofString "/claim/cut.py") 172)) (List.cons (en P (PySem.Str.ofString "__cached__") 174 PySem.Value.none) (List.cons (en P (PySem.Str.ofString "_wall") 193 (PySem.Value.ref 21)) (List.cons (en P (PySem.Str.ofString "add_span") 208 (PySem.Value.ref 28)) (List.cons (en P (PySem.Str.ofString "cut_span") 220 (PySem.Value.ref 35)) (List.cons (en P (PySem.Str.ofString "has_span") 231 (PySem.Value.ref 42)) (List.cons (en P (PySem.Str.ofString "first_span") 241 (PySem.Value.ref 49)) (List.cons (en P (PySem.Str.ofString "without_spans") 252 (PySem.Value.ref 56)) (List.cons (en P (PySem.Str.ofString "CryptoOut") 328 (PySem.Value.ref 108)) (List.cons (en P (PySem.Str.ofString "STREAM_STATE_ERROR") 332 (PySem.Value.int 5 331)) (List.cons (en P (PySem.Str.ofString "QuicError") 365 (PySem.Value.ref 129)) (List.cons (en P (PySem.Str.ofString "READY") 369 (PySem.Value.str (PySem.Str.ofString "ready") 368)) (List.cons (en P (PySem.Str.ofString "SENDING") 371 (PySem.Value.str (PySem.Str.ofString "send") 370)) (List.cons (en P (PySem.Str.ofString "DATA_SENT") 373 (PySem.Value.str (PySem.Str.ofString "data_sent") 372)) (List.cons (en P (PySem.Str.ofString "DATA_RECEIVED") 375 (PySem.Value.str (PySem.Str.ofString "data_recvd") 374)) (List.cons (en P (PySem.Str.ofString "OPEN_STATES") 376 (PySem.Value.ref 133)) (List.cons (en P (PySem.Str.ofString "SendPart") 542 (PySem.Value.ref 255)) (List.cons (en P (PySem.Str.ofString "_law_take") 552 (PySem.Value.ref 266)) (List.cons (en P (PySem.Str.ofString "_law_gone") 563 (PySem.Value.ref 273)) (List.cons (en P (PySem.Str.ofString "_law_alike") 572 (PySem.Value.ref 280)) (List.cons (en P (PySem.Str.ofString "_law_rest_right") 578 (PySem.Value.ref 285)) (List.cons (en P (PySem.Str.ofString "law") 595 (PySem.Value.ref 292)) List.nil))))))))))))))))))))))))))))).toArray 29) (Array.mk [])) ::
  (nat_lit 27, cdO (List.cons (PySem.Value.str (PySem.Str.ofString "add_span") 196) (List.cons (PySem.Value.str (PySem.Str.ofString "add_span") 197) (List.cons (PySem.Value.str (PySem.Str.ofString "/claim/cut.py") 198) (List.cons (PySem.Value.int 5 0) (List.cons (PySem.Value.int 3 0) (List.cons (PySem.Value.int 0 0) (List.cons (PySem.Value.int 0 0) (List.cons (PySem.Value.int 3 0) (List.cons (PySem.Value.ref 22) (List.cons (PySem.Value.bool Bool.true) (List.cons (PySem.Value.int 181 0) (List.cons (PySem.Value.ref 23) (List.cons PySem.Value.none (List.cons (PySem.Value.ref 24) (List.cons (PySem.Value.ref 25) (List.cons (PySem.Value.ref 26) (List.cons (PySem.Value.int 206 0) (List.cons (PySem.Value.int 5 0) (List.cons (PySem.Value.str (PySem.Str.ofString "/claim/cut.py") 207) List.nil)))))))))))))))))))) ::
  (nat_lit 28, fnO (top 2) (Str.ofString "add_span") (Str.ofString "quic.spans") 194 27) ::
  (nat_lit 34, cdO (List.cons (PySem.Value.str (PySem.Str.ofString "cut_span") 209) (List.cons (PySem.Value.str (PySem.Str.ofString "cut_span") 210) (List.cons (PySem.Value.str (PySem.Str.ofString "/claim/cut.py") 211) (List.cons (PySem.Value.int 20 0) (List.cons (PySem.Value.int 3 0) (List.cons (PySem.Value.int 0 0) (List.cons (PySem.Value.int 0 0) (List.cons (PySem.Value.int 3 0) (List.cons (PySem.Value.ref 29) (List.cons (PySem.Value.bool Bool.true) (List.cons (PySem.Value.int 181 0) (List.cons (PySem.Value.ref 30) (List.cons PySem.Value.none (List.cons (PySem.Value.ref 31) (List.cons (PySem.Value.ref 32) (List.cons (PySem.Value.ref 33) (List.cons (PySem.Value.int 218 0) (List.cons (PySem.Value.int 20 0) (List.cons (PySem.Value.str (PySem.Str.ofString "/claim/cut.py") 219) List.nil)))))))))))))))))))) ::
  (nat_lit 35, fnO (top 3) (Str.ofString "cut_span") (Str.ofString "quic.spans") 194 34) ::
  (nat_lit 41, cdO (List.cons (PySem.Value.str (PySem.Str.ofString "has_span") 221) (List.cons (PySem.Value.str (PySem.Str.ofString "has_span") 222) (List.cons (PySem.Value.str (PySem.Str.ofString "/claim/cut.py") 223) (List.cons (PySem.Value.int 28 0) (List.cons (PySem.Value.int 3 0) (List.cons (PySem.Value.int 0 0) (List.cons (PySem.Value.int 0 0) (List.cons (PySem.Value.int 3 0) (List.cons (PySem.Value.ref 36) (List.cons (PySem.Value.bool Bool.true) (List.cons (PySem.Value.int 181 0) (List.cons (PySem.Value.ref 37) (List.cons PySem.Value.none (List.cons (PySem.Value.ref 38) (List.cons (PySem.Value.ref 39) (List.cons (PySem.Value.ref 40) (List.cons (PySem.Value.int 229 0) (List.cons (PySem.Value.int 28 0) (List.cons (PySem.Value.str (PySem.Str.ofString "/claim/cut.py") 230) List.nil)))))))))))))))))))) ::
  (nat_lit 42, fnO (top 4) (Str.ofString "has_span") (Str.ofString "quic.spans") 194 41) ::
  (nat_lit 48, cdO (List.cons (PySem.Value.str (PySem.Str.ofString "first_span") 232) (List.cons (PySem.Value.str (PySem.Str.ofString "first_span") 233) (List.cons (PySem.Value.str (PySem.Str.ofString "/claim/cut.py") 234) (List.cons (PySem.Value.int 35 0) (List.cons (PySem.Value.int 2 0) (List.cons (PySem.Value.int 0 0) (List.cons (PySem.Value.int 0 0) (List.cons (PySem.Value.int 3 0) (List.cons (PySem.Value.ref 43) (List.cons (PySem.Value.bool Bool.true) (List.cons (PySem.Value.int 181 0) (List.cons (PySem.Value.ref 44) (List.cons PySem.Value.none (List.cons (PySem.Value.ref 45) (List.cons (PySem.Value.ref 46) (List.cons (PySem.Value.ref 47) (List.cons (PySem.Value.int 239 0) (List.cons (PySem.Value.int 35 0) (List.cons (PySem.Value.str (PySem.Str.ofString "/claim/cut.py") 240) List.nil)))))))))))))))))))) ::
  (nat_lit 49, fnO (top 5) (Str.ofString "first_span") (Str.ofString "quic.spans") 194 48) ::
  (nat_lit 55, cdO (List.cons (PySem.Value.str (PySem.Str.ofString "without_spans") 242) (List.cons (PySem.Value.str (PySem.Str.ofString "without_spans") 243) (List.cons (PySem.Value.str (PySem.Str.ofString "/claim/cut.py") 244) (List.cons (PySem.Value.int 40 0) (List.cons (PySem.Value.int 2 0) (List.cons (PySem.Value.int 0 0) (List.cons (PySem.Value.int 0 0) (List.cons (PySem.Value.int 3 0) (List.cons (PySem.Value.ref 50) (List.cons (PySem.Value.bool Bool.true) (List.cons (PySem.Value.int 181 0) (List.cons (PySem.Value.ref 51) (List.cons PySem.Value.none (List.cons (PySem.Value.ref 52) (List.cons (PySem.Value.ref 53) (List.cons (PySem.Value.ref 54) (List.cons (PySem.Value.int 250 0) (List.cons (PySem.Value.int 40 0) (List.cons (PySem.Value.str (PySem.Str.ofString "/claim/cut.py") 251) List.nil)))))))))))))))))))) ::
  (nat_lit 56, fnO (top 6) (Str.ofString "without_spans") (Str.ofString "quic.spans") 194 55) ::
  (nat_lit 69, cdO (List.cons (PySem.Value.str (PySem.Str.ofString "__init__") 267) (List.cons (PySem.Value.str (PySem.Str.ofString "CryptoOut.__init__") 268) (List.cons (PySem.Value.str (PySem.Str.ofString "/claim/cut.py") 269) (List.cons (PySem.Value.int 48 0) (List.cons (PySem.Value.int 1 0) (List.cons (PySem.Value.int 0 0) (List.cons (PySem.Value.int 0 0) (List.cons (PySem.Value.int 3 0) (List.cons (PySem.Value.ref 64) (List.cons (PySem.Value.bool Bool.true) (List.cons (PySem.Value.int 181 0) (List.cons (PySem.Value.ref 65) (List.cons PySem.Value.none (List.cons (PySem.Value.ref 66) (List.cons (PySem.Value.ref 67) (List.cons (PySem.Value.ref 68) (List.cons (PySem.Value.int 271 0) (List.cons (PySem.Value.int 48 0) (List.cons (PySem.Value.str (PySem.Str.ofString "/claim/cut.py") 272) List.nil)))))))))))))))))))) ::
  (nat_lit 70, fnO (meth 8 0) (Str.ofString "CryptoOut.__init__") (Str.ofString "quic.cryptostream") 253 69) ::
  (nat_lit 76, cdO (List.cons (PySem.Value.str (PySem.Str.ofString "put") 274) (List.cons (PySem.Value.str (PySem.Str.ofString "CryptoOut.put") 275) (List.cons (PySem.Value.str (PySem.Str.ofString "/claim/cut.py") 276) (List.cons (PySem.Value.int 53 0) (List.cons (PySem.Value.int 2 0) (List.cons (PySem.Value.int 0 0) (List.cons (PySem.Value.int 0 0) (List.cons (PySem.Value.int 3 0) (List.cons (PySem.Value.ref 71) (List.cons (PySem.Value.bool Bool.true) (List.cons (PySem.Value.int 181 0) (List.cons (PySem.Value.ref 72) (List.cons PySem.Value.none (List.cons (PySem.Value.ref 73) (List.cons (PySem.Value.ref 74) (List.cons (PySem.Value.ref 75) (List.cons (PySem.Value.int 279 0) (List.cons (PySem.Value.int 53 0) (List.cons (PySem.Value.str (PySem.Str.ofString "/claim/cut.py") 280) List.nil)))))))))))))))))))) ::
  (nat_lit 77, fnO (meth 8 1) (Str.ofString "CryptoOut.put") (Str.ofString "quic.cryptostream") 253 76) ::
  (nat_lit 83, cdO (List.cons (PySem.Value.str (PySem.Str.ofString "next_chunk") 282) (List.cons (PySem.Value.str (PySem.Str.ofString "CryptoOut.next_chunk") 283) (List.cons (PySem.Value.str (PySem.Str.ofString "/claim/cut.py") 284) (List.cons (PySem.Value.int 57 0) (List.cons (PySem.Value.int 2 0) (List.cons (PySem.Value.int 0 0) (List.cons (PySem.Value.int 0 0) (List.cons (PySem.Value.int 3 0) (List.cons (PySem.Value.ref 78) (List.cons (PySem.Value.bool Bool.true) (List.cons (PySem.Value.int 181 0) (List.cons (PySem.Value.ref 79) (List.cons PySem.Value.none (List.cons (PySem.Value.ref 80) (List.cons (PySem.Value.ref 81) (List.cons (PySem.Value.ref 82) (List.cons (PySem.Value.int 288 0) (List.cons (PySem.Value.int 57 0) (List.cons (PySem.Value.str (PySem.Str.ofString "/claim/cut.py") 289) List.nil)))))))))))))))))))) ::
  (nat_lit 84, fnO (meth 8 2) (Str.ofString "CryptoOut.next_chunk") (Str.ofString "quic.cryptostream") 253 83) ::
  (nat_lit 90, cdO (List.cons (PySem.Value.str (PySem.Str.ofString "on_lost") 291) (List.cons (PySem.Value.str (PySem.Str.ofString "CryptoOut.on_lost") 292) (List.cons (PySem.Value.str (PySem.Str.ofString "/claim/cut.py") 293) (List.cons (PySem.Value.int 64 0) (List.cons (PySem.Value.int 3 0) (List.cons (PySem.Value.int 0 0) (List.cons (PySem.Value.int 0 0) (List.cons (PySem.Value.int 3 0) (List.cons (PySem.Value.ref 85) (List.cons (PySem.Value.bool Bool.true) (List.cons (PySem.Value.int 181 0) (List.cons (PySem.Value.ref 86) (List.cons PySem.Value.none (List.cons (PySem.Value.ref 87) (List.cons (PySem.Value.ref 88) (List.cons (PySem.Value.ref 89) (List.cons (PySem.Value.int 299 0) (List.cons (PySem.Value.int 64 0) (List.cons (PySem.Value.str (PySem.Str.ofString "/claim/cut.py") 300) List.nil)))))))))))))))))))) ::
  (nat_lit 91, fnO (meth 8 3) (Str.ofString "CryptoOut.on_lost") (Str.ofString "quic.cryptostream") 253 90) ::
  (nat_lit 97, cdO (List.cons (PySem.Value.str (PySem.Str.ofString "on_acked") 302) (List.cons (PySem.Value.str (PySem.Str.ofString "CryptoOut.on_acked") 303) (List.cons (PySem.Value.str (PySem.Str.ofString "/claim/cut.py") 304) (List.cons (PySem.Value.int 68 0) (List.cons (PySem.Value.int 3 0) (List.cons (PySem.Value.int 0 0) (List.cons (PySem.Value.int 0 0) (List.cons (PySem.Value.int 3 0) (List.cons (PySem.Value.ref 92) (List.cons (PySem.Value.bool Bool.true) (List.cons (PySem.Value.int 181 0) (List.cons (PySem.Value.ref 93) (List.cons PySem.Value.none (List.cons (PySem.Value.ref 94) (List.cons (PySem.Value.ref 95) (List.cons (PySem.Value.ref 96) (List.cons (PySem.Value.int 308 0) (List.cons (PySem.Value.int 68 0) (List.cons (PySem.Value.str (PySem.Str.ofString "/claim/cut.py") 309) List.nil)))))))))))))))))))) ::
  (nat_lit 98, fnO (meth 8 4) (Str.ofString "CryptoOut.on_acked") (Str.ofString "quic.cryptostream") 253 97) ::
  (nat_lit 104, cdO (List.cons (PySem.Value.str (PySem.Str.ofString "is_done") 311) (List.cons (PySem.Value.str (PySem.Str.ofString "CryptoOut.is_done") 312) (List.cons (PySem.Value.str (PySem.Str.ofString "/claim/cut.py") 313) (List.cons (PySem.Value.int 72 0) (List.cons (PySem.Value.int 1 0) (List.cons (PySem.Value.int 0 0) (List.cons (PySem.Value.int 0 0) (List.cons (PySem.Value.int 3 0) (List.cons (PySem.Value.ref 99) (List.cons (PySem.Value.bool Bool.true) (List.cons (PySem.Value.int 181 0) (List.cons (PySem.Value.ref 100) (List.cons PySem.Value.none (List.cons (PySem.Value.ref 101) (List.cons (PySem.Value.ref 102) (List.cons (PySem.Value.ref 103) (List.cons (PySem.Value.int 315 0) (List.cons (PySem.Value.int 72 0) (List.cons (PySem.Value.str (PySem.Str.ofString "/claim/cut.py") 316) List.nil)))))))))))))))))))) ::
  (nat_lit 105, fnO (meth 8 5) (Str.ofString "CryptoOut.is_done") (Str.ofString "quic.cryptostream") 253 104) ::
  (nat_lit 107, PySem.Obj.mk (PySem.Value.type "dict") Option.none (PySem.Data.dict (List.cons (en P (PySem.Str.ofString "__module__") 262 (PySem.Value.str (PySem.Str.ofString "quic.cryptostream") 253)) (List.cons (en P (PySem.Str.ofString "__firstlineno__") 266 (PySem.Value.int 46 265)) (List.cons (en P (PySem.Str.ofString "__init__") 273 (PySem.Value.ref 70)) (List.cons (en P (PySem.Str.ofString "put") 281 (PySem.Value.ref 77)) (List.cons (en P (PySem.Str.ofString "next_chunk") 290 (PySem.Value.ref 84)) (List.cons (en P (PySem.Str.ofString "on_lost") 301 (PySem.Value.ref 91)) (List.cons (en P (PySem.Str.ofString "on_acked") 310 (PySem.Value.ref 98)) (List.cons (en P (PySem.Str.ofString "is_done") 317 (PySem.Value.ref 105)) (List.cons (en P (PySem.Str.ofString "__static_attributes__") 321 (PySem.Value.ref 106)) (List.cons (en P (PySem.Str.ofString "__dict__") 323 (PySem.Value.ref 109)) (List.cons (en P (PySem.Str.ofString "__weakref__") 325 (PySem.Value.ref 110)) (List.cons (en P (PySem.Str.ofString "__doc__") 326 PySem.Value.none) List.nil)))))))))))).toArray 4) (Array.mk [])) ::
  (nat_lit 108, PySem.Obj.mk (PySem.Value.type "type") Option.none (PySem.Data.cls (PySem.ClassData.mk (PySem.Str.ofString "CryptoOut") (List.cons (PySem.Value.type "object") List.nil) (List.cons (PySem.Value.ref 108) (List.cons (PySem.Value.type "object") List.nil)) 107 (PySem.Str.ofString "CryptoOut") Bool.true List.nil List.nil Bool.false Option.none Bool.false)) (List.cons Option.none (List.cons Option.none (List.cons (Option.some (PySem.Value.str (PySem.Str.ofString "CryptoOut") 255)) (List.cons (Option.some (PySem.Value.str (PySem.Str.ofString "CryptoOut") 263)) (List.cons (Option.some (PySem.Value.builtin "object.__new__")) (List.cons (Option.some (PySem.Value.bool Bool.true)) List.nil)))))).toArray) ::
  (nat_lit 133, PySem.Obj.mk (PySem.Value.type "tuple") Option.none (PySem.Data.seq (List.cons (PySem.Value.str (PySem.Str.ofString "ready") 368) (List.cons (PySem.Value.str (PySem.Str.ofString "send") 370) List.nil)).toArray) (Array.mk [])) ::
  (nat_lit 146, cdO (List.cons (PySem.Value.str (PySem.Str.ofString "__init__") 389) (List.cons (PySem.Value.str (PySem.Str.ofString "SendPart.__init__") 390) (List.cons (PySem.Value.str (PySem.Str.ofString "/claim/cut.py") 391) (List.cons (PySem.Value.int 91 0) (List.cons (PySem.Value.int 2 0) (List.cons (PySem.Value.int 0 0) (List.cons (PySem.Value.int 0 0) (List.cons (PySem.Value.int 3 0) (List.cons (PySem.Value.ref 141) (List.cons (PySem.Value.bool Bool.true) (List.cons (PySem.Value.int 181 0) (List.cons (PySem.Value.ref 142) (List.cons PySem.Value.none (List.cons (PySem.Value.ref 143) (List.cons (PySem.Value.ref 144) (List.cons (PySem.Value.ref 145) (List.cons (PySem.Value.int 394 0) (List.cons (PySem.Value.int 91 0) (List.cons (PySem.Value.str (PySem.Str.ofString "/claim/cut.py") 395) List.nil)))))))))))))))))))) ::
  (nat_lit 147, fnO (meth 18 0) (Str.ofString "SendPart.__init__") (Str.ofString "quic.sendpart") 366 146) ::
  (nat_lit 153, cdO (List.cons (PySem.Value.str (PySem.Str.ofString "write") 397) (List.cons (PySem.Value.str (PySem.Str.ofString "SendPart.write") 398) (List.cons (PySem.Value.str (PySem.Str.ofString "/claim/cut.py") 399) (List.cons (PySem.Value.int 104 0) (List.cons (PySem.Value.int 2 0) (List.cons (PySem.Value.int 0 0) (List.cons (PySem.Value.int 0 0) (List.cons (PySem.Value.int 3 0) (List.cons (PySem.Value.ref 148) (List.cons (PySem.Value.bool Bool.true) (List.cons (PySem.Value.int 181 0) (List.cons (PySem.Value.ref 149) (List.cons PySem.Value.none (List.cons (PySem.Value.ref 150) (List.cons (PySem.Value.ref 151) (List.cons (PySem.Value.ref 152) (List.cons (PySem.Value.int 402 0) (List.cons (PySem.Value.int 104 0) (List.cons (PySem.Value.str (PySem.Str.ofString "/claim/cut.py") 403) List.nil)))))))))))))))))))) ::
  (nat_lit 154, fnO (meth 18 1) (Str.ofString "SendPart.write") (Str.ofString "quic.sendpart") 366 153) ::
  (nat_lit 188, cdO (List.cons (PySem.Value.str (PySem.Str.ofString "new_room") 436) (List.cons (PySem.Value.str (PySem.Str.ofString "SendPart.new_room") 437) (List.cons (PySem.Value.str (PySem.Str.ofString "/claim/cut.py") 438) (List.cons (PySem.Value.int 121 0) (List.cons (PySem.Value.int 2 0) (List.cons (PySem.Value.int 0 0) (List.cons (PySem.Value.int 0 0) (List.cons (PySem.Value.int 3 0) (List.cons (PySem.Value.ref 183) (List.cons (PySem.Value.bool Bool.true) (List.cons (PySem.Value.int 181 0) (List.cons (PySem.Value.ref 184) (List.cons PySem.Value.none (List.cons (PySem.Value.ref 185) (List.cons (PySem.Value.ref 186) (List.cons (PySem.Value.ref 187) (List.cons (PySem.Value.int 442 0) (List.cons (PySem.Value.int 121 0) (List.cons (PySem.Value.str (PySem.Str.ofString "/claim/cut.py") 443) List.nil)))))))))))))))))))) ::
  (nat_lit 189, fnO (meth 18 6) (Str.ofString "SendPart.new_room") (Str.ofString "quic.sendpart") 366 188) ::
  (nat_lit 202, cdO (List.cons (PySem.Value.str (PySem.Str.ofString "has_to_send") 452) (List.cons (PySem.Value.str (PySem.Str.ofString "SendPart.has_to_send") 453) (List.cons (PySem.Value.str (PySem.Str.ofString "/claim/cut.py") 454) (List.cons (PySem.Value.int 130 0) (List.cons (PySem.Value.int 2 0) (List.cons (PySem.Value.int 0 0) (List.cons (PySem.Value.int 0 0) (List.cons (PySem.Value.int 3 0) (List.cons (PySem.Value.ref 197) (List.cons (PySem.Value.bool Bool.true) (List.cons (PySem.Value.int 181 0) (List.cons (PySem.Value.ref 198) (List.cons PySem.Value.none (List.cons (PySem.Value.ref 199) (List.cons (PySem.Value.ref 200) (List.cons (PySem.Value.ref 201) (List.cons (PySem.Value.int 457 0) (List.cons (PySem.Value.int 130 0) (List.cons (PySem.Value.str (PySem.Str.ofString "/claim/cut.py") 458) List.nil)))))))))))))))))))) ::
  (nat_lit 203, fnO (meth 18 8) (Str.ofString "SendPart.has_to_send") (Str.ofString "quic.sendpart") 366 202) ::
  (nat_lit 209, cdO (List.cons (PySem.Value.str (PySem.Str.ofString "next_chunk") 460) (List.cons (PySem.Value.str (PySem.Str.ofString "SendPart.next_chunk") 461) (List.cons (PySem.Value.str (PySem.Str.ofString "/claim/cut.py") 462) (List.cons (PySem.Value.int 135 0) (List.cons (PySem.Value.int 3 0) (List.cons (PySem.Value.int 0 0) (List.cons (PySem.Value.int 0 0) (List.cons (PySem.Value.int 3 0) (List.cons (PySem.Value.ref 204) (List.cons (PySem.Value.bool Bool.true) (List.cons (PySem.Value.int 181 0) (List.cons (PySem.Value.ref 205) (List.cons PySem.Value.none (List.cons (PySem.Value.ref 206) (List.cons (PySem.Value.ref 207) (List.cons (PySem.Value.ref 208) (List.cons (PySem.Value.int 471 0) (List.cons (PySem.Value.int 135 0) (List.cons (PySem.Value.str (PySem.Str.ofString "/claim/cut.py") 472) List.nil)))))))))))))))))))) ::
  (nat_lit 210, fnO (meth 18 9) (Str.ofString "SendPart.next_chunk") (Str.ofString "quic.sendpart") 366 209) ::
  (nat_lit 223, cdO (List.cons (PySem.Value.str (PySem.Str.ofString "on_acked") 481) (List.cons (PySem.Value.str (PySem.Str.ofString "SendPart.on_acked") 482) (List.cons (PySem.Value.str (PySem.Str.ofString "/claim/cut.py") 483) (List.cons (PySem.Value.int 156 0) (List.cons (PySem.Value.int 4 0) (List.cons (PySem.Value.int 0 0) (List.cons (PySem.Value.int 0 0) (List.cons (PySem.Value.int 3 0) (List.cons (PySem.Value.ref 218) (List.cons (PySem.Value.bool Bool.true) (List.cons (PySem.Value.int 181 0) (List.cons (PySem.Value.ref 219) (List.cons PySem.Value.none (List.cons (PySem.Value.ref 220) (List.cons (PySem.Value.ref 221) (List.cons (PySem.Value.ref 222) (List.cons (PySem.Value.int 488 0) (List.cons (PySem.Value.int 156 0) (List.cons (PySem.Value.str (PySem.Str.ofString "/claim/cut.py") 489) List.nil)))))))))))))))))))) ::
  (nat_lit 224, fnO (meth 18 11) (Str.ofString "SendPart.on_acked") (Str.ofString "quic.sendpart") 366 223) ::
  (nat_lit 230, cdO (List.cons (PySem.Value.str (PySem.Str.ofString "on_lost") 491) (List.cons (PySem.Value.str (PySem.Str.ofString "SendPart.on_lost") 492) (List.cons (PySem.Value.str (PySem.Str.ofString "/claim/cut.py") 493) (List.cons (PySem.Value.int 165 0) (List.cons (PySem.Value.int 4 0) (List.cons (PySem.Value.int 0 0) (List.cons (PySem.Value.int 0 0) (List.cons (PySem.Value.int 3 0) (List.cons (PySem.Value.ref 225) (List.cons (PySem.Value.bool Bool.true) (List.cons (PySem.Value.int 181 0) (List.cons (PySem.Value.ref 226) (List.cons PySem.Value.none (List.cons (PySem.Value.ref 227) (List.cons (PySem.Value.ref 228) (List.cons (PySem.Value.ref 229) (List.cons (PySem.Value.int 500 0) (List.cons (PySem.Value.int 165 0) (List.cons (PySem.Value.str (PySem.Str.ofString "/claim/cut.py") 501) List.nil)))))))))))))))))))) ::
  (nat_lit 231, fnO (meth 18 12) (Str.ofString "SendPart.on_lost") (Str.ofString "quic.sendpart") 366 230) ::
  (nat_lit 254, PySem.Obj.mk (PySem.Value.type "dict") Option.none (PySem.Data.dict (List.cons (en P (PySem.Str.ofString "__module__") 384 (PySem.Value.str (PySem.Str.ofString "quic.sendpart") 366)) (List.cons (en P (PySem.Str.ofString "__firstlineno__") 388 (PySem.Value.int 89 387)) (List.cons (en P (PySem.Str.ofString "__init__") 396 (PySem.Value.ref 147)) (List.cons (en P (PySem.Str.ofString "write") 404 (PySem.Value.ref 154)) (List.cons (en P (PySem.Str.ofString "finish") 411 (PySem.Value.ref 161)) (List.cons (en P (PySem.Str.ofString "reset") 419 (PySem.Value.ref 168)) (List.cons (en P (PySem.Str.ofString "on_stop") 427 (PySem.Value.ref 175)) (List.cons (en P (PySem.Str.ofString "raise_limit") 435 (PySem.Value.ref 182)) (List.cons (en P (PySem.Str.ofString "new_room") 444 (PySem.Value.ref 189)) (List.cons (en P (PySem.Str.ofString "blocked_at") 451 (PySem.Value.ref 196)) (List.cons (en P (PySem.Str.ofString "has_to_send") 459 (PySem.Value.ref 203)) (List.cons (en P (PySem.Str.ofString "next_chunk") 473 (PySem.Value.ref 210)) (List.cons (en P (PySem.Str.ofString "next_reset") 480 (PySem.Value.ref 217)) (List.cons (en P (PySem.Str.ofString "on_acked") 490 (PySem.Value.ref 224)) (List.cons (en P (PySem.Str.ofString "on_lost") 502 (PySem.Value.ref 231)) (List.cons (en P (PySem.Str.ofString "on_reset_acked") 509 (PySem.Value.ref 238)) (List.cons (en P (PySem.Str.ofString "on_reset_lost") 516 (PySem.Value.ref 245)) (List.cons (en P (PySem.Str.ofString "is_over") 523 (PySem.Value.ref 252)) (List.cons (en P (PySem.Str.ofString "__static_attributes__") 535 (PySem.Value.ref 253)) (List.cons (en P (PySem.Str.ofString "__dict__") 537 (PySem.Value.ref 256)) (List.cons (en P (PySem.Str.ofString "__weakref__") 539 (PySem.Value.ref 257)) (List.cons (en P (PySem.Str.ofString "__doc__") 540 PySem.Value.none) List.nil)))))))))))))))))))))).toArray 4) (Array.mk [])) ::
  (nat_lit 255, PySem.Obj.mk (PySem.Value.type "type") Option.none (PySem.Data.cls (PySem.ClassData.mk (PySem.Str.ofString "SendPart") (List.cons (PySem.Value.type "object") List.nil) (List.cons (PySem.Value.ref 255) (List.cons (PySem.Value.type "object") List.nil)) 254 (PySem.Str.ofString "SendPart") Bool.true List.nil List.nil Bool.false Option.none Bool.false)) (List.cons Option.none (List.cons Option.none (List.cons (Option.some (PySem.Value.str (PySem.Str.ofString "SendPart") 377)) (List.cons (Option.some (PySem.Value.str (PySem.Str.ofString "SendPart") 385)) (List.cons (Option.some (PySem.Value.builtin "object.__new__")) (List.cons (Option.some (PySem.Value.bool Bool.true)) List.nil)))))).toArray) ::
  (nat_lit 265, cdO (List.cons (PySem.Value.str (PySem.Str.ofString "_law_take") 545) (List.cons (PySem.Value.str (PySem.Str.ofString "_law_take") 546) (List.cons (PySem.Value.str (PySem.Str.ofString "/claim/cut.py") 547) (List.cons (PySem.Value.int 182 0) (List.cons (PySem.Value.int 2 0) (List.cons (PySem.Value.int 0 0) (List.cons (PySem.Value.int 0 0) (List.cons (PySem.Value.int 3 0) (List.cons (PySem.Value.ref 260) (List.cons (PySem.Value.bool Bool.true) (List.cons (PySem.Value.int 181 0) (List.cons (PySem.Value.ref 261) (List.cons PySem.Value.none (List.cons (PySem.Value.ref 262) (List.cons (PySem.Value.ref 263) (List.cons (PySem.Value.ref 264) (List.cons (PySem.Value.int 550 0) (List.cons (PySem.Value.int 182 0) (List.cons (PySem.Value.str (PySem.Str.ofString "/claim/cut.py") 551) List.nil)))))))))))))))))))) ::
  (nat_lit 266, fnO (top 20) (Str.ofString "_law_take") (Str.ofString "law_sa0569_01") 543 265) ::
  (nat_lit 272, cdO (List.cons (PySem.Value.str (PySem.Str.ofString "_law_gone") 553) (List.cons (PySem.Value.str (PySem.Str.ofString "_law_gone") 554) (List.cons (PySem.Value.str (PySem.Str.ofString "/claim/cut.py") 555) (List.cons (PySem.Value.int 187 0) (List.cons (PySem.Value.int 3 0) (List.cons (PySem.Value.int 0 0) (List.cons (PySem.Value.int 0 0) (List.cons (PySem.Value.int 3 0) (List.cons (PySem.Value.ref 267) (List.cons (PySem.Value.bool Bool.true) (List.cons (PySem.Value.int 181 0) (List.cons (PySem.Value.ref 268) (List.cons PySem.Value.none (List.cons (PySem.Value.ref 269) (List.cons (PySem.Value.ref 270) (List.cons (PySem.Value.ref 271) (List.cons (PySem.Value.int 561 0) (List.cons (PySem.Value.int 187 0) (List.cons (PySem.Value.str (PySem.Str.ofString "/claim/cut.py") 562) List.nil)))))))))))))))))))) ::
  (nat_lit 273, fnO (top 21) (Str.ofString "_law_gone") (Str.ofString "law_sa0569_01") 543 272) ::
  (nat_lit 279, cdO (List.cons (PySem.Value.str (PySem.Str.ofString "_law_alike") 564) (List.cons (PySem.Value.str (PySem.Str.ofString "_law_alike") 565) (List.cons (PySem.Value.str (PySem.Str.ofString "/claim/cut.py") 566) (List.cons (PySem.Value.int 193 0) (List.cons (PySem.Value.int 2 0) (List.cons (PySem.Value.int 0 0) (List.cons (PySem.Value.int 0 0) (List.cons (PySem.Value.int 3 0) (List.cons (PySem.Value.ref 274) (List.cons (PySem.Value.bool Bool.true) (List.cons (PySem.Value.int 181 0) (List.cons (PySem.Value.ref 275) (List.cons PySem.Value.none (List.cons (PySem.Value.ref 276) (List.cons (PySem.Value.ref 277) (List.cons (PySem.Value.ref 278) (List.cons (PySem.Value.int 570 0) (List.cons (PySem.Value.int 193 0) (List.cons (PySem.Value.str (PySem.Str.ofString "/claim/cut.py") 571) List.nil)))))))))))))))))))) ::
  (nat_lit 280, fnO (top 22) (Str.ofString "_law_alike") (Str.ofString "law_sa0569_01") 543 279) ::
  (nat_lit 284, cdO (List.cons (PySem.Value.str (PySem.Str.ofString "_law_rest_right") 573) (List.cons (PySem.Value.str (PySem.Str.ofString "_law_rest_right") 574) (List.cons (PySem.Value.str (PySem.Str.ofString "/claim/cut.py") 575) (List.cons (PySem.Value.int 198 0) (List.cons (PySem.Value.int 3 0) (List.cons (PySem.Value.int 0 0) (List.cons (PySem.Value.int 0 0) (List.cons (PySem.Value.int 3 0) (List.cons (PySem.Value.ref 281) (List.cons (PySem.Value.bool Bool.true) (List.cons (PySem.Value.int 181 0) (List.cons (PySem.Value.ref 282) (List.cons PySem.Value.none (List.cons PySem.Value.none (List.cons PySem.Value.none (List.cons (PySem.Value.ref 283) (List.cons (PySem.Value.int 576 0) (List.cons (PySem.Value.int 198 0) (List.cons (PySem.Value.str (PySem.Str.ofString "/claim/cut.py") 577) List.nil)))))))))))))))))))) ::
  (nat_lit 285, fnO (top 23) (Str.ofString "_law_rest_right") (Str.ofString "law_sa0569_01") 543 284) ::
  (nat_lit 291, cdO (List.cons (PySem.Value.str (PySem.Str.ofString "law") 579) (List.cons (PySem.Value.str (PySem.Str.ofString "law") 580) (List.cons (PySem.Value.str (PySem.Str.ofString "/claim/cut.py") 581) (List.cons (PySem.Value.int 212 0) (List.cons (PySem.Value.int 1 0) (List.cons (PySem.Value.int 0 0) (List.cons (PySem.Value.int 0 0) (List.cons (PySem.Value.int 3 0) (List.cons (PySem.Value.ref 286) (List.cons (PySem.Value.bool Bool.true) (List.cons (PySem.Value.int 181 0) (List.cons (PySem.Value.ref 287) (List.cons PySem.Value.none (List.cons (PySem.Value.ref 288) (List.cons (PySem.Value.ref 289) (List.cons (PySem.Value.ref 290) (List.cons (PySem.Value.int 593 0) (List.cons (PySem.Value.int 212 0) (List.cons (PySem.Value.str (PySem.Str.ofString "/claim/cut.py") 594) List.nil)))))))))))))))))))) ::
  (nat_lit 292, fnO (top 24) (Str.ofString "law") (Str.ofString "law_sa0569_01") 543 291) :: [])
example (w : World) : (PySem.Challenge.rw_sa0569_01.row.prog, Mine.K w.params) = (PySem.Challenge.rw_sa0569_01.row.prog, Mine.K w.params) := by k_fill; rfl
abbrev Led := List (Addr × Obj)
abbrev Spans := List (Int × Int)

set_option genInjectivity false in
set_option genSizeOf false in
/-- the frame of a body, and what stays while it runs -/
structure Cx where
  w : World
  p : Program
  loose : List Str
  mean : ExcName → Option Value
  mg : Str → Option Value
  mb : Str → Option Value
  dp : Nat
  un : Nat
  gd : Option (List Code)
  cn : Str
  cs : Scope
  L : Addr
  a : Addr
  ccd : Value
  cl : List (Str × Addr)
  outer : List Env
  A0 : Around
  base : Heap
  g : Heap
  E : Value → Shared → Prop
  gs : Array GenState
  dr : Drawn
  os : OsState
abbrev Cx.env (c : Cx) : Env := envX c.cn c.cs c.L c.a c.ccd c.cl
abbrev Cx.A (c : Cx) : Around := ktrTop c.dp c.un c.gd c.cn c.cs c.L c.a c.ccd c.cl c.outer
abbrev Cx.M (c : Cx) : Model := model PySem.Challenge.rw_sa0569_01.row.prog c.w
abbrev Cx.at (c : Cx) (h : Heap) (tk : Nat) : Shared := ⟨h, c.gs, c.dr, tk, c.os⟩
abbrev Cx.Fr (c : Cx) (h : Heap) (m : Str → Option Value) : Prop := PyProof.Rows.Fr c.g c.L h m
abbrev Cx.News (c : Cx) (h : Heap) (news : Led) : Prop := PyProof.Rows.News c.g c.L h news
/-- what a body stands on -/
def Bd (c : Cx) (dn un0 : Nat) : Prop := Below c.A0 c.base c.outer c.g ∧ (Mine.K c.w.params).In c.g ∧ Top c.p c.loose c.mean c.mg c.mb c.g ∧ PassesOwn c.M c.A c.env c.E ∧ c.cs.kind = .function ∧ c.dp + dn < recursionLimit + 1 ∧ c.un + un0 < cLine + 3
/-- a call of a def of the text, told by what it leaves -/
def Does (f : Addr) (vs : List Value) (news : Led) (dn un0 : Nat) (post : Value → Led → Prop) : Prop :=
  ∀ (c : Cx) (m : Str → Option Value) (h : Heap) (tk : Nat) (Q : Value → Shared → Prop), Bd c (dn + 1) (un0 + 3) → c.Fr h m → c.News h news →
    (∀ r news' h' tk', c.Fr h' m → c.News h' news' → post r news' → Q r (c.at h' tk')) → wpAny c.M c.A (call (.ref f) vs) Q c.E (c.at h tk)
def Run (c : Cx) (body : List Stmt) (Q : Flow → Shared → Prop) (h : Heap) (tk : Nat) : Prop := wpAny c.M c.A (execs body c.env) Q c.E (c.at h tk)
/-- the end of a body -/
def Ends (c : Cx) (post : Value → Led → Prop) (fl : Flow) (s' : Shared) : Prop :=
  ∃ h' tk' m' news', s' = c.at h' tk' ∧ c.Fr h' m' ∧ c.News h' news' ∧ post (match fl with | .ret v => v | _ => .none) news'
theorem Ends.intro {c : Cx} {post : Value → Led → Prop} {fl : Flow} {h' : Heap} {tk' : Nat} {m' : Str → Option Value} {news' : Led}
    (F : c.Fr h' m') (N : c.News h' news') (hp : post (match fl with | .ret v => v | _ => .none) news') : Ends c post fl (c.at h' tk') := ⟨h', tk', m', news', rfl, F, N, hp⟩
theorem does_of {f : Addr} {vs : List Value} {news : Led} {dn un0 : Nat} {post : Value → Led → Prop} {name qual : Str} {params : Arguments} {body : List Stmt} {scope : Scope} {dV kV doc pm cdv ct oc : Value} {an od : Option Addr} {osl : Array (Option Value)}
    (binds : List (Str × Value))
    (ho : ∀ w : World, (Mine.K w.params).lookup f = some ⟨oc, od, .func (fnOf name qual params body scope dV kV doc pm an cdv ct), osl⟩) (hcd : ∀ w : World, codeIn (Mine.K w.params) cdv qual = true)
    (hbind : ∀ s, BindsTo s (fnOf name qual params body scope dV kV doc pm an cdv ct) ⟨vs, []⟩ binds) (hloc : (binds.all fun y => scope.names.lookup y.1 == some .local) = true)
    (hcell : (scope.names.all fun x => x.2 != .cell) = true) (hco : scope.isCoroutine = false) (hgen : scope.isGenerator = false) (hk : scope.kind = .function)
    (hw : ∀ (w : World) (p : Program) (loose : List Str) (mean : ExcName → Option Value) (mg mb : Str → Option Value) (dp un : Nat) (gd : Option (List Code)) (L : Addr) (outer : List Env) (A0 : Around) (base g : Heap) (E : Value → Shared → Prop) (gs : Array GenState) (dr : Drawn) (os : OsState) (h : Heap) (tk : Nat),
      let c : Cx := ⟨w, p, loose, mean, mg, mb, dp, un, gd, qual, scope, L, f, cdv, [], outer, A0, base, g, E, gs, dr, os⟩
      Bd c dn un0 → c.Fr h (fun y => binds.reverse.lookup y) → c.News h news → (∀ p ∈ news, p.1 < L) → Run c body (Ends c post) h tk) : Does f vs news dn un0 post := by
  intro c m h tk Q B F N hret
  obtain ⟨B, X, T, hE, hks, hdp, hun⟩ := B
  refine wpAny_call ?_
  refine callX_plain (cl := []) (env := c.env) (outer := c.outer) (s := c.at h tk) B F N T.nolimit rfl rfl hks ((X.keeps F.keep) _ _ (ho c.w)) rfl (codeRec_of (X.keeps F.keep) (hcd c.w)) (by show c.dp < recursionLimit; omega) (hbind _) (fun y hy => eq_of_beq (List.all_eq_true.mp hloc y hy)) (fun g L' h₁ FG F' N' B' st hlt => ?_) (fun x hx => by simpa using List.all_eq_true.mp hcell x hx) hco hgen hk
  let A' := ktrTop (c.dp + 1) (c.un + 3) c.gd qual scope L' f cdv [] (c.env :: c.outer)
  have hb := hw c.w c.p c.loose c.mean c.mg c.mb (c.dp + 1) (c.un + 3) c.gd L' (c.env :: c.outer) _ c.base g
    (fun e s' => wpAny c.M A' (leaving (envOf qual scope L' f cdv) e) (fun _ s'' => c.E e s'') (fun e' s'' => c.E e' s'') s') c.gs c.dr c.os h₁ (tk + binds.length)
    ⟨B', X.keeps st, T.keeps st, (by show PassesOwn _ A' (envOf qual scope L' f cdv) _; passes_own), hk, by show c.dp + 1 + dn < _; omega, by show c.un + 3 + un0 < _; omega⟩ F' N' hlt
  refine wpAny_mono hb (fun fl s' he => ?_) (fun e s' he => he)
  obtain ⟨h', tk', m', news', rfl, Fh, Nh, hp⟩ := he
  exact ⟨L', m', news', Fh, Nh, fun F9 N9 => hret _ _ _ _ F9 N9 hp⟩


/-! spans in the ledger -/
def spd (p : Int × Int) : Dat := Dat.tuple [Dat.int p.1, Dat.int p.2]
def SpAll (G : Led) (vs : List Value) (S : Spans) : Prop := DatAll G vs (S.map spd)
abbrev tup2 (i j : Int) (t u : Tok) (n : Nat) : Obj := { cls := .type "tuple", data := .seq [Value.int i t, Value.int j u].toArray n }
theorem SpAll.length {G : Led} {vs : List Value} {S : Spans} (h : SpAll G vs S) : vs.length = S.length := (DatAll.length h).trans (List.length_map ..)
theorem SpAll.mono {G G' : Led} {vs : List Value} {S : Spans} (h : SpAll G vs S) (hs : ∀ p ∈ G, p ∈ G') : SpAll G' vs S := DatAll.mono hs h
theorem spd_in {G : Led} {v : Value} {p : Int × Int} (h : DatIn G v (spd p)) : ∃ a t u n, v = .ref a ∧ (a, tup2 p.1 p.2 t u n) ∈ G := by
  unfold spd at h
  cases h with
  | tuple hm r =>
    cases r with
    | cons h1 r =>
      cases r with
      | cons h2 r =>
        cases r
        cases h1; cases h2
        exact ⟨_, _, _, _, rfl, hm⟩
theorem spd_of {G : Led} {a : Addr} {t u : Tok} {n : Nat} {i j : Int} (h : (a, tup2 i j t u n) ∈ G) : DatIn G (.ref a) (spd (i, j)) :=
  .tuple h (.cons (.int _ _) (.cons (.int _ _) .nil))
theorem SpAll.append {G : Led} {vs ws : List Value} {S T : Spans} (h : SpAll G vs S) (k : SpAll G ws T) : SpAll G (vs ++ ws) (S ++ T) := by
  unfold SpAll; rw [List.map_append]; exact DatAll.append h k
theorem SpAll.one {G : Led} {a : Addr} {t u : Tok} {n : Nat} {i j : Int} (h : (a, tup2 i j t u n) ∈ G) : SpAll G [.ref a] [(i, j)] := DatAll.one (spd_of h)
theorem SpAll.get {G : Led} {vs : List Value} {S : Spans} (h : SpAll G vs S) {i : Nat} {v : Value} (hv : vs[i]? = some v) : ∃ x y a t u n, S[i]? = some (x, y) ∧ v = .ref a ∧ (a, tup2 x y t u n) ∈ G := by
  have hi : i < vs.length := (List.getElem?_eq_some_iff.mp hv).1
  have hi' : i < (S.map spd).length := by rw [← DatAll.length h]; exact hi
  obtain ⟨v', hv', hD⟩ := DatAll.get h hi'
  rw [hv] at hv'
  cases hv'
  rw [List.getElem_map] at hD
  obtain ⟨a, t, u, n, e, hm⟩ := spd_in hD
  have hi2 : i < S.length := by rw [List.length_map] at hi'; exact hi'
  exact ⟨_, _, a, t, u, n, List.getElem?_eq_getElem hi2, e, hm⟩
theorem take_snoc {α : Type} {S : List α} {i : Nat} {p : α} (h : S[i]? = some p) : S.take (i + 1) = S.take i ++ [p] := by
  rw [List.take_add_one, h]; rfl
/-- what was made lies above what stood -/
def Abv (news tl : Led) : Prop := ∀ q ∈ news, ∀ p ∈ tl, q.1 < p.1
theorem Abv.nil {news : Led} : Abv news [] := fun _ _ _ h => nomatch h
theorem Abv.cons {news tl : Led} {p : Addr × Obj} (h : ∀ q ∈ news, q.1 < p.1) (k : Abv news tl) : Abv news (p :: tl) := fun q hq p' hp => by
  rcases List.mem_cons.mp hp with rfl | hp
  · exact h q hq
  · exact k q hq p' hp
theorem Abv.append {news tl tl' : Led} (h : Abv news tl) (k : Abv news tl') : Abv news (tl ++ tl') := fun q hq p hp =>
  (List.mem_append.mp hp).elim (h q hq p) (k q hq p)
theorem Abv.sub {news news' tl : Led} (h : Abv news tl) (hs : ∀ p ∈ news', p ∈ news) : Abv news' tl := fun q hq => h q (hs q hq)
theorem news_sub {h₀ h : Heap} {L : Addr} {l l' : Led} (N : PyProof.Rows.News h₀ L h l) (hs : ∀ p ∈ l', p ∈ l) : PyProof.Rows.News h₀ L h l' := fun p hp => N p (hs p hp)
theorem sub_l {a b : Led} : ∀ p ∈ a, p ∈ a ++ b := fun _ h => List.mem_append.mpr (.inl h)
theorem sub_r {a b : Led} : ∀ p ∈ b, p ∈ a ++ b := fun _ h => List.mem_append.mpr (.inr h)

theorem sub_m {x : Addr × Obj} {a b : Led} : ∀ p ∈ a ++ (x :: b), p ∈ x :: (a ++ b) := fun p h => (List.mem_append.mp h).elim (fun h => .tail _ (sub_l p h)) fun h => (List.mem_cons.mp h).elim (fun e => e ▸ .head _) fun h => .tail _ (sub_r p h)
/-! loops -/
section
variable {c : Cx} {target : PySem.Expr} {body : List Stmt} {Q : Flow → Shared → Prop} {h : Heap} {tk : Nat}
def TurnEnd (c : Cx) (J : (Str → Option Value) → Led → Prop) (I : Addr × Obj) (s₂ : Shared) : Prop :=
  ∃ h' tk m' news' nx, s₂ = c.at h' tk ∧ c.Fr h' m' ∧ c.News h' news' ∧ (∀ p ∈ nx, p ∈ news') ∧ I ∈ news' ∧ (∀ p ∈ nx, p.1 ≠ I.1) ∧ J m' nx
def TurnPost (c : Cx) (J : (Str → Option Value) → Led → Prop) (I : Addr × Obj) (Q : Flow → Shared → Prop) (f : Flow) (s₂ : Shared) : Prop :=
  match f with
  | .ret v => Q (.ret v) s₂
  | .brk => Q .next s₂
  | _ => TurnEnd c J I s₂
theorem TurnEnd.intro {J : (Str → Option Value) → Led → Prop} {I : Addr × Obj} {m' : Str → Option Value} {news' : Led} (nx : Led)
    (F : c.Fr h m') (N : c.News h news') (hn : ∀ p ∈ nx, p ∈ news') (hi : I ∈ news') (ha : ∀ p ∈ nx, p.1 ≠ I.1) (hj : J m' nx) : TurnEnd c J I (c.at h tk) :=
  ⟨h, tk, m', news', nx, rfl, F, N, hn, hi, ha, hj⟩
theorem my_core (icls : String) {I : Addr} {fp : List Addr} {n : Nat} {P Md : Nat → Value → Heap → Prop} {St : Nat → Heap → Prop} {keep : Led} {m₀ : Str → Option Value} {news : Led} (J : Nat → (Str → Option Value) → Led → Prop)
    (W : KTurns PySem.Challenge.rw_sa0569_01.row.prog c.w c.A target I fp [I] n P Md St) (hI : I ∈ fp) (hI0 : c.g.get? I = none) (hob : ∀ i h, St i h → ∃ o, h.get? I = some o ∧ o.cls = .type icls) (hfp : ∀ b ∈ fp, b = I ∨ ∃ o, (b, o) ∈ keep) (hkeep : ∀ i m nx, J i m nx → ∀ p ∈ keep, p ∈ nx)
    (hLf : c.L ∉ fp) (hnw : ∀ p ∈ news, p.1 ≠ I) (hst : St 0 h) (F : c.Fr h m₀) (N : c.News h news) (hj : J 0 m₀ news)
    (turn : ∀ i v m₁ nx h tk o, o.cls = .type icls → i < n → P i v h → J i m₁ nx → (∀ p ∈ nx, p.1 ≠ I) → c.Fr h m₁ → c.News h (nx ++ [(I, o)]) →
      wpAny c.M c.A (assign target c.env v) (fun _ s₃ => wpAny c.M c.A (execs body c.env) (TurnPost c (J (i + 1)) (I, o) Q) c.E s₃) c.E (c.at h tk))
    (done : ∀ m₁ nx h tk, J n m₁ nx → c.Fr h m₁ → c.News h nx → Q .next (c.at h tk)) :
    TurnsAt PySem.Challenge.rw_sa0569_01.row.prog c.w c.A c.g c.env target body Q c.E (.ref I) (c.at h tk) := by
  refine ⟨I, fp, [I], n, P, Md, St, m₀, news, J, rfl, W, hLf, ?_, ?_, hst, F, N, hj, ?_, ?_⟩
  · intro b hb; rw [List.mem_singleton.mp hb]; exact hI0
  · intro p hp hq; exact hnw p hp (List.mem_singleton.mp hq)
  · intro i v m₁ nx h₁ tk₁ own hi hP hJ hnx hown hget hmem hst₁ F₁ N₁
    obtain ⟨o, ho, hcl⟩ := hob _ _ hst₁
    have hio : (I, o) ∈ own := hmem I hI hI0 o ho
    have hne : ∀ p ∈ nx, p.1 ≠ I := fun p hp e => hnx p hp (List.mem_singleton.mpr e)
    have N₂ : c.News h₁ (nx ++ [(I, o)]) := fun p hp => N₁ p ((List.mem_append.mp hp).elim (fun h => List.mem_append.mpr (.inr h)) fun h => by rw [List.mem_singleton.mp h]; exact List.mem_append.mpr (.inl hio))
    refine wpAny_mono (turn i v m₁ nx h₁ tk₁ o hcl hi hP hJ hne F₁ N₂) (fun _ s₃ h₃ => wpAny_mono h₃ (fun f s₂ p => ?_) fun _ _ e => e) fun _ _ e => e
    have fin : TurnEnd c (J (i + 1)) (I, o) s₂ → LoopStepU c.g c.env.locals [I] own (J (i + 1)) { c.at h tk with heap := h₁, toks := tk₁ } .next s₂ := by
      rintro ⟨h', tk, m', news', nx', rfl, F', N', hn, hi', ha, hm⟩
      refine ⟨rfl, h', tk, m', nx', rfl, F', fun p hp => ?_, fun p hp hq => ha p hp (List.mem_singleton.mp hq), hm⟩
      rcases List.mem_append.mp hp with h | h
      · by_cases e : p.1 = I
        · have h2 := hget p h
          rw [e, ho] at h2
          have h3 : p = (I, o) := Prod.ext e (Option.some.inj h2).symm
          rw [h3]; exact N' _ hi'
        · rcases hfp p.1 (hown p h) with h1 | ⟨o', h1⟩
          · exact absurd h1 e
          · have h4 := (N₂ _ (List.mem_append.mpr (.inl (hkeep _ _ _ hJ _ h1)))).1
            have h3 : p = (p.1, o') := Prod.ext rfl (Option.some.inj ((hget p h).symm.trans h4))
            rw [h3]
            exact N' _ (hn _ (hkeep _ _ _ hm _ h1))
      · exact N' p (hn p h)
    cases f with
    | ret v => exact .ret p
    | brk => exact .brk p
    | next => exact .next (fin p)
    | cont => exact .cont (fin p)
  · intro h' tk m' news' F' N' _ hJ
    exact done m' news' h' tk hJ F' N'
theorem my_list {l : Addr} {vs : List Value} {nn : Nat} {m₀ : Str → Option Value} {news : Led} (J : Nat → (Str → Option Value) → Led → Prop)
    (hl : (l, listOf vs.toArray nn) ∈ news) (hkeep : ∀ i m nx, J i m nx → (l, listOf vs.toArray nn) ∈ nx) (F : c.Fr h m₀) (N : c.News h news) (hj : J 0 m₀ news)
    (turn : ∀ I, (∀ p ∈ news, p.1 < I) → ∀ i v m₁ nx h tk o, o.cls = .type "list_iterator" → vs[i]? = some v → J i m₁ nx → (∀ p ∈ nx, p.1 ≠ I) → c.Fr h m₁ → c.News h (nx ++ [(I, o)]) →
      wpAny c.M c.A (assign target c.env v) (fun _ s₃ => wpAny c.M c.A (execs body c.env) (TurnPost c (J (i + 1)) (I, o) Q) c.E s₃) c.E (c.at h tk))
    (done : ∀ m₁ nx h tk, J vs.length m₁ nx → c.Fr h m₁ → c.News h nx → Q .next (c.at h tk)) :
    wpAny c.M c.A (pyIter (.ref l)) (fun it s₂ => TurnsAt PySem.Challenge.rw_sa0569_01.row.prog c.w c.A c.g c.env target body Q c.E it s₂) c.E (c.at h tk) := by
  have hol : h.get? l = some (listOf vs.toArray nn) := (N _ hl).1
  have hls : h.IsList l vs.toArray := ⟨_, hol, rfl, nn, rfl⟩
  have hne : l ≠ h.objs.size := Nat.ne_of_lt (Heap.lt_size hol)
  refine wpAny_pyIter_list hls ?_
  have W := KTurns.ofWalks (target := target) (Walks.list (prog := PySem.Challenge.rw_sa0569_01.row.prog) (w := c.w) (A := c.A) rfl h.objs.size l hne vs.toArray) fun i v s Q E st q => letGo_listiter st.1 q
  have hlen : vs.toArray.size = vs.length := rfl
  rw [hlen] at W
  refine my_core "list_iterator" (keep := [(l, listOf vs.toArray nn)]) (m₀ := m₀) (news := news) J W (List.mem_cons_self ..) (next_is_new F) ?_ ?_ ?_ ?_ ?_ ?_ (F.push _) (fun p hp => ⟨Heap.get?_push_of_some _ (N p hp).1, (N p hp).2⟩) hj ?_ done
  · rintro i h ⟨⟨o, ho, hc, _⟩, _⟩; exact ⟨o, ho, hc⟩
  · intro b hb
    rcases List.mem_cons.mp hb with e | hb
    · exact .inl e
    · exact .inr ⟨_, by rw [List.mem_singleton.mp hb]; exact List.mem_singleton.mpr rfl⟩
  · intro i m nx hJ p hp; rw [List.mem_singleton.mp hp]; exact hkeep i m nx hJ
  · intro hm
    rcases List.mem_cons.mp hm with e | hm
    · exact absurd F.ns.lt (e ▸ Nat.lt_irrefl _)
    · exact (N _ hl).2.1 ((List.mem_singleton.mp hm).symm)
  · intro p hp e; exact absurd (Heap.lt_size (N p hp).1) (e ▸ Nat.lt_irrefl _)
  · exact ⟨⟨_, Heap.get?_push_size _ rfl, rfl, rfl⟩, hls.at fun o e => Heap.get?_push_of_some _ e⟩
  · intro i v m₁ nx h tk o hcl hi hP hJ hnx F₁ N₁
    have hP' : vs[i]? = some v := by simpa using hP
    exact turn _ (fun p hp => Heap.lt_size (N p hp).1) i v m₁ nx h tk o hcl hP' hJ hnx F₁ N₁
end
/-- a frame's map, with what is known of it ahead -/
def ov (ps : List (Str × Value)) (u : Str → Option Value) : Str → Option Value := fun y => match ps.lookup y with | some v => some v | none => u y
abbrev FrIs (m : Str → Option Value) (ps : List (Str × Value)) : Prop := ∀ p ∈ ps, m p.1 = some p.2
theorem ov_eq {ps : List (Str × Value)} {m : Str → Option Value} (h : FrIs m ps) : m = ov ps m := by
  funext y
  unfold ov
  split
  · rename_i v e
    induction ps with
    | nil => cases e
    | cons p ps ih =>
      rw [List.lookup_cons] at e
      split at e
      · rename_i hb
        cases e
        rw [eq_of_beq hb]; exact h p (.head _)
      · exact ih (fun q hq => h q (.tail _ hq)) e
  · rfl


abbrev Fm := Str → Option Value
abbrev upd (m : Fm) (x : Str) (v : Value) : Fm := fun y => if y = x then some v else m y
/-- what is so wherever the frame and the ledger are these -/
def Hold (c : Cx) (m : Fm) (news : Led) (q : Shared → Prop) : Prop := ∀ h tk, c.Fr h m → c.News h news → q (c.at h tk)
def RunS (c : Cx) (m : Fm) (news : Led) (body : List Stmt) (Q : Flow → Shared → Prop) : Prop := Hold c m news fun s => wpAny c.M c.A (execs body c.env) Q c.E s
def Then (c : Cx) (rest : List Stmt) (Q : Flow → Shared → Prop) (f : Flow) (s : Shared) : Prop := match f with
  | .next => wpAny c.M c.A (execs rest c.env) Q c.E s
  | f => Q f s
def Evals (c : Cx) (m : Fm) (news : Led) (e : PySem.Expr) (post : Value → Led → Prop) : Prop :=
  ∀ h tk (q : Value → Shared → Prop), c.Fr h m → c.News h news → (∀ v news' h' tk', post v news' → c.Fr h' m → c.News h' news' → q v (c.at h' tk')) → wpAny c.M c.A (eval e c.env) q c.E (c.at h tk)
def Gives (c : Cx) (m : Fm) (news : Led) (e : PySem.Expr) (P : Value → Prop) : Prop :=
  ∀ h tk (q : Value → Shared → Prop), c.Fr h m → c.News h news → (∀ v h' tk', P v → c.Fr h' m → c.News h' news → q v (c.at h' tk')) → wpAny c.M c.A (eval e c.env) q c.E (c.at h tk)
def EvalsL (c : Cx) (m : Fm) (news : Led) (es : List PySem.Expr) (post : List Value → Led → Prop) : Prop :=
  ∀ (pos : Pos) h tk (q : List Value → Shared → Prop), c.Fr h m → c.News h news → (∀ vs news' h' tk', post vs news' → c.Fr h' m → c.News h' news' → q vs (c.at h' tk')) → wpAny c.M c.A (spliced (backTo pos (starEach es c.env))) q c.E (c.at h tk)
def Tests (c : Cx) (m : Fm) (news : Led) (e : PySem.Expr) (b : Bool) : Prop :=
  ∀ h tk (q : Bool → Shared → Prop), c.Fr h m → c.News h news → (∀ h' tk', c.Fr h' m → c.News h' news → q b (c.at h' tk')) → wpAny c.M c.A (isTrue e c.env (eval e c.env)) q c.E (c.at h tk)
def Reads (c : Cx) (m : Fm) (news : Led) (a : Addr) (name : Str) (v : Value) : Prop :=
  ∀ h tk (q : Value → Shared → Prop) (expr : Bool), c.Fr h m → c.News h news → (∀ tk', q v (c.at h tk')) → wpAny c.M c.A (getAttr (.ref a) name expr) q c.E (c.at h tk)
def Meths (c : Cx) (m : Fm) (news : Led) (x : Addr) (name : Str) (f : Addr) : Prop :=
  ∀ h tk (pl : Sem Bool) (q : Value × List Value → Shared → Prop), c.Fr h m → c.News h news → q (.ref f, [.ref x]) (c.at h tk) → wpAny c.M c.A (getMethod (.ref x) name pl) q c.E (c.at h tk)
def IsI (i : Int) (v : Value) : Prop := ∃ t, v = .int i t
section
variable {c : Cx} {m : Fm} {news : Led} {e a b : PySem.Expr} {i j : Int} {P R : Value → Prop} {pos px : Pos} {x : Str} {v : Value} {Q : Flow → Shared → Prop} {q : Value → Shared → Prop} {rest body orelse es : List Stmt} {k dn un0 : Nat} {post : Value → Led → Prop}
theorem g_ev (h : Gives c m news e P) : Evals c m news e (fun v n => P v ∧ n = news) := fun h' tk q F N hq => h h' tk q F N fun v h2 tk2 hv F2 N2 => hq v news h2 tk2 ⟨hv, rfl⟩ F2 N2
theorem g_name (B : Bd c dn un0) (hv : m x = some v) (hx : c.env.kindOf x = some .local) (hd : (x == ("__debug__" : Str)) = false) : Gives c m news (.Name x pos) (· = v) :=
  fun h tk _ F N hQ => wpAny_Name (wpAny_loadName_local B.2.2.2.2.1 hx F.ns hv (hQ _ _ _ rfl F N)) hd
theorem g_nameI {t : Tok} (B : Bd c dn un0) (hv : m x = some (.int i t)) (hx : c.env.kindOf x = some .local) (hd : (x == ("__debug__" : Str)) = false) : Gives c m news (.Name x pos) (IsI i) :=
  fun h tk _ F N hQ => wpAny_Name (wpAny_loadName_local B.2.2.2.2.1 hx F.ns hv (hQ _ _ _ ⟨t, rfl⟩ F N)) hd
theorem g_int : Gives c m news (.Constant (.int i) k pos) (IsI i) := fun h tk q F N hQ => by
  walk1
  exact hQ _ _ _ ⟨_, rfl⟩ F N
theorem g_bool {b : Bool} : Gives c m news (.Constant (.bool b) k pos) (· = .bool b) := fun h tk q F N hQ => by
  walk1
  exact hQ _ _ _ rfl F N
theorem g_none : Gives c m news (.Constant .none k pos) (· = .none) := fun h tk q F N hQ => by
  walk1
  exact hQ _ _ _ rfl F N
theorem g_add (ha : Gives c m news a (IsI i)) (hb : Gives c m news b (IsI j)) : Gives c m news (.BinOp a .Add b pos) (IsI (i + j)) := fun h tk q F N hQ => by
  refine wpAny_BinOp (ha _ _ _ F N ?_)
  rintro v h tk ⟨t, rfl⟩ F N
  refine hb _ _ _ F N ?_
  rintro v h tk ⟨t', rfl⟩ F N
  walk1
  exact hQ _ _ _ ⟨_, rfl⟩ F N
theorem g_sub (ha : Gives c m news a (IsI i)) (hb : Gives c m news b (IsI j)) : Gives c m news (.BinOp a .Sub b pos) (IsI (i - j)) := fun h tk q F N hQ => by
  refine wpAny_BinOp (ha _ _ _ F N ?_)
  rintro v h tk ⟨t, rfl⟩ F N
  refine hb _ _ _ F N ?_
  rintro v h tk ⟨t', rfl⟩ F N
  walk1
  exact hQ _ _ _ ⟨_, rfl⟩ F N

theorem t_cmp {op : CmpOp} {r : Bool} (ha : Gives c m news a (IsI i)) (hb : Gives c m news b (IsI j)) (hm : behindInMarks op b = false)
    (hc : ∀ h tk (q : Bool → Shared → Prop) t t', (∀ tk', q r (c.at h tk')) → wpAny c.M c.A (compareOp op (.int i t) (.int j t')) (fun v s => wpAny c.M c.A (truthy v) q c.E s) c.E (c.at h tk)) : Tests c m news (.Compare a [op] [b] pos) r := fun h tk q F N hQ => by
  refine wpAny_isTrue_Compare1 (ha _ _ _ F N ?_) hm
  rintro v h tk ⟨t, rfl⟩ F N
  refine hb _ _ _ F N ?_
  rintro v h tk ⟨t', rfl⟩ F N
  exact hc h tk q t t' fun tk' => hQ _ _ F N
theorem t_le (ha : Gives c m news a (IsI i)) (hb : Gives c m news b (IsI j)) (hm : behindInMarks .LtE b = false) : Tests c m news (.Compare a [.LtE] [b] pos) (decide (i ≤ j)) := t_cmp ha hb hm fun h tk q t t' hq => by
  walk1
  walk1
  exact hq _
theorem t_lt (ha : Gives c m news a (IsI i)) (hb : Gives c m news b (IsI j)) (hm : behindInMarks .Lt b = false) : Tests c m news (.Compare a [.Lt] [b] pos) (decide (i < j)) := t_cmp ha hb hm fun h tk q t t' hq => by
  walk1
  walk1
  exact hq _
theorem t_ge (ha : Gives c m news a (IsI i)) (hb : Gives c m news b (IsI j)) (hm : behindInMarks .GtE b = false) : Tests c m news (.Compare a [.GtE] [b] pos) (decide (j ≤ i)) := t_cmp ha hb hm fun h tk q t t' hq => by
  walk1
  walk1
  exact hq _
theorem t_gt (ha : Gives c m news a (IsI i)) (hb : Gives c m news b (IsI j)) (hm : behindInMarks .Gt b = false) : Tests c m news (.Compare a [.Gt] [b] pos) (decide (j < i)) := t_cmp ha hb hm fun h tk q t t' hq => by
  walk1
  walk1
  exact hq _
theorem t_eq (ha : Gives c m news a (IsI i)) (hb : Gives c m news b (IsI j)) (hm : behindInMarks .Eq b = false) : Tests c m news (.Compare a [.Eq] [b] pos) (decide (i = j)) := t_cmp ha hb hm fun h tk q t t' hq => by
  walk1
  walk1
  exact hq _

theorem t_not {b : Bool} (ha : Tests c m news a b) : Tests c m news (.UnaryOp .Not a pos) (!b) := fun h tk q F N hQ => isTrue_not (ha _ _ _ F N fun h' tk' F' N' => hQ _ _ F' N')
theorem t_andN : Tests c m news (.BoolOp .And [] pos) true := fun h tk q F N hQ => isTrue_and_nil (hQ _ _ F N)
theorem t_orN : Tests c m news (.BoolOp .Or [] pos) false := fun h tk q F N hQ => isTrue_or_nil (hQ _ _ F N)
theorem t_and {r : List PySem.Expr} {b b' : Bool} (ha : Tests c m news a b) (hb : b = true → Tests c m news (.BoolOp .And r pos) b') : Tests c m news (.BoolOp .And (a :: r) pos) (b && b') := fun h tk q F N hQ =>
  isTrue_and (ha _ _ _ F N fun h' tk' F' N' => by
    cases b with
    | true => exact hb rfl _ _ _ F' N' hQ
    | false => exact hQ _ _ F' N')
theorem t_or {r : List PySem.Expr} {b b' : Bool} (ha : Tests c m news a b) (hb : b = false → Tests c m news (.BoolOp .Or r pos) b') : Tests c m news (.BoolOp .Or (a :: r) pos) (b || b') := fun h tk q F N hQ =>
  isTrue_or (ha _ _ _ F N fun h' tk' F' N' => by
    cases b with
    | true => exact hQ _ _ F' N'
    | false => exact hb rfl _ _ _ F' N' hQ)
theorem t_val {b : Bool} (ha : Gives c m news e (· = .bool b)) (he : isTrue e c.env (eval e c.env) = (do let v ← eval e c.env; standAt e.pos; holding [v] (truthy v))) : Tests c m news e b := fun h tk q F N hQ =>
  wpAny_isTrue_value (ha _ _ _ F N (by rintro v h tk' rfl F N; walk1; exact hQ _ _ F N)) he
theorem then_ret {s : Shared} (hq : Q (.ret v) s) : Then c rest Q (.ret v) s := hq
theorem turn_ret {s : Shared} {J : Fm → Led → Prop} {I : Addr × Obj} (hq : Q (.ret v) s) : TurnPost c J I Q (.ret v) s := hq
theorem h_then (hq : Hold c m news (Q (.ret v))) : Hold c m news (Then c rest Q (.ret v)) := hq
theorem h_turn {J : Fm → Led → Prop} {I : Addr × Obj} (hq : Hold c m news (Q (.ret v))) : Hold c m news (TurnPost c J I Q (.ret v)) := hq
theorem h_ends (news' : Led) (hp : post v news') (hs : ∀ p ∈ news', p ∈ news) : Hold c m news (Ends c post (.ret v)) := fun h tk F N => Ends.intro F (news_sub N hs) hp
theorem h_endsN (news' : Led) (hp : post .none news') (hs : ∀ p ∈ news', p ∈ news) : Hold c m news (Ends c post .next) := fun h tk F N => Ends.intro F (news_sub N hs) hp
theorem s_end (hr : RunS c m news rest Q) : RunS c m news [] (Then c rest Q) := fun h tk F N => wpAny_execs_nil (hr h tk F N)
theorem s_nil (hr : Hold c m news (Q .next)) : RunS c m news [] Q := fun h tk F N => wpAny_execs_nil (hr h tk F N)
theorem s_turn {J : Fm → Led → Prop} {I : Addr × Obj} (nx : Led) (hn : ∀ p ∈ nx, p ∈ news) (hi : I ∈ news) (ha : ∀ p ∈ nx, p.1 ≠ I.1) (hj : J m nx) : RunS c m news [] (TurnPost c J I Q) := fun h tk F N => wpAny_execs_nil (TurnEnd.intro nx F N hn hi ha hj)
theorem s_sub (news' : Led) (hs : ∀ p ∈ news', p ∈ news) (hr : RunS c m news' body Q) : RunS c m news body Q := fun h tk F N => hr h tk F (news_sub N hs)
theorem s_if {b : Bool} (ht : Tests c m news e b) (h1 : b = true → RunS c m news body (Then c rest Q)) (h2 : b = false → RunS c m news orelse (Then c rest Q)) : RunS c m news (.If e body orelse pos :: rest) Q := fun h tk F N =>
  wpAny_execs_cons (wpAny_If (ht _ _ _ F N fun h' tk' F' N' => by
    cases b with
    | true => exact h1 rfl _ _ F' N'
    | false => exact h2 rfl _ _ F' N'))
theorem s_ret (hg : Gives c m news e P) (hq : ∀ v, P v → Hold c m news (Q (.ret v))) : RunS c m news (.Return (some e) pos :: rest) Q := fun h tk F N =>
  wpAny_execs_cons (wpAny_Return_some (hg _ _ _ F N fun v h' tk' hv F' N' => hq v hv _ _ F' N'))
theorem s_retE (hg : Evals c m news e post) (hq : ∀ v news', post v news' → Hold c m news' (Q (.ret v))) : RunS c m news (.Return (some e) pos :: rest) Q := fun h tk F N =>
  wpAny_execs_cons (wpAny_Return_some (hg _ _ _ F N fun v news' h' tk' hv F' N' => hq v _ hv _ _ F' N'))
theorem st_loc (B : Bd c dn un0) : (c.env.scope.kind == .class || (c.env.scope.kind == .module && c.env.locals != c.env.globals)) = false := by
  show (c.cs.kind == .class || (c.cs.kind == .module && c.L != mainGlobals)) = false
  rw [B.2.2.2.2.1]; rfl
theorem s_assignE (B : Bd c dn un0) (hg : Evals c m news e post) (hs : swapsWith e (some (.Name x px)) pos.line c.env = pure false) (hx : c.env.kindOf x = some .local)
    (hq : ∀ v news', post v news' → RunS c (upd m x v) news' rest Q) : RunS c m news (.Assign [.Name x px] e pos :: rest) Q := fun h tk F N =>
  wpAny_execs_cons (wpAny_Assign_Name (hg _ _ _ F N fun v news' h1 tk' hv F N => wpAny_storeName_local hx F.ns (fun h' hn hsb => hq v news' hv h' _ (F.set hn hsb) (N.set hsb)) (st_loc B)) hs)
theorem s_assign (B : Bd c dn un0) (hg : Gives c m news e P) (hs : swapsWith e (some (.Name x px)) pos.line c.env = pure false) (hx : c.env.kindOf x = some .local)
    (hq : ∀ v, P v → RunS c (upd m x v) news rest Q) : RunS c m news (.Assign [.Name x px] e pos :: rest) Q := s_assignE B (g_ev hg) hs hx (by rintro v _ ⟨hv, rfl⟩; exact hq v hv)
theorem s_exprE (hg : Evals c m news e post) (hx : exec (.Expr e pos) c.env = exec (.Expr e pos) c.env) (hq : ∀ v news', post v news' → RunS c m news' rest Q)
    (hE : ∀ {s : Shared} {q : Flow → Shared → Prop}, wpAny c.M c.A (eval e c.env) (fun _ s => q .next s) c.E s → wpAny c.M c.A (exec (.Expr e pos) c.env) q c.E s) : RunS c m news (.Expr e pos :: rest) Q := fun h tk F N =>
  wpAny_execs_cons (hE (hg _ _ _ F N fun v news' h' tk' hv F' N' => hq v news' hv _ _ F' N'))
theorem el_nil : EvalsL c m news [] (fun vs n => vs = [] ∧ n = news) := fun _ _ _ _ F N hQ => spliced_none (hQ _ _ _ _ ⟨rfl, rfl⟩ F N)
theorem el_cons {es : List PySem.Expr} {PL : List Value → Led → Prop} (he : Gives c m news e P) (hs : starEach (e :: es) c.env = (false, eval e c.env) :: starEach es c.env) (hl : EvalsL c m news es PL) : EvalsL c m news (e :: es) (fun vs n => ∃ v r, vs = v :: r ∧ P v ∧ PL r n) := fun pos h tk q F N hQ =>
  spliced_more (he _ _ _ F N fun v h' tk' hv F N => hl _ _ _ _ F N fun r n h2 tk2 hr F N => hQ _ _ _ _ ⟨v, r, rfl, hv, hr⟩ F N) hs
theorem el_consE {es : List PySem.Expr} {PL : Value → List Value → Led → Prop} (he : Evals c m news e post) (hs : starEach (e :: es) c.env = (false, eval e c.env) :: starEach es c.env) (hl : ∀ v n, post v n → EvalsL c m n es (PL v)) : EvalsL c m news (e :: es) (fun vs n => ∃ v r, vs = v :: r ∧ PL v r n) := fun pos h tk q F N hQ =>
  spliced_more (he _ _ _ F N fun v n' h' tk' hv F N => hl v n' hv _ _ _ _ F N fun r n h2 tk2 hr F N => hQ _ _ _ _ ⟨v, r, rfl, hr⟩ F N) hs
theorem g_glob {f : Value} (B : Bd c dn un0) (e : nsIn (Mine.K c.w.params) mainGlobals x = some (some f)) (hx : c.env.kindOf x = some .globalImplicit) (hd : (x == ("__debug__" : Str)) = false) :
    Gives c m news (.Name x pos) (· = f) := fun h tk q F N hQ => nameX_K F B.2.1 (topRead_of B.2.2.1) e (hQ _ _ _ rfl F N) B.2.2.2.2.1 hx hd
theorem g_built {f : Value} (B : Bd c dn un0) (e : nsIn (Mine.K c.w.params) mainGlobals x = some none) (hv : bootBuiltins x = some f) (hn : x ≠ "__name__") (hx : c.env.kindOf x = some .globalImplicit) (hd : (x == ("__debug__" : Str)) = false) :
    Gives c m news (.Name x pos) (· = f) := fun h tk q F N hQ => nameX_B F B.2.1 (topRead_of B.2.2.1) e hv hn (hQ _ _ _ rfl F N) B.2.2.2.2.1 hx hd
/-- a call, told by what it leaves, from a ledger -/
def Calls (c : Cx) (m : Fm) (news : Led) (f : Value) (vs : List Value) (post : Value → Led → Prop) : Prop :=
  ∀ h tk (q : Value → Shared → Prop), c.Fr h m → c.News h news → (∀ r news' h' tk', post r news' → c.Fr h' m → c.News h' news' → q r (c.at h' tk')) → wpAny c.M c.A (call f vs) q c.E (c.at h tk)
theorem c_does {f : Addr} {vs : List Value} {dn' un' : Nat} (B : Bd c dn un0) (hd : Does f vs news dn' un' post) (h1 : dn' + 1 ≤ dn) (h2 : un' + 3 ≤ un0) : Calls c m news (.ref f) vs post := fun h tk q F N hQ =>
  hd c m h tk q ⟨B.1, B.2.1, B.2.2.1, B.2.2.2.1, B.2.2.2.2.1, Nat.lt_of_le_of_lt (Nat.add_le_add_left h1 _) B.2.2.2.2.2.1, Nat.lt_of_le_of_lt (Nat.add_le_add_left h2 _) B.2.2.2.2.2.2⟩ F N fun r news' h' tk' F N hr => hQ r news' h' tk' hr F N
theorem ev_call {f : Addr} {args : List PySem.Expr} {PL : List Value → Led → Prop} (B : Bd c dn un0) (hn : Gives c m news (.Name x px) (· = .ref f)) (hkeep : keepIn (Mine.K c.w.params) (.ref f) = true)
    (hs : starEach (a :: args) c.env = (false, eval a c.env) :: starEach args c.env) (hpl : (backTo pos (starEach args c.env)).any (·.1) = false) (ha : EvalsL c m news (a :: args) PL)
    (hQ : ∀ vs n, PL vs n → Calls c m n (.ref f) vs post) : Evals c m news (.Call (.Name x px) (a :: args) [] pos) post := fun h tk q F N hq => by
  walk1
  refine hn _ _ _ F N ?_
  rintro v h tk' rfl F N
  exact callWith_K (h₀ := h) (B.2.1.keeps F.keep) hkeep (ha _ _ _ _ F N fun vs n h' tk'' hv F N => ⟨B.2.1.keeps F.keep, hQ vs n hv _ _ _ F N hq⟩) hs hpl
theorem ev_meth {pl : Sem Bool} {f o : Addr} {args : List PySem.Expr} {PL : List Value → Led → Prop} {apos : Pos} (B : Bd c dn un0) (hn : Gives c m news e (· = .ref o)) (hm : Meths c m news o x f) (hkeep : keepIn (Mine.K c.w.params) (.ref f) = true)
    (he : eval (.Call (.Attribute e x apos) (a :: args) [] pos) c.env = (do
      let ov ← eval e c.env
      standAt apos.atName
      let (f, first) ← holding [ov] (getMethod ov x pl)
      callWith pos f first (backTo pos (starEach (a :: args) c.env)) (backToKw pos (keywordEach [] c.env))))
    (hs : starEach (a :: args) c.env = (false, eval a c.env) :: starEach args c.env) (hpl : (backTo pos (starEach args c.env)).any (·.1) = false) (ha : EvalsL c m news (a :: args) PL)
    (hQ : ∀ vs n, PL vs n → Calls c m n (.ref f) (.ref o :: vs) post) : Evals c m news (.Call (.Attribute e x apos) (a :: args) [] pos) post := fun h tk q F N hq => by
  refine methodCall_KW (hn _ _ _ F N ?_) he
  rintro v h tk' rfl F N
  refine hm _ _ _ _ F N ?_
  exact callWith_K (h₀ := h) (B.2.1.keeps F.keep) hkeep (ha _ _ _ _ F N fun vs n h' tk'' hv F N => ⟨B.2.1.keeps F.keep, hQ vs n hv _ _ _ F N hq⟩) hs hpl
theorem ev_meth0 {pl : Sem Bool} {f o : Addr} {apos : Pos} (B : Bd c dn un0) (hn : Gives c m news e (· = .ref o)) (hm : Meths c m news o x f) (hkeep : keepIn (Mine.K c.w.params) (.ref f) = true)
    (he : eval (.Call (.Attribute e x apos) [] [] pos) c.env = (do
      let ov ← eval e c.env
      standAt apos.atName
      let (f, first) ← holding [ov] (getMethod ov x pl)
      callWith pos f first (backTo pos (starEach [] c.env)) (backToKw pos (keywordEach [] c.env))))
    (hQ : Calls c m news (.ref f) [.ref o] post) : Evals c m news (.Call (.Attribute e x apos) [] [] pos) post := fun h tk q F N hq => by
  refine methodCall_KW (hn _ _ _ F N ?_) he
  rintro v h tk' rfl F N
  refine hm _ _ _ _ F N ?_
  exact callWith_K0 (B.2.1.keeps F.keep) hkeep (hQ _ _ _ F N hq)
theorem ev_built {id : String} {args : List PySem.Expr} {PL : List Value → Led → Prop} (hn : Gives c m news (.Name x px) (· = .builtin id))
    (hs : starEach (a :: args) c.env = (false, eval a c.env) :: starEach args c.env) (hpl : (backTo pos (starEach args c.env)).any (·.1) = false) (ha : EvalsL c m news (a :: args) PL)
    (hQ : ∀ vs n, PL vs n → Calls c m n (.builtin id) vs post) : Evals c m news (.Call (.Name x px) (a :: args) [] pos) post := fun h tk q F N hq => by
  walk1
  refine hn _ _ _ F N ?_
  rintro v h tk' rfl F N
  exact PyProof.Rows.callWith_builtin1 (ha _ _ _ _ F N fun vs n h' tk'' hv F N => hQ vs n hv _ _ _ F N hq) hs hpl
theorem ev_type {id : String} {args : List PySem.Expr} {PL : List Value → Led → Prop} (hn : Gives c m news (.Name x px) (· = .type id))
    (hs : starEach (a :: args) c.env = (false, eval a c.env) :: starEach args c.env) (hpl : (backTo pos (starEach args c.env)).any (·.1) = false) (ha : EvalsL c m news (a :: args) PL)
    (hQ : ∀ vs n, PL vs n → Calls c m n (.type id) vs post) : Evals c m news (.Call (.Name x px) (a :: args) [] pos) post := fun h tk q F N hq => by
  walk1
  refine hn _ _ _ F N ?_
  rintro v h tk' rfl F N
  exact PyProof.Rows.callWith_type1 (ha _ _ _ _ F N fun vs n h' tk'' hv F N => hQ vs n hv _ _ _ F N hq) hs hpl
/-- an expression that leaves the ledger as it was -/
theorem ev_g (h : Evals c m news e (fun v n => P v ∧ n = news)) : Gives c m news e P := fun h' tk q F N hq => h h' tk q F N (by rintro v n h2 tk2 ⟨hv, rfl⟩ F2 N2; exact hq v h2 tk2 hv F2 N2)
theorem g_attr {y : Str} {yp : Pos} {o : Addr} {v : Value} (hn : Gives c m news (.Name y yp) (· = .ref o)) (hr : Reads c m news o x v) : Gives c m news (.Attribute (.Name y yp) x pos) (· = v) := fun h tk q F N hQ =>
  Attribute_name (hn _ _ _ F N (by rintro v h tk' rfl F N; exact hr _ _ _ _ F N fun tk' => hQ _ _ _ rfl F N))
theorem g_I {t : Tok} (h : Gives c m news e (· = .int i t)) : Gives c m news e (IsI i) := fun h' tk q F N hq => h h' tk q F N fun v h2 tk2 hv F2 N2 => hq v h2 tk2 ⟨t, hv⟩ F2 N2
/-- an attribute of an object of the ledger -/
theorem reads_own {o C dx : Addr} {es : List DictEntry} {n : Nat} {sl : Array (Option Value)} {attr : Option Value} (B : Bd c dn un0)
    (h1 : (o, (⟨.ref C, some dx, .plain, sl⟩ : Obj)) ∈ news) (h2 : (dx, dictOf es n) ∈ news) (hg : plainGet (Mine.K c.w.params) C x = true) (hh : hasDictIn (Mine.K c.w.params) C = true)
    (ha : findIn (Mine.K c.w.params) (.ref C) x = some attr) (hn : noGet (Mine.K c.w.params) attr = true) (hl : getL x es = some (some v)) (hv : handedIn v = true) : Reads c m news o x v := fun h tk q expr F N hQ =>
  get_own (s := c.at h tk) F B.2.1 (InstAt.of_news N h1 h2) hg hh ha hn hl hv (hQ _)
theorem meths_own {o C dx f : Addr} {es : List DictEntry} {n : Nat} {sl : Array (Option Value)} (B : Bd c dn un0)
    (h1 : (o, (⟨.ref C, some dx, .plain, sl⟩ : Obj)) ∈ news) (h2 : (dx, dictOf es n) ∈ news) (hg : plainGet (Mine.K c.w.params) C x = true)
    (hf : findIn (Mine.K c.w.params) (.ref C) x = some (some (.ref f))) (ht : isFn (Mine.K c.w.params) (.ref f) = true) (hl : getL x es = some none) : Meths c m news o x f := fun h tk pl q F N hQ =>
  method_inst (s := c.at h tk) F B.2.1 (InstAt.of_news N h1 h2) hg hf ht hl hQ
/-- a loop from where its iterator is asked for -/
def IterS (c : Cx) (m : Fm) (news : Led) (v : Value) (target : PySem.Expr) (body rest : List Stmt) (Q : Flow → Shared → Prop) : Prop :=
  Hold c m news fun s => wpAny c.M c.A (pyIter v) (fun it s₂ => TurnsAt PySem.Challenge.rw_sa0569_01.row.prog c.w c.A c.g c.env target body (fun f s => Then c rest Q f s) c.E it s₂) c.E s
theorem s_forI {target : PySem.Expr} (B : Bd c dn un0) (hg : Evals c m news e post) (hs : ∀ x, foldedSetIterable e c.env x = pure x) (h : ∀ v n', post v n' → IterS c m n' v target body rest Q) : RunS c m news (.For target e body [] pos :: rest) Q := fun h0 tk F N =>
  wpAny_execs_cons (For_turns F (hg _ _ _ F N fun v n' h' tk' hp F N => h v n' hp _ _ F N) hs B.2.2.2.1)
/-- a loop over a list of spans -/
theorem it_spans {o t : Str} {op tp xp : Pos} {kk : Nat} {l : Addr} {vs : List Value} {S : Spans} {nn : Nat} (J : Nat → Fm → Led → Prop) (B : Bd c dn un0)
    {keep : Led} (hl : (l, listOf vs.toArray nn) ∈ keep) (hd : SpAll keep vs S) (hkeep : ∀ i m nx, J i m nx → ∀ p ∈ keep, p ∈ nx) (hj : J 0 m news)
    (ho : c.env.kindOf o = some .local) (ht : c.env.kindOf t = some .local)
    (turn : ∀ I, (∀ p ∈ news, p.1 < I) → ∀ i m₁ nx ob a b u1 u2, S[i]? = some (a, b) → J i m₁ nx → (∀ p ∈ nx, p.1 ≠ I) →
      let qt : Flow → Shared → Prop := TurnPost c (J (i + 1)) (I, ob) (Then c rest Q)
      RunS c (upd (upd m₁ o (.int a u1)) t (.int b u2)) (nx ++ [(I, ob)]) body qt)
    (done : ∀ m₁ nx, J S.length m₁ nx → RunS c m₁ nx rest Q) :
    IterS c m news (.ref l) (.Tuple [.Name o op, .Name t tp] kk xp) body rest Q := fun h tk F N => by
  refine my_list J (hkeep _ _ _ hj _ hl) (fun i m nx hJ => hkeep i m nx hJ _ hl) F N hj ?_ ?_
  · intro I hI i v m₁ nx h tk ob _ hv hJ hnx F₁ N₁
    obtain ⟨x, y, b, t1, u1, k1, hp, rfl, hbm⟩ := hd.get hv
    have hbm2 := hkeep _ _ _ hJ _ hbm
    refine unpackN_ F₁ N₁ (News.isTup N₁ (List.mem_append.mpr (.inl hbm2))) rfl rfl rfl fun h' F2 N2 => ?_
    refine wpAny_assignInOrder_more (wpAny_assign_Name (wpAny_storeName_local ho F2.ns (fun h3 hn3 hs3 => ?_) (st_loc B)))
    refine wpAny_assignInOrder_more (wpAny_assign_Name (wpAny_storeName_local ht hn3 (fun h4 hn4 hs4 => ?_) (st_loc B)))
    refine wpAny_assignInOrder_none ?_
    exact turn I hI i m₁ nx ob x y t1 u1 hp hJ hnx h4 _ ((F2.set hn3 hs3).set hn4 hs4) ((N2.set hs3).set hs4)
  · intro m₁ nx h tk hJ F₁ N₁
    exact done m₁ nx (by rw [← hd.length]; exact hJ) h tk F₁ N₁
end
theorem does_ofS {f : Addr} {vs : List Value} {news : Led} {dn un0 : Nat} {post : Value → Led → Prop} {name qual : Str} {params : Arguments} {body : List Stmt} {scope : Scope} {dV kV doc pm cdv ct oc : Value} {an od : Option Addr} {osl : Array (Option Value)}
    (binds : List (Str × Value))
    (ho : ∀ w : World, (Mine.K w.params).lookup f = some ⟨oc, od, .func (fnOf name qual params body scope dV kV doc pm an cdv ct), osl⟩) (hcd : ∀ w : World, codeIn (Mine.K w.params) cdv qual = true)
    (hbind : ∀ s, BindsTo s (fnOf name qual params body scope dV kV doc pm an cdv ct) ⟨vs, []⟩ binds) (hloc : (binds.all fun y => scope.names.lookup y.1 == some .local) = true)
    (hcell : (scope.names.all fun x => x.2 != .cell) = true) (hco : scope.isCoroutine = false) (hgen : scope.isGenerator = false) (hk : scope.kind = .function)
    (hw : ∀ (c0 : Cx), let c : Cx := { c0 with cn := qual, cs := scope, a := f, ccd := cdv, cl := [] }
      let qe : Flow → Shared → Prop := Ends c post
      let m : Fm := fun y => binds.reverse.lookup y
      Bd c dn un0 → (∀ p ∈ news, p.1 < c.L) → RunS c m news body qe) : Does f vs news dn un0 post :=
  does_of binds ho hcd hbind hloc hcell hco hgen hk fun w p loose mean mg mb dp un gd L outer A0 base g E gs dr os h tk B F N hlt =>
    hw ⟨w, p, loose, mean, mg, mb, dp, un, gd, qual, scope, L, f, cdv, [], outer, A0, base, g, E, gs, dr, os⟩ B hlt h tk F N

section
variable {c : Cx} {m : Fm} {news : Led} {e a b : PySem.Expr} {i j : Int} {P R T : Value → Prop} {pos px : Pos} {x : Str} {v u : Value} {Q : Flow → Shared → Prop} {q : Value → Shared → Prop} {rest body orelse : List Stmt} {k dn un0 : Nat} {post : Value → Led → Prop}
/-- a call that leaves the ledger as it was -/
abbrev Pure (news : Led) (P : Value → Prop) : Value → Led → Prop := fun v n => P v ∧ n = news
theorem g_b1 {id : String} (hn : Gives c m news (.Name x px) (· = .builtin id)) (hs : starEach [a] c.env = (false, eval a c.env) :: starEach [] c.env)
    (ha : Gives c m news a (· = u)) (hc : Calls c m news (.builtin id) [u] (Pure news P)) : Gives c m news (.Call (.Name x px) [a] [] pos) P :=
  ev_g (ev_built hn hs rfl (el_cons ha hs el_nil) (by rintro _ _ ⟨_, _, rfl, rfl, rfl, rfl⟩; exact hc))
theorem g_b2 {id : String} (hn : Gives c m news (.Name x px) (· = .builtin id)) (hs : starEach [a, b] c.env = (false, eval a c.env) :: starEach [b] c.env) (hs2 : starEach [b] c.env = (false, eval b c.env) :: starEach [] c.env) (hpl : (backTo pos (starEach [b] c.env)).any (·.1) = false)
    (ha : Gives c m news a P) (hb : Gives c m news b R) (hc : ∀ u v, P u → R v → Calls c m news (.builtin id) [u, v] (Pure news T)) : Gives c m news (.Call (.Name x px) [a, b] [] pos) T :=
  ev_g (ev_built hn hs hpl (el_cons ha hs (el_cons hb hs2 el_nil)) (by rintro _ _ ⟨u, _, rfl, hu, v, _, rfl, hv, rfl, rfl⟩; exact hc u v hu hv))
def imin (i j : Int) : Int := if j < i then j else i
def imax (i j : Int) : Int := if i < j then j else i
theorem c_min (u v : Value) (hu : IsI i u) (hv : IsI j v) : Calls c m news (.builtin "min") [u, v] (Pure news (IsI (imin i j))) := fun h tk q F N hq => by
  obtain ⟨t, rfl⟩ := hu
  obtain ⟨t', rfl⟩ := hv
  exact min_two_N (s := c.at h tk) rfl F N fun h' tk' F' N' => hq _ _ _ _ ⟨⟨_, rfl⟩, rfl⟩ F' N'
theorem c_max (u v : Value) (hu : IsI i u) (hv : IsI j v) : Calls c m news (.builtin "max") [u, v] (Pure news (IsI (imax i j))) := fun h tk q F N hq => by
  obtain ⟨t, rfl⟩ := hu
  obtain ⟨t', rfl⟩ := hv
  exact max_two_N (s := c.at h tk) rfl F N fun h' tk' F' N' => hq _ _ _ _ ⟨⟨_, rfl⟩, rfl⟩ F' N'
theorem c_len {l : Addr} {us : List Value} {n : Nat} (hl : (l, listOf us.toArray n) ∈ news) (hfit : us.length ≤ 1000) : Calls c m news (.builtin "len") [.ref l] (Pure news (IsI us.length)) := fun h tk q F N hq =>
  len_list (s := c.at h tk) ⟨_, (N _ hl).1, rfl, n, rfl⟩ (by show (us.length : Int) < _; omega) (hq _ _ _ _ ⟨⟨_, rfl⟩, rfl⟩ F N)
/-- a tuple of two -/
theorem ev_tup2 (ha : Gives c m news a P) (hb : Gives c m news b R) (hs : starEach [a, b] c.env = (false, eval a c.env) :: starEach [b] c.env) (hs2 : starEach [b] c.env = (false, eval b c.env) :: starEach [] c.env) :
    Evals c m news (.Tuple [a, b] k pos) (fun r n => ∃ u v D, P u ∧ R v ∧ r = .ref D ∧ n = news ++ [(D, ({ cls := .type "tuple", data := .seq [u, v].toArray } : Obj))] ∧ ∀ p ∈ news, p.1 < D) := fun h tk q F N hq => by
  walk1
  refine el_cons ha hs (el_cons hb hs2 el_nil) _ _ _ _ F N ?_
  rintro _ _ h tk ⟨u, _, rfl, hu, v, _, rfl, hv, rfl, rfl⟩ F N
  exact kup_newTuple (s := c.at h tk) F N (fun D h' F' N' hD => hq _ _ _ _ ⟨u, v, D, hu, hv, rfl, rfl, hD⟩ F' (ktn_tl1 N')) (by show 2 ≤ sizeLine; decide)
/-- an item of a tuple at a written place -/
theorem g_tupItem {t : Addr} {l : List Value} {n jn : Nat} {kk : Nat} (hg : Gives c m news e (· = .ref t)) (ht : (t, ({ cls := .type "tuple", data := .seq l.toArray n } : Obj)) ∈ news) (hx : l[jn]? = some v) (hj : jn < 1000)
    (hs : ∀ u, subscripted (.Constant (.int jn) kk px) false (.ref t) (.int jn u) = operate [.ref t, .int jn u] (getItem (.ref t) (.int jn u))) : Gives c m news (.Subscript e (.Constant (.int jn) kk px) pos) (· = v) := fun h tk q F N hq => by
  have hl : jn < l.length := (List.getElem?_eq_some_iff.mp hx).1
  walk1
  refine hg _ _ _ F N ?_
  rintro v h tk rfl F N
  refine g_int (c := c) (m := m) (news := news) _ _ _ F N ?_
  rintro v h tk ⟨t', rfl⟩ F N
  refine item_tupleT (News.isTup N ht) (by omega) (by omega) (j := jn) ?_ hx (hq _ _ _ rfl F N) (hs _)
  have h0 : ¬ (jn : Int) < 0 := by omega
  simp [seqIndex?, hl, h0]
/-- the first item of a list -/
theorem g_list0 {l : Addr} {us : List Value} {n : Nat} {kk : Nat} (hg : Gives c m news e (· = .ref l)) (hl : (l, listOf (v :: us).toArray n) ∈ news)
    (hs : ∀ u, subscripted (.Constant (.int 0) kk px) false (.ref l) (.int 0 u) = operate [.ref l, .int 0 u] (getItem (.ref l) (.int 0 u))) : Gives c m news (.Subscript e (.Constant (.int 0) kk px) pos) (· = v) := fun h tk q F N hq => by
  walk1
  refine hg _ _ _ F N ?_
  rintro v h tk rfl F N
  refine g_int (c := c) (m := m) (news := news) _ _ _ F N ?_
  rintro v h tk ⟨t', rfl⟩ F N
  have hll : h.IsList l (v :: us).toArray := ⟨_, (N _ hl).1, rfl, n, rfl⟩
  exact tail_any hll.typeIs slot_list_getitem.lookup (wpAny_getItem_list hll (by omega) (by omega) rfl (hq _ _ _ rfl F N)) (hs _)
/-- a pair unpacked into two names -/
theorem s_unp2 {o t : Str} {op tp xp : Pos} {kk : Nat} (B : Bd c dn un0) (hg : Evals c m news e post)
    (h1 : swapsWithSole [.Tuple [.Name o op, .Name t tp] kk xp] e pos.line c.env = pure false) (h2 : swappedStores [.Tuple [.Name o op, .Name t tp] kk xp] e c.env = pure none)
    (ho : c.env.kindOf o = some .local) (ht : c.env.kindOf t = some .local)
    (hq : ∀ r n', post r n' → ∃ D u v n, r = .ref D ∧ (D, ({ cls := .type "tuple", data := .seq [u, v].toArray n } : Obj)) ∈ n' ∧ RunS c (upd (upd m o u) t v) n' rest Q) :
    RunS c m news (.Assign [.Tuple [.Name o op, .Name t tp] kk xp] e pos :: rest) Q := fun h tk F N => by
  refine wpAny_execs_cons (Assign_Tuple (hg _ _ _ F N ?_) h1 h2)
  intro r n' h tk hp F N
  obtain ⟨D, u, v, n, rfl, hD, hr⟩ := hq r n' hp
  refine unpackN_ F N (News.isTup N hD) rfl rfl rfl fun h' F2 N2 => ?_
  refine wpAny_assignInOrder_more (wpAny_assign_Name (wpAny_storeName_local ho F2.ns (fun h3 hn3 hs3 => ?_) (st_loc B)))
  refine wpAny_assignInOrder_more (wpAny_assign_Name (wpAny_storeName_local ht hn3 (fun h4 hn4 hs4 => ?_) (st_loc B)))
  refine wpAny_assignInOrder_none ?_
  exact hr h4 _ ((F2.set hn3 hs3).set hn4 hs4) ((N2.set hs3).set hs4)
end

section
variable {c : Cx} {m : Fm} {news : Led} {e a b : PySem.Expr} {i j : Int} {P R T : Value → Prop} {pos px : Pos} {x : Str} {v u : Value} {Q : Flow → Shared → Prop} {q : Value → Shared → Prop} {rest body orelse : List Stmt} {k dn un0 : Nat} {post : Value → Led → Prop} {l : Addr} {us ws : List Value} {n : Nat}
/-- one object made more -/
def Made (news : Led) (o : Nat → Obj) (r : Value) (n : Led) : Prop := ∃ D k, r = .ref D ∧ n = news ++ [(D, o k)] ∧ ∀ p ∈ news, p.1 < D
theorem c_copy (hl : (l, listOf us.toArray n) ∈ news) (hfit : us.length ≤ 1000) : Calls c m news (.type "list") [.ref l] (Made news fun k => listOf us.toArray k) := fun h tk q F N hq =>
  list_copyK (s := c.at h tk) F N ⟨_, (N _ hl).1, rfl, n, rfl⟩ (fun D k h' F' N' hD => hq _ _ _ _ ⟨D, k, rfl, rfl, hD⟩ F' (ktn_tl1 N')) (by rw [sizeLine_eq]; show us.length ≤ _; omega)
theorem ev_t1 {id : String} (hn : Gives c m news (.Name x px) (· = .type id)) (hs : starEach [a] c.env = (false, eval a c.env) :: starEach [] c.env)
    (ha : Gives c m news a (· = u)) (hc : Calls c m news (.type id) [u] post) : Evals c m news (.Call (.Name x px) [a] [] pos) post :=
  ev_type hn hs rfl (el_cons ha hs el_nil) (by rintro _ _ ⟨_, _, rfl, rfl, rfl, rfl⟩; exact hc)
theorem ev_list {es : List PySem.Expr} {PL : List Value → Led → Prop} (he : EvalsL c m news es PL) (hz : ∀ vs n, PL vs n → vs.length ≤ 1000) : Evals c m news (.List es pos) (fun r n' => ∃ vs n, PL vs n ∧ Made n (fun k => listOf vs.toArray k) r n') := fun h tk q F N hq => by
  walk1
  refine he _ _ _ _ F N ?_
  intro vs n h tk hp F N
  exact newList_K (s := c.at h tk) F N (fun D h' F' N' hD => hq _ _ _ _ ⟨vs, n, hp, D, 0, rfl, rfl, hD⟩ F' (ktn_tl1 N')) (by rw [sizeLine_eq]; have := hz vs n hp; omega)
theorem ev_cat {pw : Value → List Value → Led → Prop} (ha : Gives c m news a (· = .ref l)) (hb : Evals c m news b (fun r n' => ∃ ws, pw r ws n')) (hp : ∀ r ws n', pw r ws n' → (l, listOf us.toArray n) ∈ n' ∧ us.length + ws.length ≤ 1000 ∧ ∃ l2 k, r = .ref l2 ∧ (l2, listOf ws.toArray k) ∈ n') :
    Evals c m news (.BinOp a .Add b pos) (fun r n2 => ∃ r' ws n', pw r' ws n' ∧ Made n' (fun k => listOf (us ++ ws).toArray k) r n2) := fun h tk q F N hq => by
  refine wpAny_BinOp (ha _ _ _ F N ?_)
  rintro v h tk rfl F N
  refine hb _ _ _ F N ?_
  rintro v n' h tk ⟨ws, hpv⟩ F N
  obtain ⟨h1, hz, l2, k, rfl, h2⟩ := hp v ws n' hpv
  exact kmk_add_lit (s := c.at h tk) F N ⟨_, (N _ h1).1, rfl, n, rfl⟩ ⟨_, (N _ h2).1, rfl, k, rfl⟩ rfl (fun D h' F' N' hD => hq _ _ _ _ ⟨_, ws, n', hpv, D, 0, rfl, rfl, hD⟩ F' (ktn_tl1 N')) (by rw [sizeLine_eq]; show us.length + ws.length ≤ _; omega)
/-- two names stored from a written pair -/
theorem s_two {o t : Str} {op tp xp yp : Pos} {kk k2 : Nat} {PL : Value → Value → Led → Prop} (B : Bd c dn un0) (he : EvalsL c m news [a, b] (fun vs n => ∃ u v, vs = [u, v] ∧ PL u v n))
    (h1 : swapsWithSole [.Tuple [.Name o op, .Name t tp] kk xp] (.Tuple [a, b] k2 yp) pos.line c.env = pure false) (h2 : swappedStores [.Tuple [.Name o op, .Name t tp] kk xp] (.Tuple [a, b] k2 yp) c.env = pure (some [o, t]))
    (ho : c.env.kindOf o = some .local) (ht : c.env.kindOf t = some .local)
    (hq : ∀ u v n', PL u v n' → RunS c (upd (upd m t v) o u) n' rest Q) :
    RunS c m news (.Assign [.Tuple [.Name o op, .Name t tp] kk xp] (.Tuple [a, b] k2 yp) pos :: rest) Q := fun h tk F N => by
  refine wpAny_execs_cons (Assign_Tuple_swapped ?_ h1 h2)
  walk1
  refine he _ _ _ _ F N ?_
  rintro _ n' h tk ⟨u, v, rfl, hp⟩ F N
  refine kup_newTuple (s := c.at h tk) F N (fun D h' F' N' hD => ?_) (by show 2 ≤ sizeLine; decide)
  refine unpackItemsN_ F' N' (News.isTup N' (.head _)) rfl rfl fun h' F2 N2 => ?_
  refine wpAny_assignInOrder_more (wpAny_bindName (wpAny_storeName_local ht F2.ns (fun h3 hn3 hs3 => ?_) (st_loc B)))
  refine wpAny_assignInOrder_more (wpAny_bindName (wpAny_storeName_local ho hn3 (fun h4 hn4 hs4 => ?_) (st_loc B)))
  refine wpAny_assignInOrder_none ?_
  exact hq u v n' hp h4 _ ((F2.set hn3 hs3).set hn4 hs4) (news_sub ((N2.set hs3).set hs4) fun p hp => .tail _ hp)
/-- a value appended to a list that stands first in the ledger -/
theorem s_append {f : Str} {fp ap cp : Pos} {G : Led} (ha : Gives c m ((l, listOf us.toArray n) :: G) (.Name f fp) (· = .ref l)) (he : Evals c m ((l, listOf us.toArray n) :: G) e post)
    (hp : ∀ r n', post r n' → ∃ G', n' = (l, listOf us.toArray n) :: G' ∧ (∀ p ∈ G', p.1 ≠ l) ∧ RunS c m ((l, listOf (us ++ [r]).toArray (n + 1)) :: G') rest Q) (hz : us.length ≤ 1000)
    (hE : interactive c.env = false) (hs : swapsWith (.Call (.Attribute (.Name f fp) "append" ap) [e] [] cp) none pos.line c.env = pure false) {pl : Sem Bool}
    (hc : eval (.Call (.Attribute (.Name f fp) "append" ap) [e] [] cp) c.env = (do
      let ov ← eval (.Name f fp) c.env
      standAt ap.atName
      let (f, first) ← holding [ov] (getMethod ov "append" pl)
      callWith cp f first (backTo cp (starEach [e] c.env)) (backToKw cp (keywordEach [] c.env))))
    (hst : starEach [e] c.env = (false, eval e c.env) :: starEach [] c.env) :
    RunS c m ((l, listOf us.toArray n) :: G) (.Expr (.Call (.Attribute (.Name f fp) "append" ap) [e] [] cp) pos :: rest) Q := fun h tk F N => by
  refine wpAny_execs_cons (wpAny_Expr_any (methodCall_KW (ha _ _ _ F N ?_) hc) hE hs)
  rintro v h tk rfl F N
  refine getMethod_append_N N (.head _) ?_
  refine PyProof.Rows.callWith_method1 (spliced_more (he _ _ _ F N ?_) hst) hst rfl
  intro r n' h tk hpr F N
  obtain ⟨G', rfl, hne, hr⟩ := hp r n' hpr
  refine spliced_none ?_
  refine append_K (s := c.at h tk) F N (Upd.head hne) (fun h' F' N' => ?_) (by rw [sizeLine_eq]; show us.length ≤ _; omega)
  rw [List.push_toArray] at N'
  exact hr h' _ F' N'
theorem el_w {es : List PySem.Expr} {PL PM : List Value → Led → Prop} (h : EvalsL c m news es PL) (hw : ∀ vs n, PL vs n → PM vs n) : EvalsL c m news es PM := fun p h0 tk q F N hq => h p h0 tk q F N fun vs n h' tk' hp => hq vs n h' tk' (hw vs n hp)
theorem ev_w {post' : Value → Led → Prop} (h : Evals c m news e post) (hw : ∀ v n, post v n → post' v n) : Evals c m news e post' := fun h0 tk q F N hq => h h0 tk q F N fun v n h' tk' hp => hq v n h' tk' (hw v n hp)
theorem ev_ws {post' : Value → Led → Prop} (h : Evals c m news e post) (hw : ∀ v n, post v n → ∃ n', (∀ p ∈ n', p ∈ n) ∧ post' v n') : Evals c m news e post' := fun h0 tk q F N hq => h h0 tk q F N fun v n h' tk' hp F N => by
  obtain ⟨n', hs, hp'⟩ := hw v n hp
  exact hq v n' h' tk' hp' F (news_sub N hs)
/-- a list of one written pair -/
theorem ev_pair1 {kk : Nat} {pp lp : Pos} (ha : Gives c m news a (IsI i)) (hb : Gives c m news b (IsI j)) (hs : starEach [.Tuple [a, b] kk pp] c.env = (false, eval (.Tuple [a, b] kk pp) c.env) :: starEach [] c.env) (hs1 : starEach [a, b] c.env = (false, eval a c.env) :: starEach [b] c.env) (hs2 : starEach [b] c.env = (false, eval b c.env) :: starEach [] c.env) :
    Evals c m news (.List [.Tuple [a, b] kk pp] lp) (fun r n' => ∃ D t u D2 k, r = .ref D2 ∧ n' = news ++ [(D, tup2 i j t u 0), (D2, listOf [Value.ref D].toArray k)] ∧ (∀ p ∈ news, p.1 < D) ∧ D < D2) := by
  refine ev_w (ev_list (el_consE (PL := fun v vs n => vs = [] ∧ ∃ D t u, v = .ref D ∧ n = news ++ [(D, tup2 i j t u 0)] ∧ ∀ p ∈ news, p.1 < D) (ev_tup2 ha hb hs1 hs2) hs ?_) ?_) ?_
  · rintro v n ⟨_, _, D, ⟨t, rfl⟩, ⟨t', rfl⟩, rfl, rfl, hD⟩
    exact el_w el_nil (by rintro _ _ ⟨rfl, rfl⟩; exact ⟨rfl, D, t, t', rfl, rfl, hD⟩)
  · rintro _ _ ⟨v, _, rfl, rfl, _⟩; exact (by decide : 1 ≤ 1000)
  · rintro _ _ ⟨_, _, ⟨_, _, rfl, rfl, D, t, u, rfl, rfl, hD⟩, D2, k, rfl, rfl, hD2⟩
    exact ⟨D, t, u, D2, k, rfl, List.append_assoc .., hD, hD2 _ (sub_r _ (.head _))⟩
/-- a loop over spans, its state told: what the frame holds, what the ledger is -/
def TurnS (c : Cx) {σ : Type} (ps : σ → List (Str × Value)) (led : σ → Led) (J : σ → Prop) (m : Fm) (nx : Led) : Prop := ∃ s, nx = led s ∧ FrIs m (ps s) ∧ J s
theorem it_sub {target : PySem.Expr} (n' : Led) (hs : ∀ p ∈ n', p ∈ news) (h : IterS c m n' v target body rest Q) : IterS c m news v target body rest Q := fun h0 tk F N => h h0 tk F (news_sub N hs)
theorem it_S {σ : Type} {o t : Str} {op tp xp : Pos} {kk : Nat} {vs : List Value} {S : Spans} {nn : Nat} {keep : Led} (ps : σ → List (Str × Value)) (led : σ → Led) (J : Nat → σ → Prop) (s0 : σ) (B : Bd c dn un0)
    (hl : (l, listOf vs.toArray nn) ∈ keep) (hd : SpAll keep vs S) (hkeep : ∀ s, ∀ p ∈ keep, p ∈ led s) (hm : FrIs m (ps s0)) (hj : J 0 s0)
    (ho : c.env.kindOf o = some .local) (ht : c.env.kindOf t = some .local)
    (turn : ∀ i (s : σ) u I ob a b u1 u2, S[i]? = some (a, b) → J i s → (∀ p ∈ led s, p.1 ≠ I) →
      let qt : Flow → Shared → Prop := TurnPost c (TurnS c ps led (J (i + 1))) (I, ob) (Then c rest Q)
      let mt : Fm := upd (upd (ov (ps s) u) o (.int a u1)) t (.int b u2)
      let nt : Led := led s ++ [(I, ob)]
      RunS c mt nt body qt)
    (done : ∀ s u, J S.length s →
      let mt : Fm := ov (ps s) u
      let nt : Led := led s
      RunS c mt nt rest Q) :
    IterS c m (led s0) (.ref l) (.Tuple [.Name o op, .Name t tp] kk xp) body rest Q := by
  refine it_spans (fun i => TurnS c ps led (J i)) B hl hd ?_ ⟨s0, rfl, hm, hj⟩ ho ht ?_ ?_
  · rintro i m nx ⟨s, rfl, _⟩ p hp; exact hkeep s p hp
  · rintro I _ i m₁ nx ob a b u1 u2 hp ⟨s, rfl, hm, hj⟩ hnx
    rw [ov_eq hm]
    exact turn i s m₁ I ob a b u1 u2 hp hj hnx
  · rintro m₁ nx ⟨s, rfl, hm, hj⟩
    rw [ov_eq hm]
    exact done s m₁ hj
theorem s_forS {σ : Type} {o t : Str} {op tp xp : Pos} {kk : Nat} {vs : List Value} {S : Spans} {nn : Nat} {keep : Led} (ps : σ → List (Str × Value)) (led : σ → Led) (J : Nat → σ → Prop) (s0 : σ) (B : Bd c dn un0)
    (hit : Gives c m (led s0) e (· = .ref l)) (hl : (l, listOf vs.toArray nn) ∈ keep) (hd : SpAll keep vs S) (hkeep : ∀ s, ∀ p ∈ keep, p ∈ led s) (hm : FrIs m (ps s0)) (hj : J 0 s0)
    (hs : ∀ x, foldedSetIterable e c.env x = pure x) (ho : c.env.kindOf o = some .local) (ht : c.env.kindOf t = some .local)
    (turn : ∀ i (s : σ) u I ob a b u1 u2, S[i]? = some (a, b) → J i s → (∀ p ∈ led s, p.1 ≠ I) →
      let qt : Flow → Shared → Prop := TurnPost c (TurnS c ps led (J (i + 1))) (I, ob) (Then c rest Q)
      let mt : Fm := upd (upd (ov (ps s) u) o (.int a u1)) t (.int b u2)
      let nt : Led := led s ++ [(I, ob)]
      RunS c mt nt body qt)
    (done : ∀ s u, J S.length s →
      let mt : Fm := ov (ps s) u
      let nt : Led := led s
      RunS c mt nt rest Q) :
    RunS c m (led s0) (.For (.Tuple [.Name o op, .Name t tp] kk xp) e body [] pos :: rest) Q :=
  s_forI B (g_ev hit) hs (by rintro _ _ ⟨rfl, rfl⟩; exact it_S ps led J s0 B hl hd hkeep hm hj ho ht turn done)
theorem s_turnS {σ : Type} {ps : σ → List (Str × Value)} {led : σ → Led} {J : σ → Prop} {I : Addr × Obj} (s : σ) (hn : ∀ p ∈ led s, p ∈ news) (hi : I ∈ news) (ha : ∀ p ∈ led s, p.1 ≠ I.1) (hm : FrIs m (ps s)) (hj : J s) : RunS c m news [] (TurnPost c (TurnS c ps led J) I Q) :=
  s_turn (led s) hn hi ha ⟨s, rfl, hm, hj⟩
/-- what comes behind a statement, shown once -/
theorem s_cut {st : Stmt} (K : Led → Prop) (h2 : ∀ n', K n' → RunS c m n' rest Q) (h1 : (∀ n', K n' → RunS c m n' rest Q) → RunS c m news (st :: rest) Q) : RunS c m news (st :: rest) Q := h1 h2
theorem ev_if {t : Bool} (ht : Tests c m news e t) (h1 : t = true → Evals c m news a post) (h2 : t = false → Evals c m news b post) : Evals c m news (.IfExp e a b pos) post := fun h tk q F N hq => by
  walk1
  refine ht _ _ _ F N fun h' tk' F N => ?_
  cases t with
  | true => exact h1 rfl _ _ _ F N hq
  | false => exact h2 rfl _ _ _ F N hq
/-- a pair of ints appended -/
theorem s_app2 {f : Str} {fp ap cp tp : Pos} {G : Led} {pl : Sem Bool} (ha : Gives c m ((l, listOf us.toArray n) :: G) a (IsI i)) (hb : Gives c m ((l, listOf us.toArray n) :: G) b (IsI j)) (hf : Gives c m ((l, listOf us.toArray n) :: G) (.Name f fp) (· = .ref l)) (hG : ∀ p ∈ G, p.1 ≠ l) (hz : us.length ≤ 1000)
    (hq : ∀ D t u, (∀ p ∈ (l, listOf us.toArray n) :: G, p.1 < D) → RunS c m ((l, listOf (us ++ [Value.ref D]).toArray (n + 1)) :: (G ++ [(D, tup2 i j t u 0)])) rest Q)
    (hE : interactive c.env = false) (hs : swapsWith (.Call (.Attribute (.Name f fp) "append" ap) [.Tuple [a, b] k tp] [] cp) none pos.line c.env = pure false)
    (hc : eval (.Call (.Attribute (.Name f fp) "append" ap) [.Tuple [a, b] k tp] [] cp) c.env = (do
      let ov ← eval (.Name f fp) c.env
      standAt ap.atName
      let (f, first) ← holding [ov] (getMethod ov "append" pl)
      callWith cp f first (backTo cp (starEach [.Tuple [a, b] k tp] c.env)) (backToKw cp (keywordEach [] c.env))))
    (hst : starEach [.Tuple [a, b] k tp] c.env = (false, eval (.Tuple [a, b] k tp) c.env) :: starEach [] c.env) (hs1 : starEach [a, b] c.env = (false, eval a c.env) :: starEach [b] c.env) (hs2 : starEach [b] c.env = (false, eval b c.env) :: starEach [] c.env) :
    RunS c m ((l, listOf us.toArray n) :: G) (.Expr (.Call (.Attribute (.Name f fp) "append" ap) [.Tuple [a, b] k tp] [] cp) pos :: rest) Q := by
  refine s_append hf (ev_tup2 ha hb hs1 hs2) ?_ hz hE hs hc hst
  rintro r n' ⟨u, v, D, ⟨t, rfl⟩, ⟨t', rfl⟩, rfl, rfl, hD⟩
  refine ⟨G ++ [(D, tup2 i j t t' 0)], rfl, ?_, hq D t t' hD⟩
  intro p hp
  rcases List.mem_append.mp hp with hp | hp
  · exact hG p hp
  · rw [List.mem_singleton.mp hp]; exact Nat.ne_of_gt (hD _ (.head _))
end
/-! a loop's ledger: the list that is filled, what stood, what was made, the iterator -/
theorem sub_q {x q : Addr × Obj} {A B C : Led} : ∀ p ∈ x :: (A ++ (B ++ C)), p ∈ x :: (((A ++ B) ++ [q]) ++ C) := by
  intro p hp
  simp only [List.mem_cons, List.mem_append] at hp ⊢
  rcases hp with h | h | h | h
  · exact .inl h
  · exact .inr (.inl (.inl (.inl h)))
  · exact .inr (.inl (.inl (.inr h)))
  · exact .inr (.inr h)
theorem mem_q {x q : Addr × Obj} {A C : Led} : q ∈ x :: ((A ++ [q]) ++ C) := .tail _ (sub_l _ (sub_r _ (.head _)))
theorem ne_q {l I : Addr} {o o' : Obj} {A B C : Led} (h : ∀ p ∈ (l, o) :: (A ++ B), p.1 ≠ I) (hC : ∀ p ∈ C, I < p.1) : ∀ p ∈ (l, o') :: (A ++ (B ++ C)), p.1 ≠ I := by
  intro p hp
  rcases List.mem_cons.mp hp with rfl | hp
  · exact h (l, o) (.head _)
  · rcases List.mem_append.mp hp with hp | hp
    · exact h p (.tail _ (sub_l p hp))
    · rcases List.mem_append.mp hp with hp | hp
      · exact h p (.tail _ (sub_r p hp))
      · exact Nat.ne_of_gt (hC p hp)
theorem sub_z {x d e f : Addr × Obj} {A B : Led} : ∀ p ∈ A ++ (B ++ [d, f]), p ∈ ((x :: (A ++ B)) ++ [d, e]) ++ [f] := by
  intro p hp
  simp only [List.mem_append, List.mem_cons, List.cons_append, List.not_mem_nil, or_false] at hp ⊢
  rcases hp with h | h | h | h
  · exact .inr (.inl (.inl (.inl h)))
  · exact .inr (.inl (.inl (.inr h)))
  · exact .inr (.inl (.inr (.inl h)))
  · exact .inr (.inr h)
/-- what comes back of a def that makes spans -/
def RetSp (K news : Led) (T : Spans) (r : Value) (n' : Led) : Prop := ∃ a us k tl, r = .ref a ∧ n' = news ++ tl ∧ Abv news tl ∧ (a, listOf us.toArray k) ∈ tl ∧ SpAll (K ++ tl) us T
theorem Made.sp {K news : Led} {us : List Value} {S : Spans} {r : Value} {n' : Led} (h : Made news (fun k => listOf us.toArray k) r n') (hd : SpAll K us S) : RetSp K news S r n' := by
  obtain ⟨D, k, rfl, rfl, hD⟩ := h
  exact ⟨D, us, k, _, rfl, rfl, .cons hD .nil, .head _, hd.mono sub_l⟩
/-- the state of a loop that fills a list of spans -/
structure Lp where
  l : Addr
  us : List Value
  k : Nat
  f : Spans
  put : Bool
  lo : Int
  hi : Int
  t1 : Tok
  t2 : Tok
  G : Led

/-- a class of the text whose objects are plain -/
def Cls (C : Addr) : Prop := ∀ w : World, (∀ x : Str, plainGet (Mine.K w.params) C x = true) ∧ hasDictIn (Mine.K w.params) C = true ∧ findIn (Mine.K w.params) (.ref C) "__setattr__" = some (some (.builtin "object.__setattr__")) ∧ plainOver (Mine.K w.params) C = true
theorem cls_cry : Cls 108 := fun w => ⟨fun x => (show plainGet (Mine.K w.params) 108 (Str.ofString "x") = true by k_dflt k_is), by k_dflt k_is, by k_dflt k_is, by k_dflt k_is⟩
theorem cls_part : Cls 255 := fun w => ⟨fun x => (show plainGet (Mine.K w.params) 255 (Str.ofString "x") = true by k_dflt k_is), by k_dflt k_is, by k_dflt k_is, by k_dflt k_is⟩
section
variable {c : Cx} {m : Fm} {news : Led} {e a b : PySem.Expr} {i j : Int} {P R T : Value → Prop} {pos px : Pos} {x y : Str} {v u : Value} {Q : Flow → Shared → Prop} {q : Value → Shared → Prop} {rest body orelse : List Stmt} {k dn un0 : Nat} {post : Value → Led → Prop} {o C dx f : Addr} {es : List DictEntry} {n : Nat}
/-- an attribute of a name's object -/
theorem g_at {yp : Pos} (hC : Cls C) (B : Bd c dn un0) (hn : Gives c m news (.Name y yp) (· = .ref o)) (h1 : (o, instObj C dx) ∈ news) (h2 : (dx, dictOf es n) ∈ news) (ha : findIn (Mine.K c.w.params) (.ref C) x = some none) (hl : getL x es = some (some v)) (hv : handedIn v = true) : Gives c m news (.Attribute (.Name y yp) x pos) (· = v) :=
  g_attr hn (reads_own (attr := none) B h1 h2 ((hC c.w).1 x) (hC c.w).2.1 ha rfl hl hv)
/-- a method of a name's object, its arguments at hand -/
theorem meths_at (hC : Cls C) (B : Bd c dn un0) (h1 : (o, instObj C dx) ∈ news) (h2 : (dx, dictOf es n) ∈ news) (hf : findIn (Mine.K c.w.params) (.ref C) x = some (some (.ref f))) (ht : isFn (Mine.K c.w.params) (.ref f) = true) (hl : getL x es = some none) : Meths c m news o x f :=
  meths_own B h1 h2 ((hC c.w).1 x) hf ht hl
/-- an attribute stored -/
theorem s_setat {yp ap : Pos} (hC : Cls C) (B : Bd c dn un0) (hg : Evals c m news e post) (hn : ∀ n', Gives c m n' (.Name y yp) (· = .ref o)) (ht : takerIn (Mine.K c.w.params) C x = some none)
    (hs : swapsWith e (some (.Attribute (.Name y yp) x ap)) pos.line c.env = pure false)
    (h : ∀ v n', post v n' → ∃ es n G, n' = (dx, dictOf es n) :: G ∧ (o, instObj C dx) ∈ G ∧ (∀ p ∈ G, p.1 ≠ dx) ∧ (getL x es).isSome = true ∧ ∀ hsh key, (putL x hsh key v es).length ≤ 1000 ∧ RunS c m ((dx, dictOf (putL x hsh key v es) (putN x es n)) :: G) rest Q) :
    RunS c m news (.Assign [.Attribute (.Name y yp) x ap] e pos :: rest) Q := fun h0 tk F N => by
  refine wpAny_execs_cons (plainObj_wpAny_Assign_Attribute (hg _ _ _ F N ?_) hs)
  intro v n' h0 tk hp F N
  refine hn n' _ _ _ F N ?_
  rintro _ h0 tk rfl F N
  obtain ⟨es, n, G, rfl, hi, hne, hl, hr⟩ := h v n' hp
  exact set_dict (s := c.at h0 tk) F B.2.1 N (InstAt.of_news N (.tail _ hi) (.head _)) rfl (hC c.w).2.2.1 (hC c.w).2.2.2 ht (hC c.w).2.1 hl rfl (Upd.head hne) (hr _ _).1 fun h' F' N' => (hr _ _).2 h' _ F' N'
theorem c_sub {fv : Value} {vs : List Value} (n' : Led) (hs : ∀ p ∈ n', p ∈ news) (h : Calls c m n' fv vs post) : Calls c m news fv vs post := fun h0 tk q F N hq => h h0 tk q F (news_sub N hs) hq
theorem s_expr (hg : Evals c m news e post) (hE : interactive c.env = false) (hs : swapsWith e none pos.line c.env = pure false) (hq : ∀ v n', post v n' → RunS c m n' rest Q) : RunS c m news (.Expr e pos :: rest) Q := fun h tk F N =>
  wpAny_execs_cons (wpAny_Expr_any (hg _ _ _ F N fun v n' h' tk' hv F' N' => hq v n' hv _ _ F' N') hE hs)
end
/-- an entry of an object's dict -/
abbrev ent (k : Int × Tok) (x : Str) (v : Value) : DictEntry := ⟨k.1, .str x k.2, v⟩
abbrev CK := (Int × Tok) × (Int × Tok) × (Int × Tok)
abbrev cryE (k : CK) (d due acked : Value) : List DictEntry := [ent k.1 (Str.ofString "data") d, ent k.2.1 (Str.ofString "due") due, ent k.2.2 (Str.ofString "acked") acked]

def IsB (d : Array UInt8) (v : Value) : Prop := ∃ t, v = .bytes d t
section
variable {c : Cx} {m : Fm} {news : Led} {e a b : PySem.Expr} {i j : Int} {P R T : Value → Prop} {pos px : Pos} {x y : Str} {v u : Value} {Q : Flow → Shared → Prop} {q : Value → Shared → Prop} {rest body orelse : List Stmt} {k dn un0 : Nat} {post : Value → Led → Prop} {o C dx f : Addr} {es : List DictEntry} {n : Nat} {d d2 : Array UInt8} {t t2 : Tok}
theorem c_lenB (hz : d.size ≤ 1000) : Calls c m news (.builtin "len") [.bytes d t] (Pure news (IsI d.size)) := fun h tk q F N hq =>
  len_bytes (s := c.at h tk) (Nat.le_trans hz (by decide)) (hq _ _ _ _ ⟨⟨_, rfl⟩, rfl⟩ F N)
theorem g_addB (hz : d.size + d2.size ≤ 1000) (ha : Gives c m news a (IsB d)) (hb : Gives c m news b (IsB d2)) : Gives c m news (.BinOp a .Add b pos) (IsB (d ++ d2)) := fun h tk q F N hQ => by
  refine wpAny_BinOp (ha _ _ _ F N ?_)
  rintro v h tk ⟨t, rfl⟩ F N
  refine hb _ _ _ F N ?_
  rintro v h tk ⟨t', rfl⟩ F N
  exact KBy.add_bytes (s := c.at h tk) (Nat.le_trans hz (by decide)) fun t' k => hQ _ _ _ ⟨t', rfl⟩ F N
theorem g_B (h : Gives c m news e (· = .bytes d t)) : Gives c m news e (IsB d) := fun h' tk q F N hq => h h' tk q F N fun v h2 tk2 hv F2 N2 => hq v h2 tk2 ⟨t, hv⟩ F2 N2
theorem t_isN1 (h : Gives c m news e (· = .none)) (hm : behindInMarks .Is (.Constant .none k px) = false) : Tests c m news (.Compare e [.Is] [.Constant .none k px] pos) true := fun h0 tk q F N hQ => by
  refine wpAny_isTrue_Compare1 (h _ _ _ F N ?_) hm
  rintro v h0 tk rfl F N
  refine g_none (c := c) (m := m) (news := news) _ _ _ F N ?_
  rintro v h0 tk rfl F N
  walk1
  walk1
  exact hQ _ _ F N
theorem t_isN2 {r : Addr} (h : Gives c m news e (· = .ref r)) (hm : behindInMarks .Is (.Constant .none k px) = false) : Tests c m news (.Compare e [.Is] [.Constant .none k px] pos) false := fun h0 tk q F N hQ => by
  refine wpAny_isTrue_Compare1 (h _ _ _ F N ?_) hm
  rintro v h0 tk rfl F N
  refine g_none (c := c) (m := m) (news := news) _ _ _ F N ?_
  rintro v h0 tk rfl F N
  walk1
  walk1
  exact hQ _ _ F N
theorem g_sliceB {sp : Pos} (hg : Gives c m news e (IsB d)) (ha : Gives c m news a (IsI i)) (hb : Gives c m news b (IsI j)) (hz : d.size ≤ 1000)
    (hs : ∀ (t : Tok) (A : Addr), subscripted (.Slice (some a) (some b) none sp) false (.bytes d t) (.ref A) = operate [.ref A, .bytes d t] (getItem (.bytes d t) (.ref A))) (ht : ∀ (t : Tok) r, letTemporaryGo e (.bytes d t) r = pure ()) :
    Gives c m news (.Subscript e (.Slice (some a) (some b) none sp) pos) (IsB (KBy.picked d (some i) (some j))) := fun h0 tk q F N hQ => by
  walk1
  refine hg _ _ _ F N ?_
  rintro v h0 tk ⟨t, rfl⟩ F N
  walk1
  walk1
  refine ha _ _ _ F N ?_
  rintro v h0 tk ⟨t1, rfl⟩ F N
  walk1
  refine hb _ _ _ F N ?_
  rintro v h0 tk ⟨t2, rfl⟩ F N
  walk1
  exact KBc.slice_K (s := c.at h0 tk) F N rfl (.int _ _) (.int _ _) (by rw [KBw.ints_length]; omega) (fun h' t' k F' N' _ => hQ _ _ _ ⟨t', rfl⟩ F' N') (hs _ _) (ht _)
end
/-- what the handshake's part holds -/
def CryIs (K G : Led) (d du ak : Value) (D : Array UInt8) (S A : Spans) : Prop := ∃ td ld vs n la ws n2, d = .bytes D td ∧ du = .ref ld ∧ ak = .ref la ∧ (ld, listOf vs.toArray n) ∈ G ∧ (la, listOf ws.toArray n2) ∈ G ∧ SpAll K vs S ∧ SpAll K ws A
def CPost (K G : Led) (dx : Addr) (ck : CK) (D : Array UInt8) (S A : Spans) (R : Value → Led → Prop) (r : Value) (n' : Led) : Prop :=
  ∃ d du ak tl, n' = (dx, dictOf (cryE ck d du ak) 3) :: (G ++ tl) ∧ Abv G tl ∧ (∀ p ∈ tl, dx < p.1) ∧ CryIs (K ++ tl) (G ++ tl) d du ak D S A ∧ R r tl
theorem app_mono {K tl tl2 : Led} : ∀ p ∈ K ++ tl, p ∈ K ++ (tl ++ tl2) := fun p hp => (List.mem_append.mp hp).elim (sub_l p) fun h => sub_r p (sub_l p h)
theorem app_mono2 {K tl tl2 : Led} : ∀ p ∈ K ++ tl2, p ∈ K ++ (tl ++ tl2) := fun p hp => (List.mem_append.mp hp).elim (sub_l p) fun h => sub_r p (sub_r p h)

section
variable {c : Cx} {m : Fm} {news : Led} {e a b : PySem.Expr} {i j : Int} {P R T : Value → Prop} {pos px : Pos} {x y : Str} {v u : Value} {Q : Flow → Shared → Prop} {q : Value → Shared → Prop} {rest body orelse : List Stmt} {k dn un0 : Nat} {post post2 : Value → Led → Prop} {l : Addr} {us ws : List Value} {n : Nat}
theorem v_or {t : Bool} (ha : Gives c m news a (· = .bool t)) (h1 : t = true → post (.bool true) news) (h2 : t = false → Evals c m news b post) : Evals c m news (.BoolOp .Or [a, b] pos) post := fun h tk q F N hq => by
  refine BoolOp_or (ha _ _ _ F N ?_)
  rintro v h tk rfl F N
  walk1
  cases t with
  | true => exact hq _ _ _ _ (h1 rfl) F N
  | false => exact h2 rfl _ _ _ F N hq
theorem v_and {t : Bool} (ha : Gives c m news a (· = .bool t)) (h1 : t = false → post (.bool false) news) (h2 : t = true → Evals c m news b post) : Evals c m news (.BoolOp .And [a, b] pos) post := fun h tk q F N hq => by
  refine BoolOp_and (ha _ _ _ F N ?_)
  rintro v h tk rfl F N
  walk1
  cases t with
  | true => exact h2 rfl _ _ _ F N hq
  | false => exact hq _ _ _ _ (h1 rfl) F N
/-- a comparison of two ints as a value -/
theorem g_eqI (ha : Gives c m news a (IsI i)) (hb : Gives c m news b (IsI j)) (hm : behindInMarks .Eq b = false) : Gives c m news (.Compare a [.Eq] [b] pos) (· = .bool (decide (i = j))) := fun h tk q F N hQ => by
  refine wpAny_Compare1 (ha _ _ _ F N ?_) hm
  rintro v h tk ⟨t, rfl⟩ F N
  refine hb _ _ _ F N ?_
  rintro v h tk ⟨t', rfl⟩ F N
  walk1
  exact hQ _ _ _ rfl F N
theorem spd_ok {S : Spans} : ∀ d ∈ S.map spd, kqdOk 8 d = true := by
  intro d hd
  obtain ⟨p, _, rfl⟩ := List.mem_map.mp hd
  rfl
theorem spd_inj {S T : Spans} : S.map spd = T.map spd ↔ S = T := by
  constructor
  · intro h
    induction S generalizing T with
    | nil => cases T with
      | nil => rfl
      | cons _ _ => cases h
    | cons p S ih =>
      cases T with
      | nil => cases h
      | cons q T =>
        simp only [List.map_cons, List.cons.injEq, spd, Dat.tuple.injEq, Dat.int.injEq, and_true] at h
        rw [Prod.ext h.1.1 h.1.2, ih h.2]
  · rintro rfl; rfl
/-- two lists of spans compared -/
theorem ev_eqSp {S T : Spans} {K : Led} (B : Bd c dn un0) (hu : 67 ≤ un0) (ha : Gives c m news a (· = .ref l)) (hd : SpAll K us S) (hb : Evals c m news b post) (hm : behindInMarks .Eq b = false)
    (hp : ∀ r n', post r n' → (∀ p ∈ K, p ∈ n') ∧ (l, listOf us.toArray n) ∈ n' ∧ ∃ l2 ws k K2, r = .ref l2 ∧ (l2, listOf ws.toArray k) ∈ n' ∧ (∀ p ∈ K2, p ∈ n') ∧ SpAll K2 ws T) :
    Evals c m news (.Compare a [.Eq] [b] pos) (fun r n' => r = .bool (decide (S = T)) ∧ ∃ r', post r' n') := fun h tk q F N hq => by
  refine wpAny_Compare1 (ha _ _ _ F N ?_) hm
  rintro v h tk rfl F N
  refine hb _ _ _ F N ?_
  intro r n' h tk hr F N
  obtain ⟨hK, hl, l2, ws, k, K2, rfl, hl2, hK2, hd2⟩ := hp r n' hr
  refine kqd_eq (s := c.at h tk) N hl rfl rfl hd hK hl2 rfl rfl hd2 hK2 spd_ok spd_ok (by have := B.2.2.2.2.2.2; show c.un + 64 < cLine; omega) (hq _ _ _ _ ⟨?_, _, hr⟩ F N)
  congr 1
  exact decide_eq_decide.mpr spd_inj
theorem ev_neSp {S T : Spans} {K : Led} (B : Bd c dn un0) (hu : 67 ≤ un0) (ha : Gives c m news a (· = .ref l)) (hd : SpAll K us S) (hb : Evals c m news b post) (hm : behindInMarks .NotEq b = false)
    (hp : ∀ r n', post r n' → (∀ p ∈ K, p ∈ n') ∧ (l, listOf us.toArray n) ∈ n' ∧ ∃ l2 ws k K2, r = .ref l2 ∧ (l2, listOf ws.toArray k) ∈ n' ∧ (∀ p ∈ K2, p ∈ n') ∧ SpAll K2 ws T) :
    Evals c m news (.Compare a [.NotEq] [b] pos) (fun r n' => r = .bool (!decide (S = T)) ∧ ∃ r', post r' n') := fun h tk q F N hq => by
  refine wpAny_Compare1 (ha _ _ _ F N ?_) hm
  rintro v h tk rfl F N
  refine hb _ _ _ F N ?_
  intro r n' h tk hr F N
  obtain ⟨hK, hl, l2, ws, k, K2, rfl, hl2, hK2, hd2⟩ := hp r n' hr
  refine kqd_ne (s := c.at h tk) N hl rfl rfl hd hK hl2 rfl rfl hd2 hK2 spd_ok spd_ok (by have := B.2.2.2.2.2.2; show c.un + 64 < cLine; omega) (hq _ _ _ _ ⟨?_, _, hr⟩ F N)
  congr 2
  exact decide_eq_decide.mpr spd_inj
/-- a test that may call -/
def TestsE (c : Cx) (m : Fm) (news : Led) (e : PySem.Expr) (post : Bool → Led → Prop) : Prop :=
  ∀ h tk (q : Bool → Shared → Prop), c.Fr h m → c.News h news → (∀ r n' h' tk', post r n' → c.Fr h' m → c.News h' n' → q r (c.at h' tk')) → wpAny c.M c.A (isTrue e c.env (eval e c.env)) q c.E (c.at h tk)
theorem s_ifE {tp : Bool → Led → Prop} (ht : TestsE c m news e tp) (h1 : ∀ n', tp true n' → RunS c m n' body (Then c rest Q)) (h2 : ∀ n', tp false n' → RunS c m n' orelse (Then c rest Q)) : RunS c m news (.If e body orelse pos :: rest) Q := fun h tk F N =>
  wpAny_execs_cons (wpAny_If (ht _ _ _ F N fun b n' h' tk' hp F' N' => by
    cases b with
    | true => exact h1 n' hp _ _ F' N'
    | false => exact h2 n' hp _ _ F' N'))
theorem te_val {tp : Bool → Led → Prop} (ha : Evals c m news e (fun v n' => ∃ b, v = .bool b ∧ tp b n')) (he : isTrue e c.env (eval e c.env) = (do let v ← eval e c.env; standAt e.pos; holding [v] (truthy v))) : TestsE c m news e tp := fun h tk q F N hQ =>
  wpAny_isTrue_value (ha _ _ _ F N (by rintro v n' h tk' ⟨b, rfl, hp⟩ F N; walk1; exact hQ _ _ _ _ hp F N)) he
theorem te_not {tp : Bool → Led → Prop} (ha : TestsE c m news a fun b n' => tp (!b) n') : TestsE c m news (.UnaryOp .Not a pos) tp := fun h tk q F N hQ => isTrue_not (ha _ _ _ F N fun b n' h' tk' hp F' N' => hQ _ _ _ _ hp F' N')
theorem te_orN {tp : Bool → Led → Prop} (h : tp false news) : TestsE c m news (.BoolOp .Or [] pos) tp := fun h0 tk q F N hQ => isTrue_or_nil (hQ _ _ _ _ h F N)
theorem te_or {r : List PySem.Expr} {tp ta : Bool → Led → Prop} (ha : TestsE c m news a ta) (h1 : ∀ n', ta true n' → tp true n') (h2 : ∀ n', ta false n' → TestsE c m n' (.BoolOp .Or r pos) tp) : TestsE c m news (.BoolOp .Or (a :: r) pos) tp := fun h tk q F N hQ =>
  isTrue_or (ha _ _ _ F N fun b n' h' tk' hp F' N' => by
    cases b with
    | true => exact hQ _ _ _ _ (h1 n' hp) F' N'
    | false => exact h2 n' hp _ _ _ F' N' hQ)
theorem te_t {t : Bool} {tp : Bool → Led → Prop} (h : Tests c m news e t) (hp : tp t news) : TestsE c m news e tp := fun h0 tk q F N hQ => h h0 tk q F N fun h' tk' F' N' => hQ _ _ _ _ hp F' N'
end

theorem open_at (w : World) : (Mine.K w.params).lookup 133 = some ({ cls := .type "tuple", data := .seq #[Value.str (Str.ofString "ready") 368, Value.str (Str.ofString "send") 370] } : Obj) := by k_dflt k_is
section
variable {c : Cx} {m : Fm} {news : Led} {e a b : PySem.Expr} {i j : Int} {P R T : Value → Prop} {pos px : Pos} {x y : Str} {v u : Value} {Q : Flow → Shared → Prop} {q : Value → Shared → Prop} {rest body orelse : List Stmt} {k dn un0 : Nat} {post post2 : Value → Led → Prop} {l : Addr} {us ws : List Value} {n : Nat} {t : Tok}
/-- the two states that are met -/
abbrev stS (sent : Bool) : Str := if sent then Str.ofString "send" else Str.ofString "ready"
theorem t_notOpen {sent : Bool} (B : Bd c dn un0) (ha : Gives c m news a (· = .str (stS sent) t)) (hb : Gives c m news b (· = .ref 133)) (hm : behindInMarks .NotIn b = false) : Tests c m news (.Compare a [.NotIn] [b] pos) false := fun h tk q F N hQ => by
  refine wpAny_isTrue_Compare1 (ha _ _ _ F N ?_) hm
  rintro v h tk rfl F N
  refine hb _ _ _ F N ?_
  rintro v h tk rfl F N
  refine notin_tuple_strs (s := c.at h tk) (items := #[Value.str (Str.ofString "ready") 368, Value.str (Str.ofString "send") 370]) (ys := [Str.ofString "ready", Str.ofString "send"]) ⟨_, F.keep _ _ (B.2.1 _ _ (open_at c.w)), rfl, 0, rfl⟩ (.cons _ _ (.cons _ _ .nil)) ?_
  rw [show (!([Str.ofString "ready", Str.ofString "send"].any (· == stS sent))) = false by cases sent <;> decide]
  walk1
  exact hQ _ _ F N
end

theorem look_bb : typeLookup (.type "bytes") "__bytes__" = pure (some (.builtin "bytes.__bytes__")) := by rw [typeLookup_type, builtinLookup_eq_fast]; kernel_rfl
theorem bb_new {prog : Program} {w : World} {A : Around} {E : Value → Shared → Prop} {s : Shared} {b : Array UInt8} {t : Tok} {Q : Value → Shared → Prop} (hQ : Q (.bytes b t) s) :
    codeAny (model prog w) A (.call (.builtin "bytes.__new__") ⟨[.type "bytes", .bytes b t], []⟩) (wants Q E) s := by
  refine codeAny_of_tree ?_
  show wpAny _ A.in1 (do checkBuiltinCall "bytes.__new__" ⟨[.type "bytes", .bytes b t], []⟩; again (.builtin "bytes.__new__" ⟨[.type "bytes", .bytes b t], []⟩)) _ _ s
  refine wpAny_bind (wpAny_of_eq (F.bm_newCall _) (wpAny_pure ⟨plainId_quiet F.bm_plain _, codeAny_builtin F.bm_entry ?_⟩))
  rw [Around.under_plainId F.bm_plain _]
  unfold Builtin.«bytes.__new__»
  refine wpAny_bind (wpAny_of_eq (a := true) rfl ?_)
  refine bm_if_false rfl ?_
  refine wpAny_bind (wpAny_of_eq F.bm_sub ?_)
  refine bm_if_false rfl ?_
  refine wpAny_bind (wpAny_of_eq (F.bm_bind _) ?_)
  refine wpAny_bind (wpAny_of_eq (a := ()) rfl ?_)
  refine wpAny_bind (wpAny_of_eq (a := ()) rfl ?_)
  refine bm_if_false rfl ?_
  refine wpAny_bind (wpAny_of_eq (KBy.special_eq look_bb) ?_)
  refine wpAny_bind (wpAny_rule ?_)
  refine wpAny_bind (wpAny_of_eq (a := Value.type "bytes") rfl ?_)
  refine bm_if_true (by decide) ?_
  exact wpAny_pure hQ
theorem call_bb {prog : Program} {w : World} {A : Around} {E : Value → Shared → Prop} {s : Shared} {b : Array UInt8} {t : Tok} {Q : Value → Shared → Prop} (hQ : Q (.bytes b t) s) : wpAny (model prog w) A (call (.type "bytes") [.bytes b t]) Q E s := by
  refine callType_codes (Q₁ := fun obj s₁ => s₁.TypeIs obj "bytes" ∧ Q obj s₁) F.bm_called (F.bm_typeCall _) F.entry_object_init
    (bb_new ⟨PySem.W.typeIs_bytes _ _ _, hQ⟩) fun obj s₁ h₁ => ?_
  exact ⟨h₁.1, F.args_object_init_2 obj _, object_init_meets F.bm_called.init.lookup F.bm_called.made (by decide) prog w A.in1 _ s₁ ⟨h₁.1, rfl, h₁.2⟩⟩
section
variable {c : Cx} {m : Fm} {news : Led} {e a b : PySem.Expr} {i j : Int} {P R T : Value → Prop} {pos px : Pos} {x y : Str} {v u : Value} {Q : Flow → Shared → Prop} {q : Value → Shared → Prop} {rest body orelse : List Stmt} {k dn un0 : Nat} {post post2 : Value → Led → Prop} {l : Addr} {us ws : List Value} {n : Nat} {d : Array UInt8} {t t2 : Tok} {s1 s2 : Str}
theorem c_bb : Calls c m news (.type "bytes") [.bytes d t] (Pure news (IsB d)) := fun h tk q F N hq => call_bb (hq _ _ _ _ ⟨⟨t, rfl⟩, rfl⟩ F N)
theorem g_t1 {id : String} (hn : Gives c m news (.Name x px) (· = .type id)) (hs : starEach [a] c.env = (false, eval a c.env) :: starEach [] c.env)
    (ha : Gives c m news a (· = u)) (hc : Calls c m news (.type id) [u] (Pure news P)) : Gives c m news (.Call (.Name x px) [a] [] pos) P :=
  ev_g (ev_t1 hn hs ha hc)
theorem t_eqStr (ha : Gives c m news a (· = .str s1 t)) (hb : Gives c m news b (· = .str s2 t2)) (hm : behindInMarks .Eq b = false) : Tests c m news (.Compare a [.Eq] [b] pos) (s1 == s2) := fun h0 tk q F N hQ => by
  refine wpAny_isTrue_Compare1 (ha _ _ _ F N ?_) hm
  rintro v h0 tk rfl F N
  refine hb _ _ _ F N ?_
  rintro v h0 tk rfl F N
  walk1
  walk1
  exact hQ _ _ F N
theorem t_neStr (ha : Gives c m news a (· = .str s1 t)) (hb : Gives c m news b (· = .str s2 t2)) (hm : behindInMarks .NotEq b = false) : Tests c m news (.Compare a [.NotEq] [b] pos) (!(s1 == s2)) := fun h0 tk q F N hQ => by
  refine wpAny_isTrue_Compare1 (ha _ _ _ F N ?_) hm
  rintro v h0 tk rfl F N
  refine hb _ _ _ F N ?_
  rintro v h0 tk rfl F N
  walk1
  walk1
  exact hQ _ _ F N
/-- an and whose first is no -/
theorem g_andF {r : List PySem.Expr} (ha : Gives c m news a (· = .bool false)) : Gives c m news (.BoolOp .And (a :: b :: r) pos) (· = .bool false) := fun h tk q F N hq => by
  refine BoolOp_and (ha _ _ _ F N ?_)
  rintro v h tk rfl F N
  walk1
  exact hq _ _ _ rfl F N
/-- a choice that is decided -/
theorem g_ifF (ht : Tests c m news e false) (hb : Gives c m news b P) : Gives c m news (.IfExp e a b pos) P := fun h tk q F N hq => by
  walk1
  exact ht _ _ _ F N fun h' tk' F N => hb _ _ _ F N hq
theorem g_ifT (ht : Tests c m news e true) (hb : Gives c m news a P) : Gives c m news (.IfExp e a b pos) P := fun h tk q F N hq => by
  walk1
  exact ht _ _ _ F N fun h' tk' F N => hb _ _ _ F N hq
/-- a tuple of three -/
theorem ev_tup3 {e1 e2 e3 : PySem.Expr} (h1 : Gives c m news e1 P) (h2 : Gives c m news e2 R) (h3 : Gives c m news e3 T) (hs : starEach [e1, e2, e3] c.env = (false, eval e1 c.env) :: starEach [e2, e3] c.env) (hs2 : starEach [e2, e3] c.env = (false, eval e2 c.env) :: starEach [e3] c.env) (hs3 : starEach [e3] c.env = (false, eval e3 c.env) :: starEach [] c.env) :
    Evals c m news (.Tuple [e1, e2, e3] k pos) (fun r n => ∃ u v w D, P u ∧ R v ∧ T w ∧ r = .ref D ∧ n = news ++ [(D, ({ cls := .type "tuple", data := .seq [u, v, w].toArray } : Obj))] ∧ ∀ p ∈ news, p.1 < D) := fun h tk q F N hq => by
  walk1
  refine el_cons h1 hs (el_cons h2 hs2 (el_cons h3 hs3 el_nil)) _ _ _ _ F N ?_
  rintro _ _ h tk ⟨u, _, rfl, hu, v, _, rfl, hv, w, _, rfl, hw, rfl, rfl⟩ F N
  exact kup_newTuple (s := c.at h tk) F N (fun D h' F' N' hD => hq _ _ _ _ ⟨u, v, w, D, hu, hv, hw, rfl, rfl, hD⟩ F' (ktn_tl1 N')) (by show 3 ≤ sizeLine; decide)
end
/-- what the sending part holds -/
abbrev PKs := Nat → Int × Tok
abbrev parE (k : PKs) (lm st wr sn ak lo : Value) : List DictEntry := [ent (k 0) (Str.ofString "limit") lm, ent (k 1) (Str.ofString "state") st, ent (k 2) (Str.ofString "written") wr, ent (k 3) (Str.ofString "sent_to") sn, ent (k 4) (Str.ofString "acked") ak, ent (k 5) (Str.ofString "lost") lo,
  ent (k 6) (Str.ofString "is_finished") (.bool false), ent (k 7) (Str.ofString "owes_end") (.bool false), ent (k 8) (Str.ofString "is_end_acked") (.bool false), ent (k 9) (Str.ofString "reset_code") .none, ent (k 10) (Str.ofString "owes_reset") (.bool false)]
structure PV where
  lm : Tok
  ts : Tok
  td : Tok
  tw : Tok
  la : Addr
  ws : List Value
  n2 : Nat
  ll : Addr
  us : List Value
  n : Nat
/-- the state of a sending part -/
structure PS where
  sent : Bool
  D : Array UInt8
  to : Int
  A : Spans
  L : Spans
abbrev parV (k : PKs) (p : PS) (v : PV) : List DictEntry := parE k (.int 1099511627776 v.lm) (.str (stS p.sent) v.ts) (.bytes p.D v.td) (.int p.to v.tw) (.ref v.la) (.ref v.ll)
def PIs (K G : Led) (p : PS) (v : PV) : Prop := (v.la, listOf v.ws.toArray v.n2) ∈ G ∧ (v.ll, listOf v.us.toArray v.n) ∈ G ∧ SpAll K v.ws p.A ∧ SpAll K v.us p.L
def PPost (K G : Led) (dy : Addr) (k : PKs) (p : PS) (R : Value → Led → Prop) (r : Value) (n' : Led) : Prop :=
  ∃ v tl, n' = (dy, dictOf (parV k p v) 11) :: (G ++ tl) ∧ Abv G tl ∧ (∀ q ∈ tl, dy < q.1) ∧ PIs (K ++ tl) (G ++ tl) p v ∧ R r tl

def IsInt (v : Value) : Prop := ∃ i t, v = .int i t
section
variable {c : Cx} {m : Fm} {news : Led} {e a b : PySem.Expr} {i j : Int} {P R T : Value → Prop} {pos px : Pos} {x y : Str} {v u : Value} {Q : Flow → Shared → Prop} {q : Value → Shared → Prop} {rest body orelse : List Stmt} {k dn un0 : Nat} {post post2 : Value → Led → Prop} {l : Addr} {us ws : List Value} {n : Nat} {t t2 : Tok}
theorem c_abs : Calls c m news (.builtin "abs") [.int i t] (Pure news IsInt) := fun h tk q F N hq => call_abs_int fun u tk => hq _ _ _ _ ⟨⟨_, _, rfl⟩, rfl⟩ F N
theorem g_mod (ha : Gives c m news a IsInt) (hb : Gives c m news b (IsI j)) (hj : 0 < j) : Gives c m news (.BinOp a .Mod b pos) (fun v => ∃ r, 0 ≤ r ∧ r < j ∧ IsI r v) := fun h tk q F N hQ => by
  refine wpAny_BinOp (ha _ _ _ F N ?_)
  rintro v h tk ⟨i, t, rfl⟩ F N
  refine hb _ _ _ F N ?_
  rintro v h tk ⟨t', rfl⟩ F N
  have hj0 : j ≠ 0 := by omega
  walk1
  exact hQ _ _ _ ⟨i.fmod j, fmod_lo i hj, fmod_hi i hj, _, rfl⟩ F N
theorem g_mulI (ha : Gives c m news a (IsI 5)) (hb : Gives c m news b (IsI j)) : Gives c m news (.BinOp a .Mult b pos) IsInt := fun h tk q F N hQ => by
  refine wpAny_BinOp (ha _ _ _ F N ?_)
  rintro v h tk ⟨t, rfl⟩ F N
  refine hb _ _ _ F N ?_
  rintro v h tk ⟨t', rfl⟩ F N
  exact mul_int (hQ _ _ _ ⟨_, _, rfl⟩ F N) (IntMulOk.of_left (by decide))
theorem g_fdivI (ha : Gives c m news a (IsI i)) (hb : Gives c m news b (IsI 3)) : Gives c m news (.BinOp a .FloorDiv b pos) IsInt := fun h tk q F N hQ => by
  refine wpAny_BinOp (ha _ _ _ F N ?_)
  rintro v h tk ⟨t, rfl⟩ F N
  refine hb _ _ _ F N ?_
  rintro v h tk ⟨t', rfl⟩ F N
  walk1
  exact hQ _ _ _ ⟨_, _, rfl⟩ F N
theorem g_addInt (ha : Gives c m news a IsInt) (hb : Gives c m news b IsInt) : Gives c m news (.BinOp a .Add b pos) IsInt := fun h tk q F N hQ => by
  refine wpAny_BinOp (ha _ _ _ F N ?_)
  rintro v h tk ⟨i, t, rfl⟩ F N
  refine hb _ _ _ F N ?_
  rintro v h tk ⟨j, t', rfl⟩ F N
  walk1
  exact hQ _ _ _ ⟨_, _, rfl⟩ F N
/-- an item of a list at a place -/
theorem g_listAt (hg : Gives c m news e (· = .ref l)) (ha : Gives c m news a (IsI i)) (hl : (l, listOf us.toArray n) ∈ news) (h0 : 0 ≤ i) (h1 : i < 2 ^ 63) (hx : us[i.toNat]? = some v)
    (hs : ∀ u, subscripted a false (.ref l) (.int i u) = operate [.ref l, .int i u] (getItem (.ref l) (.int i u))) : Gives c m news (.Subscript e a pos) (· = v) := fun h tk q F N hq => by
  have he : eval (.Subscript e a pos) c.env = (do let ov ← eval e c.env; let iv ← holding [ov] (eval a c.env); standAt pos; subscriptTail e a ov iv) := eval_Subscript e a pos
  rw [he]
  refine wpAny_bind (hg _ _ _ F N ?_)
  rintro w h tk rfl F N
  refine wpAny_bind (wpAny_holding (ha _ _ _ F N ?_))
  rintro w h tk ⟨t', rfl⟩ F N
  refine wpAny_bind (wpAny_standAt ?_)
  have hll : h.IsList l us.toArray := ⟨_, (N _ hl).1, rfl, n, rfl⟩
  exact tail_any hll.typeIs slot_list_getitem.lookup (wpAny_getItem_list hll h0 h1 (by simpa using hx) (hq _ _ _ rfl F N)) (hs _)
theorem g_listK {kk i : Nat} {pp : Pos} (hg : Gives c m news e (· = .ref l)) (hl : (l, listOf us.toArray n) ∈ news) (hx : us[i]? = some v) (hi : i < 1000) (hs : ∀ u, subscripted (.Constant (.int i) kk pp) false (.ref l) (.int i u) = operate [.ref l, .int i u] (getItem (.ref l) (.int i u))) : Gives c m news (.Subscript e (.Constant (.int i) kk pp) pos) (· = v) :=
  g_listAt hg (g_int (i := (i : Int))) hl (by omega) (by omega) hx hs
theorem s_setitemI {o : PySem.Expr} {sp : Pos} {G : Led} (hg : Gives c m ((l, listOf us.toArray n) :: G) e (IsI j)) (ho : Gives c m ((l, listOf us.toArray n) :: G) o (· = .ref l)) (ha : Gives c m ((l, listOf us.toArray n) :: G) a (IsI i)) (hG : ∀ p ∈ G, p.1 ≠ l) (h0 : 0 ≤ i) (h1 : i < 2 ^ 63) (us' : Tok → List Value) (hs' : ∀ t, ki_setL us i.toNat (.int j t) = some (us' t))
    (hs : swapsWith e (some (.Subscript o a sp)) pos.line c.env = pure false) (hq : ∀ t, RunS c m ((l, listOf (us' t).toArray n) :: G) rest Q) : RunS c m ((l, listOf us.toArray n) :: G) (.Assign [.Subscript o a sp] e pos :: rest) Q := fun h tk F N => by
  refine wpAny_execs_cons (wpAny_Assign_Subscript (hg _ _ _ F N ?_) hs)
  rintro w h tk ⟨t, rfl⟩ F N
  refine ho _ _ _ F N ?_
  rintro w h tk rfl F N
  refine ha _ _ _ F N ?_
  rintro w h tk ⟨t', rfl⟩ F N
  exact ki_set (s := c.at h tk) (its := us.toArray) F N h0 h1 (hs' t) (Upd.head hG) fun h' F' N' => hq t h' _ F' N'
end

/-! bytes that are the same, compared -/
theorem slot_by_eq : Slot "bytes" (cmpInfo .Eq).2.1 "bytes.__eq__" :=
  .of (owner := "bytes") (n := "__eq__") (by rw [typeLookup_type, builtinLookup_eq_fast]; kernel_rfl) (by decide +kernel) (by decide +kernel) (by decide +kernel)
    (by first | exact .inl (by decide +kernel) | exact .inr (by decide +kernel)) (by rw [isSubtype_type]; kernel_rfl)
theorem entry_by_eq : entryFor table "bytes.__eq__" = some Builtin.«bytes.__eq__» := entryFor_of_fast (by kernel_rfl)
theorem args_by_eq (a b : Value) : argsOk "bytes.__eq__" ⟨[a, b], []⟩ := by unfold argsOk; kernel_rfl
theorem slot_by_ne : Slot "bytes" (cmpInfo .NotEq).2.1 "bytes.__ne__" :=
  .of (owner := "bytes") (n := "__ne__") (by rw [typeLookup_type, builtinLookup_eq_fast]; kernel_rfl) (by decide +kernel) (by decide +kernel) (by decide +kernel)
    (by first | exact .inl (by decide +kernel) | exact .inr (by decide +kernel)) (by rw [isSubtype_type]; kernel_rfl)
theorem entry_by_ne : entryFor table "bytes.__ne__" = some Builtin.«bytes.__ne__» := entryFor_of_fast (by kernel_rfl)
theorem args_by_ne (a b : Value) : argsOk "bytes.__ne__" ⟨[a, b], []⟩ := by unfold argsOk; kernel_rfl
theorem order_same : ∀ l : List UInt8, Builtin.Bytes.order l l = .eq
  | [] => rfl
  | x :: l => by
    unfold Builtin.Bytes.order
    rw [if_neg (UInt8.lt_irrefl x), if_neg (UInt8.lt_irrefl x)]
    exact order_same l
theorem gives_by_eq (d : Array UInt8) (t u : Tok) : PySem.Gives (Builtin.«bytes.__eq__» ⟨[.bytes d t, .bytes d u], []⟩) (.val (.bool true)) := by
  refine .of_wp fun M A E s Q hq => ?_
  show wpAny M A (isInstance (.bytes d u) (.type "bytes") >>= fun r => _) _ E s
  refine wpAny_bind (wpAny_of_eq KBy.isInstance_eq ?_)
  show wpAny M A (pure (Fin.done (.ret (.bool (Builtin.Bytes.holds "__eq__" (Builtin.Bytes.order d.toList d.toList)))))) _ E s
  rw [order_same]
  exact wpAny_pure ⟨_, rfl, hq⟩
theorem gives_by_ne (d : Array UInt8) (t u : Tok) : PySem.Gives (Builtin.«bytes.__ne__» ⟨[.bytes d t, .bytes d u], []⟩) (.val (.bool false)) := by
  refine .of_wp fun M A E s Q hq => ?_
  show wpAny M A (isInstance (.bytes d u) (.type "bytes") >>= fun r => _) _ E s
  refine wpAny_bind (wpAny_of_eq KBy.isInstance_eq ?_)
  show wpAny M A (pure (Fin.done (.ret (.bool (Builtin.Bytes.holds "__ne__" (Builtin.Bytes.order d.toList d.toList)))))) _ E s
  rw [order_same]
  exact wpAny_pure ⟨_, rfl, hq⟩
section
variable {prog : Program} {w : World} {A : Around} {E : Value → Shared → Prop} {s : Shared} {d : Array UInt8} {t u : Tok}
theorem by_eq {Q : Value → Shared → Prop} (h : Q (.bool true) s) : wpAny (model prog w) A (compareOp .Eq (.bytes d t) (.bytes d u)) Q E s :=
  compareOp_gives (typeIs_bytes s d t) (typeIs_bytes s d u) slot_by_eq entry_by_eq (args_by_eq _ _) (gives_by_eq d t u) (by simp [PySem.Made.takes]) h
theorem by_ne {Q : Value → Shared → Prop} (h : Q (.bool false) s) : wpAny (model prog w) A (compareOp .NotEq (.bytes d t) (.bytes d u)) Q E s :=
  compareOp_gives (typeIs_bytes s d t) (typeIs_bytes s d u) slot_by_ne entry_by_ne (args_by_ne _ _) (gives_by_ne d t u) (by simp [PySem.Made.takes]) h
theorem by_at : SeqAt.EqAt A s (.bytes d t) (.bytes d u) true := fun prog w E Q h => by
  unfold eqBool
  refine wpAny_holding ?_
  refine wpAny_ite_split (fun _ => wpAny_bind (wpAny_rule (wpAny_pure h))) (fun _ => ?_)
  exact wpAny_bind (richCompare_gives (typeIs_bytes s d t) (typeIs_bytes s d u) slot_by_eq entry_by_eq (args_by_eq _ _) (gives_by_eq d t u) (by simp [PySem.Made.takes]) (wpAny_truthy_bool h))
/-- two pairs of an int and bytes, alike -/
theorem tup_same {l b : Addr} {i : Int} {t1 t2 : Tok} {Q : Value → Shared → Prop} (hl : s.heap.IsTuple l #[.int i t1, .bytes d t]) (hb : s.heap.IsTuple b #[.int i t2, .bytes d u]) (hu : A.units < cLine) (h : Q (.bool true) s) :
    wpAny (model prog w) A (compareOp .Eq (.ref l) (.ref b)) Q E s :=
  SeqAt.eq_tupleAt (e := fun _ => true) hl hb hu (fun j h1 h2 => by
    match j, h1, h2 with
    | 0, _, _ => exact (by have := SeqAt.EqAt.int_int (A := A.in1) (s := s) i t1 i t2; rwa [beq_self_eq_true] at this)
    | 1, _, _ => exact by_at
    | j + 2, h1, _ => exact absurd h1 (by show ¬ j + 2 < 2; omega)) h
end

/-- a class of the text called: its object is made, its dict filled -/
theorem makes_ofS {C f : Addr} {vs : List Value} {news : Led} {dn un0 : Nat} {post : Value → Led → Prop} {name qual : Str} {params : Arguments} {body : List Stmt} {scope : Scope} {dV kV doc pm cdv ct oc : Value} {an od : Option Addr} {osl : Array (Option Value)}
    (binds : Addr → List (Str × Value)) (hm : ∀ w : World, makesIn (Mine.K w.params) C = true) (hi : ∀ w : World, findIn (Mine.K w.params) (.ref C) "__init__" = some (some (.ref f))) (hf : ∀ w : World, isFn (Mine.K w.params) (.ref f) = true)
    (ho : ∀ w : World, (Mine.K w.params).lookup f = some ⟨oc, od, .func (fnOf name qual params body scope dV kV doc pm an cdv ct), osl⟩) (hcd : ∀ w : World, codeIn (Mine.K w.params) cdv qual = true)
    (hbind : ∀ s x, BindsTo s (fnOf name qual params body scope dV kV doc pm an cdv ct) ⟨.ref x :: vs, []⟩ (binds x)) (hloc : ∀ x, ((binds x).all fun y => scope.names.lookup y.1 == some .local) = true)
    (hcell : (scope.names.all fun x => x.2 != .cell) = true) (hco : scope.isCoroutine = false) (hgen : scope.isGenerator = false) (hk : scope.kind = .function)
    (hw : ∀ (c0 : Cx) (x dx : Addr), let c : Cx := { c0 with cn := qual, cs := scope, a := f, ccd := cdv, cl := [] }
      let qe : Flow → Shared → Prop := Ends c (fun r n' => r = .none ∧ post (.ref x) n')
      let m : Fm := fun y => (binds x).reverse.lookup y
      Bd c dn un0 → (∀ p ∈ news, p.1 < dx) → dx < x → RunS c m ((x, instObj C dx) :: (dx, dictOf [] 0) :: news) body qe)
    {c : Cx} {m : Fm} {dn' un' : Nat} (B0 : Bd c dn' un') (l1 : dn + 2 ≤ dn') (l2 : un0 + 4 ≤ un') : Calls c m news (.ref C) vs post := fun h tk q F N hret => by
  obtain ⟨B, X, T, hE, hks, hdp, hun⟩ := B0
  refine call_cls F X N (hm c.w) (hi c.w) (hf c.w) fun x dx h' F' N' h1 h2 => ?_
  refine callX_plain (cl := []) (env := c.env) (outer := c.outer) (s := c.at h' tk) B F' N' T.nolimit rfl rfl hks ((X.keeps F'.keep) _ _ (ho c.w)) rfl (codeRec_of (X.keeps F'.keep) (hcd c.w)) (by show c.dp + 1 < recursionLimit; omega) (hbind _ x) (fun y hy => eq_of_beq (List.all_eq_true.mp (hloc x) y hy)) (fun g L' h₁ FG F' N' B' st hlt => ?_) (fun x hx => by simpa using List.all_eq_true.mp hcell x hx) hco hgen hk
  let A' := ktrTop (c.dp + 2) (c.un + 4) c.gd qual scope L' f cdv [] (c.env :: c.outer)
  have hb := hw ⟨c.w, c.p, c.loose, c.mean, c.mg, c.mb, c.dp + 2, c.un + 4, c.gd, qual, scope, L', f, cdv, [], c.env :: c.outer, _, c.base, g,
    (fun e s' => wpAny c.M A' (leaving (envOf qual scope L' f cdv) e) (fun _ s'' => c.E e s'') (fun e' s'' => c.E e' s'') s'), c.gs, c.dr, c.os⟩ x dx
    ⟨B', X.keeps st, T.keeps st, (by show PassesOwn _ A' (envOf qual scope L' f cdv) _; passes_own), hk, by show c.dp + 2 + dn < _; omega, by show c.un + 4 + un0 < _; omega⟩ h1 h2 h₁ (tk + (binds x).length) F' N'
  refine wpAny_mono hb (fun fl s' he => ?_) (fun e s' he => he)
  obtain ⟨h', tk', m', news', rfl, Fh, Nh, hv, hp⟩ := he
  exact ⟨L', m', news', Fh, Nh, fun F9 N9 => ⟨hv, hret _ _ _ _ hp F9 N9⟩⟩
/-! a tuple of three cut to two -/
section
variable {prog : Program} {w : World} {A : Around} {E : Value → Shared → Prop} {s : Shared}
theorem sliceApplied_to2 {sl : Addr} {u : Tok} {Q : Int × Int × Nat → Shared → Prop} (hs : s.heap.IsSliceOf sl .none (.int 2 u) .none) (h : Q (0, 1, 2) s) :
    wpAny (model prog w) A (Builtin.Slice.sliceApplied (.ref sl) (pure (3 : Int))) Q E s := by
  obtain ⟨os, hos, hcs, hds⟩ := id hs
  unfold Builtin.Slice.sliceApplied Builtin.Slice.sliceFields
  refine wpAny_bind (wpAny_bind (wpAny_field hos hds (x := .none) rfl (wpAny_bind (wpAny_field hos hds (x := .int 2 u) rfl (wpAny_bind (wpAny_field hos hds (x := .none) rfl (wpAny_pure ?_)))))))
  refine wpAny_bind (slicePart_none ?_)
  show wpAny _ _ (if ((1 : Int) == 0) = true then _ else _) _ _ s
  rw [if_neg (by decide)]
  refine wpAny_bind (slicePart_none (wpAny_bind (slicePart_int (wpAny_bind (wpAny_pure ?_)))))
  exact wpAny_pure h
theorem getItem_tuple_to2 {t sl : Addr} {a b c : Value} {u : Tok} {Q : Value → Shared → Prop} (ht : IsTup s.heap t #[a, b, c]) (hs : s.heap.IsSliceOf sl .none (.int 2 u) .none)
    (h : Q (.ref s.heap.objs.size) { s with heap := s.heap.push { cls := .type "tuple", data := .seq #[a, b] } }) : wpAny (model prog w) A (getItem (.ref t) (.ref sl)) Q E s := by
  obtain ⟨os, hos, hcs, hds⟩ := id hs
  have hTs : s.TypeIs (.ref sl) "slice" := ⟨os, hos, hcs⟩
  unfold getItem
  try with_reducible refine wpAny_holding ?_
  first | refine wpAny_bind (wpAny_pure ?_) | skip
  refine wpAny_bind (wpAny_sequenceKey ht.typeIs (by decide) ?_)
  refine wpAny_bind (wpAny_callSpecial?_slot (name := Str.ofString "__getitem__") ht.typeIs slot_tuple_getitem
    (wpAny_call_entry slot_tuple_getitem ht.typeIs entry_tuple_getitem ?_ (args_tuple_getitem _ _)))
  show wpAny _ _ (Builtin.Tuple.tupleItemsOf (.ref t) >>= _) _ _ s
  refine wpAny_bind (tupleItemsOf_ ht ?_)
  refine wpAny_bind (wpAny_typeOf hTs ?_)
  rw [if_pos (by decide)]
  refine wpAny_bind (sliceApplied_to2 hs ?_)
  have hz : sizeOk (.seq #[a, b]) := (by show 2 ≤ sizeLine; decide)
  first
    | exact wpAny_bind (m := Builtin.Tuple.tupleExact _) (wpAny_newObj_type (wpAny_pure ⟨_, rfl, wpAny_pure h⟩) hz)
    | exact wpAny_bind (m := Builtin.Tuple.tupleExact _) (wpAny_newObj_type (wpAny_bind (wpAny_pure (wpAny_pure ⟨_, rfl, wpAny_pure h⟩))) hz)
    | exact wpAny_bind (wpAny_bind (m := Builtin.Tuple.tupleExact _) (wpAny_newObj_type (wpAny_pure (wpAny_pure ⟨_, rfl, wpAny_pure h⟩)) hz))
    | exact wpAny_bind (wpAny_bind (m := Builtin.Tuple.tupleExact _) (wpAny_newObj_type (wpAny_pure ⟨_, rfl, wpAny_pure h⟩) hz))
end
section
variable {c : Cx} {m : Fm} {news : Led} {e a b : PySem.Expr} {i j : Int} {P R T : Value → Prop} {pos px : Pos} {x y : Str} {v u : Value} {Q : Flow → Shared → Prop} {q : Value → Shared → Prop} {rest body orelse : List Stmt} {k dn un0 : Nat} {post post2 : Value → Led → Prop} {l : Addr} {us ws : List Value} {n : Nat} {t t2 : Tok}
abbrev tupO (l : List Value) (n : Nat) : Obj := { cls := .type "tuple", data := .seq l.toArray n }
theorem ev_slice2 {tp : Addr} {v1 v2 v3 : Value} {kk : Nat} {sp : Pos} (hg : Gives c m news e (· = .ref tp)) (ht : (tp, tupO [v1, v2, v3] n) ∈ news)
    (hs : ∀ A : Addr, subscripted (.Slice none (some (.Constant (.int 2) kk px)) none sp) false (.ref tp) (.ref A) = operate [.ref A, .ref tp] (getItem (.ref tp) (.ref A))) (hg2 : ∀ r, letTemporaryGo e (.ref tp) r = pure ()) :
    Evals c m news (.Subscript e (.Slice none (some (.Constant (.int 2) kk px)) none sp) pos) (fun r n' => ∃ D, r = .ref D ∧ n' = news ++ [(D, tupO [v1, v2] 0)] ∧ ∀ p ∈ news, p.1 < D) := fun h0 tk q F N hQ => by
  walk1
  refine hg _ _ _ F N ?_
  rintro v h0 tk rfl F N
  walk1
  walk1
  walk1
  walk1
  walk1
  have ht' : IsTup (h0.push { cls := .type "slice", data := .fields #[.none, .int 2 tk, .none] }) tp #[v1, v2, v3] := (News.isTup N ht).keeps fun _ _ e => Heap.get?_push_of_some _ e
  refine subscriptTail_ops (s := c.at (h0.push { cls := .type "slice", data := .fields #[.none, .int 2 tk, .none] }) (tk + 1)) ht'.typeIs slot_tuple_getitem.lookup
    (getItem_tuple_to2 ht' (Heap.IsSliceOf.new ..) ?_) (hs _) hg2
  have N1 := News.push (F.push { cls := .type "slice", data := .fields #[.none, .int 2 tk, .none] }) (N.grown fun _ _ e => Heap.get?_push_of_some _ e) { cls := .type "tuple", data := .seq #[v1, v2] }
  exact hQ _ _ _ _ ⟨_, rfl, rfl, fun p hp => by rw [Heap.size_push]; exact Nat.lt_succ_of_lt (Heap.lt_size (N p hp).1)⟩ ((F.push _).push _) (ktn_tl1 N1)
end

/-! enumerate over bytes -/
section
variable {prog : Program} {w : World} {A : Around} {E : Value → Shared → Prop} {s : Shared} {b : Array UInt8} {t : Tok}
theorem by_next_item {it : Addr} {i : Nat} {c : UInt8} {Q : Value → Shared → Prop} (hit : KBw.IsBytesIter s.heap it b t i) (hx : b[i]? = some c)
    (hQ : ∀ h', KBw.IsBytesIter h' it b t (i + 1) → Heap.SameBut it s.heap h' → Q (.int (c.toNat : Int) s.toks) { s with heap := h', toks := s.toks + 1 }) : wpAny (model prog w) A (Builtin.SmallTypes.nextOf (.ref it)) Q E s := by
  obtain ⟨o, ho, hc, hd⟩ := id hit
  unfold Builtin.SmallTypes.nextOf
  refine wpAny_bind (wpAny_callSpecial?_slot (name := Str.ofString "__next__") (KBw.iter_typeIs hit) KBw.slot_next
    (wpAny_call_entry KBw.slot_next (KBw.iter_typeIs hit) KBw.entry_next ?_ (KBw.args_next _)))
  show wpAny _ _ (field (.ref it) 0 >>= _) _ _ s
  refine wpAny_bind (wpAny_field ho hd (x := .bytes b t) rfl ?_)
  show wpAny _ _ (if (Value.bytes b t == Value.none) = true then _ else _) _ _ s
  rw [if_neg (show ¬ ((Value.bytes b t == Value.none) = true) from Bool.false_ne_true)]
  show wpAny _ _ (field (.ref it) 1 >>= _) _ _ s
  refine wpAny_bind (wpAny_field ho hd (x := .int i 0) rfl ?_)
  refine wpAny_bind (wpAny_of_eq (a := b) rfl ?_)
  simp only [Int.toNat_natCast, hx]
  refine wpAny_bind (wpAny_setField ho hd (by simp) (wpAny_bind (wpAny_mkInt (wpAny_pure ⟨_, rfl, wpAny_pure (hQ _ ?_ (Heap.SameBut.update ..))⟩))))
  exact ⟨_, Heap.get?_update_self _ ho (Obj.isFreed_of_fields (Obj.data_mapFields hd _)), (Obj.cls_mapFields ..).trans hc, by
    rw [Obj.data_mapFields hd]; simp [rawInt]⟩
theorem by_next_end {it : Addr} {i : Nat} {Q : Value → Shared → Prop} (hh : A.handled = none) (hit : KBw.IsBytesIter s.heap it b t i) (hx : b[i]? = none)
    (hE : ∀ h' e, Heap.ExtBut it s.heap h' → (∃ o, h'.get? e = some o ∧ o.cls = .type "StopIteration") → E (.ref e) { s with heap := h' }) : wpAny (model prog w) A (Builtin.SmallTypes.nextOf (.ref it)) Q E s := by
  obtain ⟨o, ho, hc, hd⟩ := id hit
  unfold Builtin.SmallTypes.nextOf
  refine wpAny_bind (wpAny_callSpecial?_slot (name := Str.ofString "__next__") (KBw.iter_typeIs hit) KBw.slot_next
    (wpAny_call_entry KBw.slot_next (KBw.iter_typeIs hit) KBw.entry_next ?_ (KBw.args_next _)))
  show wpAny _ _ (field (.ref it) 0 >>= _) _ _ s
  refine wpAny_bind (wpAny_field ho hd (x := .bytes b t) rfl ?_)
  show wpAny _ _ (if (Value.bytes b t == Value.none) = true then _ else _) _ _ s
  rw [if_neg (show ¬ ((Value.bytes b t == Value.none) = true) from Bool.false_ne_true)]
  show wpAny _ _ (field (.ref it) 1 >>= _) _ _ s
  refine wpAny_bind (wpAny_field ho hd (x := .int i 0) rfl ?_)
  refine wpAny_bind (wpAny_of_eq (a := b) rfl ?_)
  simp only [Int.toNat_natCast, hx]
  refine wpAny_bind (wpAny_rule (wpAny_bind (wpAny_setField ho hd (by simp) ?_)))
  show wpAny _ _ (newExc (.type "StopIteration") [] >>= _) _ _ _
  refine wpAny_bind ?_
  simp only [newExc, newTuple]
  refine wpAny_bind (wpAny_newObj_type ?_ (by size_fits))
  refine wpAny_bind (m := firstArgMember _ _) (wpAny_of_eq (a := Value.none) (by first | rfl | (simp only [firstArgMember]; rfl)) ?_)
  refine wpAny_newObj_type ?_ (by size_fits)
  simp only [raiseNew]
  refine wpAny_bind (wpAny_handled ?_)
  first | rw [show A.in1.handled = none from hh] | rw [hh]
  refine wpAny_bind (wpAny_pure (wpAny_throw ?_))
  exact hE _ _ (((Heap.SameBut.update ..).extBut.push _).push _) ⟨_, Heap.get?_push_size _ rfl, rfl⟩
theorem enumB_next {e it : Addr} {i : Nat} {c : UInt8} {old : Value} {Q : Value → Shared → Prop}
    (he : IsEnum s.heap e it i old) (hit : KBw.IsBytesIter s.heap it b t i) (hx : b[i]? = some c) (hne : e ≠ it)
    (hQ : ∀ h' x u, x = .int (c.toNat : Int) s.toks → IsEnumOut h' e it ((i : Int) + 1) x s.heap.objs.size → KBw.IsBytesIter h' it b t (i + 1) →
      h'.get? s.heap.objs.size = some { cls := .type "tuple", data := .seq #[.int i u, x] } →
      (∀ b o, b ≠ e → b ≠ it → s.heap.get? b = some o → h'.get? b = some o) → Q (.ref s.heap.objs.size) { s with heap := h', toks := s.toks + 1 + 1 }) :
    wpAny (model prog w) A (Builtin.«enumerate.__next__» ⟨[.ref e], []⟩) (fun fin s' => ∃ v, fin = .done (.ret v) ∧ Q v s') E s := by
  obtain ⟨hp, g, d, tk, os⟩ := s
  show wpAny _ _ (field (.ref e) 2 >>= _) _ _ _
  refine wpAny_bind (wpAny_field he rfl (x := .ref it) rfl ?_)
  refine wpAny_bind (by_next_item hit hx fun h₁ hit₁ hs₁ => ?_)
  replace hs₁ : Heap.SameBut it hp h₁ := hs₁
  have he₁ : IsEnum h₁ e it i old := (hs₁.2 e hne).trans he
  show wpAny _ _ (field (.ref e) 3 >>= _) _ _ ⟨h₁, g, d, tk + 1, os⟩
  refine wpAny_bind (wpAny_field he₁ rfl (x := rawInt i) rfl ?_)
  show wpAny _ _ (field (.ref e) 4 >>= _) _ _ ⟨h₁, g, d, tk + 1, os⟩
  refine wpAny_bind (wpAny_field he₁ rfl (x := .none) rfl ?_)
  show wpAny _ _ (mkInt i >>= _) _ _ ⟨h₁, g, d, tk + 1, os⟩
  refine wpAny_bind (wpAny_mkInt ?_)
  show wpAny _ _ (setField (.ref e) 3 (rawInt ((i : Int) + 1)) >>= _) _ _ ⟨h₁, g, d, tk + 1 + 1, os⟩
  refine wpAny_bind (wpAny_setField_rec he₁ (by simp) fun h₂ he₂ hs₂ => ?_)
  replace hs₂ : Heap.SameBut e h₁ h₂ := hs₂
  replace he₂ : IsEnum h₂ e it ((i : Int) + 1) old := he₂
  show wpAny _ _ (setField (.ref e) 4 .none >>= _) _ _ ⟨h₂, g, d, tk + 1 + 1, os⟩
  refine wpAny_bind (wpAny_setField_rec he₂ (by simp) fun h₃ he₃ hs₃ => ?_)
  replace hs₃ : Heap.SameBut e h₂ h₃ := hs₃
  replace he₃ : IsEnum h₃ e it ((i : Int) + 1) old := he₃
  generalize hxx : Value.int (c.toNat : Int) tk = x
  show wpAny _ _ (newTuple [.int i (tk + 1), x] >>= _) _ _ ⟨h₃, g, d, tk + 1 + 1, os⟩
  refine wpAny_bind (wpAny_newTuple ?_)
  have he₄ : IsEnum (h₃.push { cls := .type "tuple", data := .seq #[.int i (tk + 1), x] }) e it ((i : Int) + 1) old := Heap.get?_push_of_some _ he₃
  generalize hh₄ : h₃.push { cls := .type "tuple", data := .seq #[.int i (tk + 1), x] } = h₄ at he₄
  have hsz : h₃.objs.size = hp.objs.size := by rw [hs₃.1, hs₂.1, hs₁.1]
  have hel : e < hp.objs.size := Heap.lt_size he
  have ht₄ : h₄.get? hp.objs.size = some { cls := .type "tuple", data := .seq #[.int i (tk + 1), x] } := by rw [← hh₄, ← hsz]; exact Heap.get?_push_size _ rfl
  have hk₄ : ∀ b o, b ≠ e → b ≠ it → hp.get? b = some o → h₄.get? b = some o := fun b o hbe hbi hb => by
    rw [← hh₄]; exact Heap.get?_push_of_some _ (hs₃.extBut b o hbe (hs₂.extBut b o hbe (hs₁.extBut b o hbi hb)))
  have keep : ∀ {h h' : Heap} {i : Nat}, Heap.SameBut e h h' → KBw.IsBytesIter h it b t i → KBw.IsBytesIter h' it b t i := fun hs ⟨o, ho, r⟩ => ⟨o, hs.extBut it o (Ne.symm hne) ho, r⟩
  have hit₄ : KBw.IsBytesIter h₄ it b t (i + 1) := by
    rw [← hh₄]; obtain ⟨o, ho, r⟩ := keep hs₃ (keep hs₂ hit₁); exact ⟨o, Heap.get?_push_of_some _ ho, r⟩
  show wpAny _ _ (Builtin.SmallTypes.ownedTupleIsFree (.ref e) >>= _) _ _ ⟨h₄, g, d, tk + 1 + 1, os⟩
  rw [hsz]
  clear hh₄ he₃ hs₃ he₂ hs₂ he₁ hs₁ hit₁ hsz h₃ h₂ h₁
  refine wpAny_bind ?_
  · unfold Builtin.SmallTypes.ownedTupleIsFree
    refine wpAny_bind (wpAny_field he₄ rfl (x := .none) rfl (wpAny_pure ?_))
    simp only [if_true]
    refine wpAny_bind (wpAny_rule ?_)
    refine wpAny_bind (wpAny_field he₄ rfl (x := old) rfl ?_)
    refine wpAny_bind (wpAny_setField_rec he₄ (by simp) fun h₅ he₅ hs₅ => ?_)
    replace hs₅ : Heap.SameBut e h₄ h₅ := hs₅
    replace he₅ : IsEnum h₅ e it ((i : Int) + 1) x := he₅
    show wpAny _ _ (Builtin.SmallTypes.ownedTupleHandOut (.ref e) (.ref hp.objs.size) >>= _) _ _ ⟨h₅, g, d, tk + 1 + 1, os⟩
    refine wpAny_bind ?_
    · unfold Builtin.SmallTypes.ownedTupleHandOut
      refine wpAny_bind (wpAny_setField_rec he₅ (by simp) fun h₆ he₆ hs₆ => ?_)
      replace hs₆ : Heap.SameBut e h₅ h₆ := hs₆
      replace he₆ : IsEnumOut h₆ e it ((i : Int) + 1) x hp.objs.size := he₆
      refine wpAny_setField_rec he₆ (by simp) fun h₇ he₇ hs₇ => ?_
      replace hs₇ : Heap.SameBut e h₆ h₇ := hs₇
      replace he₇ : IsEnumOut h₇ e it ((i : Int) + 1) x hp.objs.size := he₇
      refine wpAny_bind (wpAny_letGo (wpAny_pure ⟨_, rfl, hQ h₇ x (tk + 1) hxx.symm he₇ ?_ ?_ ?_⟩))
      · exact keep hs₇ (keep hs₆ (keep hs₅ hit₄))
      · exact hs₇.extBut _ _ (Nat.ne_of_gt hel) (hs₆.extBut _ _ (Nat.ne_of_gt hel) (hs₅.extBut _ _ (Nat.ne_of_gt hel) ht₄))
      · exact fun b o hbe hbi hb => hs₇.extBut b o hbe (hs₆.extBut b o hbe (hs₅.extBut b o hbe (hk₄ b o hbe hbi hb)))
theorem enumB_pyNext {e it : Addr} {i : Nat} {c : UInt8} {old : Value} {Q : Option Value → Shared → Prop}
    (he : IsEnum s.heap e it i old) (hit : KBw.IsBytesIter s.heap it b t i) (hx : b[i]? = some c) (hne : e ≠ it)
    (hQ : ∀ h' x u, x = .int (c.toNat : Int) s.toks → IsEnumOut h' e it ((i : Int) + 1) x s.heap.objs.size → KBw.IsBytesIter h' it b t (i + 1) →
      h'.get? s.heap.objs.size = some { cls := .type "tuple", data := .seq #[.int i u, x] } →
      (∀ b o, b ≠ e → b ≠ it → s.heap.get? b = some o → h'.get? b = some o) → Q (some (.ref s.heap.objs.size)) { s with heap := h', toks := s.toks + 1 + 1 }) :
    wpAny (model prog w) A (pyNext (.ref e)) Q E s := by
  have hT : s.TypeIs (.ref e) "enumerate" := ⟨_, he, rfl⟩
  unfold pyNext
  exact wpAny_bind (wpAny_attempt (wpAny_callSpecial?_slot (name := Str.ofString "__next__") hT F.slot_enumerate_next
    (wpAny_call_entry F.slot_enumerate_next hT F.entry_enumerate_next
      (enumB_next he hit hx hne fun h' x u a b c d k => wpAny_pure (hQ h' x u a b c d k)) (F.args_enumerate_next_1 _))))
theorem enumB_end {e it : Addr} {i : Nat} {old : Value} {Q : Option Value → Shared → Prop} (hh : A.handled = none)
    (he : IsEnum s.heap e it i old) (hit : KBw.IsBytesIter s.heap it b t i) (hx : b[i]? = none)
    (hQ : ∀ h', Heap.ExtBut it s.heap h' → Q none { s with heap := h' }) : wpAny (model prog w) A (pyNext (.ref e)) Q E s := by
  have hT : s.TypeIs (.ref e) "enumerate" := ⟨_, he, rfl⟩
  unfold pyNext
  refine wpAny_bind (wpAny_attempt (wpAny_callSpecial?_slot (name := Str.ofString "__next__") hT F.slot_enumerate_next
    (wpAny_call_entry F.slot_enumerate_next hT F.entry_enumerate_next ?_ (F.args_enumerate_next_1 _))))
  show wpAny _ _ (field (.ref e) 2 >>= _) _ _ _
  refine wpAny_bind (wpAny_field he rfl (x := .ref it) rfl ?_)
  refine wpAny_bind (by_next_end hh hit hx fun h' x he' hx' => ?_)
  obtain ⟨o, ho, hc⟩ := hx'
  refine wpAny_bind (wpAny_isInstance (T := "StopIteration") (b := true) ⟨o, ho, hc⟩ isSubtype_stop ?_)
  exact wpAny_pure (hQ _ he')
end
theorem walksEB {prog : Program} {w : World} {A : Around} (hh : A.handled = none) (e it : Addr) (hei : e ≠ it) (b : Array UInt8) (tb : Tok) :
    WalksT prog w A e [e, it] [e, it] b.size
      (fun i vals => ∃ t c u, b[i]? = some c ∧ vals = #[.int i t, .int (c.toNat : Int) u])
      (fun i h => (∃ old, IsEnum h e it i old) ∧ KBw.IsBytesIter h it b tb i)
      (fun i T h => (∃ x, IsEnumOut h e it ((i : Int) + 1) x T) ∧ KBw.IsBytesIter h it b tb (i + 1) ∧ T ≠ e ∧ T ≠ it) where
  sub := fun _ h => h
  frame := fun i h h' hst hk => by
    obtain ⟨⟨old, he⟩, ⟨o, ho, r⟩⟩ := hst
    exact ⟨⟨old, hk e (by simp) _ he⟩, o, hk it (by simp) o ho, r⟩
  item := fun i s Q E hi hst hQ => by
    obtain ⟨⟨old, he⟩, hit⟩ := hst
    have hx : b[i]? = some b[i] := Array.getElem?_eq_getElem hi
    refine enumB_pyNext he hit hx hei fun h' x u hxx ho hit' hT hk => ?_
    have helt : e < s.heap.objs.size := Heap.lt_size he
    have hilt : it < s.heap.objs.size := by obtain ⟨_, x, _⟩ := hit; exact Heap.lt_size x
    exact hQ s.heap.objs.size #[.int i u, x] h' (s.toks + 1 + 1) ⟨_, _, _, hx, by rw [hxx]⟩ (Nat.le_refl _) ⟨_, hT, rfl, _, rfl⟩
      ⟨⟨_, ho⟩, hit', Nat.ne_of_gt helt, Nat.ne_of_gt hilt⟩
      fun b o hb x => hk b o (fun e' => hb (by simp [e'])) (fun e' => hb (by simp [e'])) x
  go := fun elts k pos i T s Q E hm hQ => by
    obtain ⟨⟨x, ho⟩, hit, hTe, hTi⟩ := hm
    refine wpAny_letOwnedTupleGo_enum ho fun h' he' hs' => hQ h' ⟨⟨x, by simpa using he'⟩, ?_⟩ fun b o hb y => ?_
    · obtain ⟨o, ho, r⟩ := hit; exact ⟨o, (hs'.2 it hei.symm).trans ho, r⟩
    · exact (hs'.2 b fun e' => hb (by simp [e'])).trans y
  apart := fun i T h hm hT => by
    obtain ⟨_, _, hTe, hTi⟩ := hm
    rcases List.mem_cons.mp hT with rfl | hT
    · exact hTe rfl
    · rcases List.mem_cons.mp hT with rfl | hT
      · exact hTi rfl
      · cases hT
  done := fun s Q E hst hQ => by
    obtain ⟨⟨old, he⟩, hit⟩ := hst
    exact enumB_end hh he hit (Array.getElem?_eq_none (Nat.le_refl _)) fun h' hx => hQ h' s.toks fun b o hb y => hx b o (fun e' => hb (by simp [e'])) y
  self := fun i s Q E hst hQ => by
    obtain ⟨⟨old, he⟩, _⟩ := hst
    exact wpAny_pyIter_enum he hQ
theorem meets_enumB (b : Array UInt8) (t : Tok) :
    Meets (Builtin.«enumerate.__new__» ⟨[.type "enumerate", .bytes b t], []⟩) (fun _ R s =>
      R (.ok (.ret (.ref (s.heap.push { cls := .type "bytes_iterator", data := .fields #[.bytes b t, .int 0 0] }).objs.size)))
        { s with heap := (s.heap.push { cls := .type "bytes_iterator", data := .fields #[.bytes b t, .int 0 0] }).push { cls := .type "enumerate", data := .fields #[.none, .bool false, .ref s.heap.objs.size, rawInt 0, .none, .none] } }) :=
  .of_wp fun prog w A R s h => by
    obtain ⟨hp, g, d, tk, os⟩ := s
    have hsub := sub_enumerate
    wp_walk
    refine wpAny_stack_any fun st => wpAny_pure ?_
    split
    · rename_i c _ _ _ _ _
      cases (c == Value.type "enumerate")
      · wp_walk using KBw.pyIter_bytes
        exact ⟨_, rfl, h⟩
      · wp_walk using KBw.pyIter_bytes
        exact ⟨_, rfl, h⟩
    · wp_walk using KBw.pyIter_bytes
      exact ⟨_, rfl, h⟩

/-- a def with one name that is a cell -/
theorem does_ofC {f : Addr} {vs : List Value} {news : Led} {dn un0 : Nat} {post : Value → Led → Prop} {name qual : Str} {params : Arguments} {body : List Stmt} {scope : Scope} {dV kV doc pm cdv ct oc : Value} {an od : Option Addr} {osl : Array (Option Value)}
    (binds : List (Str × Value)) (cx : Str)
    (ho : ∀ w : World, (Mine.K w.params).lookup f = some ⟨oc, od, .func (fnOf name qual params body scope dV kV doc pm an cdv ct), osl⟩) (hcd : ∀ w : World, codeIn (Mine.K w.params) cdv qual = true)
    (hbind : ∀ s, BindsTo s (fnOf name qual params body scope dV kV doc pm an cdv ct) ⟨vs, []⟩ binds) (hloc : (binds.all fun y => scope.names.lookup y.1 == some .local) = true)
    (hcells : ∀ n, cellsFrom n scope.names [] = [(cx, n)]) (hfr : ∀ L', FrIs (bindL (envOfC qual scope L' f cdv).kindOf binds fun _ => none) binds) (hcm : ∀ L', bindC (envOfC qual scope L' f cdv).kindOf binds (fun _ => none) cx = none)
    (hco : scope.isCoroutine = false) (hgen : scope.isGenerator = false) (hk : scope.kind = .function)
    (hw : ∀ (c0 : Cx) (cc : Addr) (o : Obj) (u : Fm), let c : Cx := { c0 with cn := qual, cs := scope, a := f, ccd := cdv, cl := [(cx, cc)] }
      let qe : Flow → Shared → Prop := Ends c post
      let m : Fm := ov binds u
      Bd c dn un0 → (∀ p ∈ news, p.1 < cc) → o.data = .cell none → RunS c m ((cc, o) :: news) body qe) : Does f vs news dn un0 post := by
  intro c m h tk Q B F N hret
  obtain ⟨B, X, T, hE, hks, hdp, hun⟩ := B
  refine wpAny_call ?_
  refine callX_cells (env := c.env) (outer := c.outer) (s := c.at h tk) B F N T.nolimit rfl rfl hks ((X.keeps F.keep) _ _ (ho c.w)) rfl (codeRec_of (X.keeps F.keep) (hcd c.w)) (by show c.dp < recursionLimit; omega) (hbind _) (fun n x hx => .inl (eq_of_beq (List.all_eq_true.mp hloc x hx))) (by rw [hcells]; simp) (fun g L' h₁ tk₁ cells FG F' N' Y B' st hlt => ?_) hco hgen hk
  rw [hcells] at Y
  obtain ⟨o, rfl, hod⟩ := Y.one
  rw [hcm] at hod
  have envE : envOfC qual scope L' f cdv = envX qual scope L' f cdv [(cx, L' + 1)] := by
    show envX qual scope L' f cdv (cellsFrom (L' + 1) scope.names []) = _
    rw [hcells]
  rw [envE]
  rw [ov_eq (hfr L')] at F'
  let A' := ktrTop (c.dp + 1) (c.un + 3) c.gd qual scope L' f cdv [(cx, L' + 1)] (c.env :: c.outer)
  have hb := hw ⟨c.w, c.p, c.loose, c.mean, c.mg, c.mb, c.dp + 1, c.un + 3, c.gd, qual, scope, L', f, cdv, [(cx, L' + 1)], c.env :: c.outer, _, c.base, g,
    (fun e s' => wpAny c.M A' (leaving (envX qual scope L' f cdv [(cx, L' + 1)]) e) (fun _ s'' => c.E e s'') (fun e' s'' => c.E e' s'') s'), c.gs, c.dr, c.os⟩ (L' + 1) o _
    ⟨B', X.keeps st, T.keeps st, (by show PassesOwn _ A' (envX qual scope L' f cdv [(cx, L' + 1)]) _; passes_own), hk, by show c.dp + 1 + dn < _; omega, by show c.un + 3 + un0 < _; omega⟩ (fun p hp => Nat.lt_succ_of_lt (hlt p hp)) hod h₁ tk₁ F' N'
  refine wpAny_mono hb (fun fl s' he => ?_) (fun e s' he => he)
  obtain ⟨h', tk', m', news', rfl, Fh, Nh, hp⟩ := he
  exact ⟨L', m', news', Fh, Nh, fun F9 N9 => hret _ _ _ _ F9 N9 hp⟩
section
variable {c : Cx} {m : Fm} {news : Led} {e a b : PySem.Expr} {i j : Int} {P R T : Value → Prop} {pos px : Pos} {x y : Str} {v u : Value} {Q : Flow → Shared → Prop} {q : Value → Shared → Prop} {rest body orelse : List Stmt} {k dn un0 : Nat} {post post2 : Value → Led → Prop} {l : Addr} {us ws : List Value} {n : Nat} {t t2 : Tok} {cc : Addr} {o : Obj}
theorem g_cell (B : Bd c dn un0) (hcl : c.cl.lookup x = some cc) (hm : (cc, o) ∈ news) (hd : o.data = .cell (some v)) (hx : c.env.kindOf x = some .cell) (hb : (x == ("__debug__" : Str)) = false) : Gives c m news (.Name x pos) (· = v) :=
  fun h tk q F N hQ => nameX_C N hcl hm hd (hQ _ _ _ rfl F N) B.2.2.2.2.1 hx hb
theorem s_assignC (B : Bd c dn un0) (hg : Evals c m news e post) (hs : swapsWith e (some (.Name x px)) pos.line c.env = pure false) (hx : c.env.kindOf x = some .cell) (hcl : c.cl.lookup x = some cc)
    (hq : ∀ v n', post v n' → ∃ o v0 G, n' = (cc, o) :: G ∧ (∀ p ∈ G, p.1 ≠ cc) ∧ o.data = .cell v0 ∧ ∀ o', o'.data = .cell (some v) → RunS c m ((cc, o') :: G) rest Q) : RunS c m news (.Assign [.Name x px] e pos :: rest) Q := fun h tk F N => by
  refine wpAny_execs_cons (wpAny_Assign_Name (hg _ _ _ F N ?_) hs)
  intro v n' h1 tk' hv F N
  obtain ⟨o, v0, G, rfl, hG, hd, hr⟩ := hq v n' hv
  exact storeX_C (s := c.at h1 tk') F N hcl (UpdF.head hG) hd (fun h' o' F' N' hd' => hr o' hd' _ _ F' N') B.2.2.2.2.1 hx
/-- a while, by its state and what falls -/
def WEnd (c : Cx) {σ : Type} (ps : σ → List (Str × Value)) (led : σ → Led) (J : σ → Prop) (μ : σ → Nat) (n : Nat) (s₂ : Shared) : Prop :=
  ∃ h' tk m' news' s', s₂ = c.at h' tk ∧ c.Fr h' m' ∧ c.News h' news' ∧ (∀ p ∈ led s', p ∈ news') ∧ FrIs m' (ps s') ∧ J s' ∧ μ s' < n
def WPost (c : Cx) {σ : Type} (ps : σ → List (Str × Value)) (led : σ → Led) (J : σ → Prop) (μ : σ → Nat) (n : Nat) (Q : Flow → Shared → Prop) (f : Flow) (s₂ : Shared) : Prop :=
  match f with
  | .ret v => Q (.ret v) s₂
  | .brk => Q .next s₂
  | _ => WEnd c ps led J μ n s₂
theorem s_wend {σ : Type} {ps : σ → List (Str × Value)} {led : σ → Led} {J : σ → Prop} {μ : σ → Nat} {n : Nat} (s : σ) (hn : ∀ p ∈ led s, p ∈ news) (hm : FrIs m (ps s)) (hj : J s) (hμ : μ s < n) : RunS c m news [] (WPost c ps led J μ n Q) := fun h tk F N =>
  wpAny_execs_nil (show WEnd c ps led J μ n _ from ⟨h, tk, m, news, s, rfl, F, N, hn, hm, hj, hμ⟩)
theorem s_whileS {σ : Type} (ps : σ → List (Str × Value)) (led : σ → Led) (J : σ → Prop) (μ : σ → Nat) (s0 : σ) (B : Bd c dn un0) (hm : FrIs m (ps s0)) (hj : J s0)
    (turn : ∀ (s : σ) u, J s →
      let mt : Fm := ov (ps s) u
      let nt : Led := led s
      let qw : Flow → Shared → Prop := WPost c ps led J μ (μ s) (Then c rest Q)
      ∃ b, Tests c mt nt e b ∧ (b = true → RunS c mt nt body qw) ∧ (b = false → RunS c mt nt rest Q)) :
    RunS c m (led s0) (.While e body [] pos :: rest) Q := fun h tk F N => by
  refine wpAny_execs_cons (While_inv2 (h₀ := c.g) (L := c.L) (s := c.at h tk) (fun n m nx => ∃ s, nx = led s ∧ μ s = n ∧ FrIs m (ps s) ∧ J s) F N ⟨s0, rfl, rfl, hm, hj⟩ ?_ B.2.2.2.1)
  rintro n m₁ nx h₁ tk₁ F₁ N₁ ⟨s, rfl, rfl, hm₁, hj₁⟩
  rw [ov_eq hm₁] at F₁
  obtain ⟨b, ht, h1, h2⟩ := turn s m₁ hj₁
  refine ht _ _ _ F₁ N₁ fun h2' tk2 F2 N2 => ?_
  cases b with
  | false =>
    simp only [Bool.false_eq_true, if_false]
    exact h2 rfl _ _ F2 N2
  | true =>
    simp only [if_true]
    refine wpAny_mono (h1 rfl _ _ F2 N2) (fun f s₃ q => ?_) fun _ _ x => x
    have fin : WEnd c ps led J μ (μ s) s₃ → ∃ h' tk' m' nx' n', s₃ = c.at h' tk' ∧ c.Fr h' m' ∧ c.News h' nx' ∧ n' < μ s ∧ (∃ s, nx' = led s ∧ μ s = n' ∧ FrIs m' (ps s) ∧ J s) := by
      rintro ⟨h', tk', m', news', s', rfl, F', N', hn, hm', hj', hμ⟩
      exact ⟨h', tk', m', led s', μ s', rfl, F', news_sub N' hn, hμ, s', rfl, rfl, hm', hj'⟩
    cases f with
    | ret v => exact q
    | brk => exact q
    | next => exact fin q
    | cont => exact fin q
/-- a loop over a list of pairs, its state told -/
theorem it_pairsS {σ : Type} {o t : Str} {op tp xp : Pos} {kk : Nat} {vs : List Value} {nn : Nat} {keep : Led} (ps : σ → List (Str × Value)) (led : σ → Led) (J : Nat → σ → Prop) (PP : Nat → Value → Value → Prop) (s0 : σ) (B : Bd c dn un0)
    (hl : (l, listOf vs.toArray nn) ∈ keep) (hd : ∀ i v, vs[i]? = some v → ∃ a u w k, v = .ref a ∧ (a, tupO [u, w] k) ∈ keep ∧ PP i u w) (hkeep : ∀ s, ∀ p ∈ keep, p ∈ led s) (hm : FrIs m (ps s0)) (hj : J 0 s0)
    (ho : c.env.kindOf o = some .local) (ht : c.env.kindOf t = some .local)
    (turn : ∀ i (s : σ) u I ob x y, ob.cls = .type "list_iterator" → PP i x y → J i s → (∀ p ∈ led s, p.1 ≠ I) →
      let qt : Flow → Shared → Prop := TurnPost c (TurnS c ps led (J (i + 1))) (I, ob) (Then c rest Q)
      let mt : Fm := upd (upd (ov (ps s) u) o x) t y
      let nt : Led := led s ++ [(I, ob)]
      RunS c mt nt body qt)
    (done : ∀ s u, J vs.length s →
      let mt : Fm := ov (ps s) u
      let nt : Led := led s
      RunS c mt nt rest Q) :
    IterS c m (led s0) (.ref l) (.Tuple [.Name o op, .Name t tp] kk xp) body rest Q := fun h tk F N => by
  refine my_list (fun i => TurnS c ps led (J i)) (hkeep _ _ hl) (fun i m nx hJ => by obtain ⟨s, rfl, _⟩ := hJ; exact hkeep s _ hl) F N ⟨s0, rfl, hm, hj⟩ ?_ ?_
  · rintro I hI i v m₁ nx h tk ob hcl hv ⟨s, rfl, hm₁, hj₁⟩ hnx F₁ N₁
    obtain ⟨a, x, y, k, rfl, ha, hP⟩ := hd i v hv
    refine unpackN_ F₁ N₁ (News.isTup N₁ (List.mem_append.mpr (.inl (hkeep s _ ha)))) rfl rfl rfl fun h' F2 N2 => ?_
    refine wpAny_assignInOrder_more (wpAny_assign_Name (wpAny_storeName_local ho F2.ns (fun h3 hn3 hs3 => ?_) (st_loc B)))
    refine wpAny_assignInOrder_more (wpAny_assign_Name (wpAny_storeName_local ht hn3 (fun h4 hn4 hs4 => ?_) (st_loc B)))
    refine wpAny_assignInOrder_none ?_
    have hr := turn i s m₁ I ob x y hcl hP hj₁ hnx h4
    rw [← ov_eq hm₁] at hr
    exact hr _ ((F2.set hn3 hs3).set hn4 hs4) ((N2.set hs3).set hs4)
  · rintro m₁ nx h tk ⟨s, rfl, hm₁, hj₁⟩ F₁ N₁
    have hr := done s m₁ hj₁
    rw [← ov_eq hm₁] at hr
    exact hr _ _ F₁ N₁
end

abbrev byIter (b : Array UInt8) (t : Tok) : Obj := { cls := .type "bytes_iterator", data := .fields #[.bytes b t, .int 0 0] }
abbrev enumObj (I : Addr) : Obj := { cls := .type "enumerate", data := .fields #[.none, .bool false, .ref I, rawInt 0, .none, .none] }
section
variable {c : Cx} {target : PySem.Expr} {body : List Stmt} {Q : Flow → Shared → Prop} {h : Heap} {tk : Nat}
def TurnEndL (c : Cx) (J : Fm → Led → Prop) (own : Led) (s₂ : Shared) : Prop :=
  ∃ h' tk m' news' nx, s₂ = c.at h' tk ∧ c.Fr h' m' ∧ c.News h' news' ∧ (∀ p ∈ nx, p ∈ news') ∧ (∀ q ∈ own, q ∈ news') ∧ (∀ p ∈ nx, ∀ q ∈ own, p.1 ≠ q.1) ∧ J m' nx
def TurnPostL (c : Cx) (J : Fm → Led → Prop) (own : Led) (Q : Flow → Shared → Prop) (f : Flow) (s₂ : Shared) : Prop :=
  match f with
  | .ret v => Q (.ret v) s₂
  | .brk => Q .next s₂
  | _ => TurnEndL c J own s₂
/-- a loop whose iterator is some objects -/
theorem my_coreL {I : Addr} {as : List Addr} {n : Nat} {P Md : Nat → Value → Heap → Prop} {St : Nat → Heap → Prop} {m₀ : Fm} {news : Led} (J : Nat → Fm → Led → Prop)
    (W : KTurns PySem.Challenge.rw_sa0569_01.row.prog c.w c.A target I as as n P Md St) (hnew : ∀ b ∈ as, c.g.get? b = none) (hob : ∀ i h, St i h → ∀ b ∈ as, ∃ o, h.get? b = some o)
    (hLf : c.L ∉ as) (hnw : ∀ p ∈ news, p.1 ∉ as) (hst : St 0 h) (F : c.Fr h m₀) (N : c.News h news) (hj : J 0 m₀ news)
    (turn : ∀ i v m₁ nx h tk own, i < n → P i v h → J i m₁ nx → (∀ p ∈ nx, ∀ q ∈ own, p.1 ≠ q.1) → c.Fr h m₁ → c.News h (nx ++ own) →
      wpAny c.M c.A (assign target c.env v) (fun _ s₃ => wpAny c.M c.A (execs body c.env) (TurnPostL c (J (i + 1)) own Q) c.E s₃) c.E (c.at h tk))
    (done : ∀ m₁ nx h tk, J n m₁ nx → c.Fr h m₁ → c.News h nx → Q .next (c.at h tk)) :
    TurnsAt PySem.Challenge.rw_sa0569_01.row.prog c.w c.A c.g c.env target body Q c.E (.ref I) (c.at h tk) := by
  refine ⟨I, as, as, n, P, Md, St, m₀, news, J, rfl, W, hLf, hnew, hnw, hst, F, N, hj, ?_, ?_⟩
  · intro i v m₁ nx h₁ tk₁ own hi hP hJ hnx hown hget hmem hst₁ F₁ N₁
    have N₂ : c.News h₁ (nx ++ own) := fun p hp => N₁ p ((List.mem_append.mp hp).elim (fun h => List.mem_append.mpr (.inr h)) fun h => List.mem_append.mpr (.inl h))
    have hne : ∀ p ∈ nx, ∀ q ∈ own, p.1 ≠ q.1 := fun p hp q hq e => hnx p hp (e ▸ hown q hq)
    refine wpAny_mono (turn i v m₁ nx h₁ tk₁ own hi hP hJ hne F₁ N₂) (fun _ s₃ h₃ => wpAny_mono h₃ (fun f s₂ p => ?_) fun _ _ e => e) fun _ _ e => e
    have fin : TurnEndL c (J (i + 1)) own s₂ → LoopStepU c.g c.env.locals as own (J (i + 1)) { c.at h tk with heap := h₁, toks := tk₁ } .next s₂ := by
      rintro ⟨h', tk, m', news', nx', rfl, F', N', hn, hi', ha, hm⟩
      refine ⟨rfl, h', tk, m', nx', rfl, F', fun p hp => ?_, fun p hp hq => ?_, hm⟩
      · rcases List.mem_append.mp hp with h | h
        · exact N' p (hi' p h)
        · exact N' p (hn p h)
      · obtain ⟨o, ho⟩ := hob _ _ hst₁ p.1 hq
        exact ha p hp _ (hmem p.1 hq (hnew p.1 hq) o ho) rfl
    cases f with
    | ret v => exact .ret p
    | brk => exact .brk p
    | next => exact .next (fin p)
    | cont => exact .cont (fin p)
  · intro h' tk m' news' F' N' _ hJ
    exact done m' news' h' tk hJ F' N'
end
section
variable {c : Cx} {m : Fm} {news : Led} {e a b : PySem.Expr} {i j : Int} {P R T : Value → Prop} {pos px : Pos} {x y : Str} {v u : Value} {Q : Flow → Shared → Prop} {q : Value → Shared → Prop} {rest body orelse : List Stmt} {k dn un0 : Nat} {post post2 : Value → Led → Prop} {l : Addr} {us ws : List Value} {n : Nat} {t t2 : Tok} {cc : Addr} {o : Obj} {d : Array UInt8}
theorem c_enumB : Calls c m news (.type "enumerate") [.bytes d t] (fun r n' => ∃ I E, r = .ref E ∧ n' = news ++ [(I, byIter d t), (E, enumObj I)] ∧ (∀ p ∈ news, p.1 < I) ∧ I < E) := fun h tk q F1 N1 hq => by
  refine callType_new F.called_enumerate (by decide) (F.typeCall_enumerate_1 _) (F.newCall_enumerate_1 _) (fun obj => F.args_object_init_2 obj _) F.entry_enumerate_new (meets_enumB d t) ?_
  have N2 := (News.push F1 N1 (byIter d t)).push (F1.push _) (enumObj h.objs.size)
  refine ⟨⟨_, Heap.get?_push_size _ rfl, rfl⟩, ?_⟩
  refine hq _ _ _ _ ⟨h.objs.size, (h.push (byIter d t)).objs.size, rfl, rfl, fun p hp => Heap.lt_size (N1 p hp).1, by rw [Heap.size_push]; exact Nat.lt_succ_self _⟩ ((F1.push _).push _) ?_
  intro p hp
  refine N2 p ?_
  simp only [List.mem_append, List.mem_cons, List.not_mem_nil, or_false] at hp ⊢
  rcases hp with h | h | h
  · exact .inr (.inr h)
  · exact .inr (.inl h)
  · exact .inl h
theorem s_turnL {σ : Type} {ps : σ → List (Str × Value)} {led : σ → Led} {J : σ → Prop} {own : Led} (s : σ) (hn : ∀ p ∈ led s, p ∈ news) (hi : ∀ q ∈ own, q ∈ news) (ha : ∀ p ∈ led s, ∀ q ∈ own, p.1 ≠ q.1) (hm : FrIs m (ps s)) (hj : J s) : RunS c m news [] (TurnPostL c (TurnS c ps led J) own Q) := fun h tk F N =>
  wpAny_execs_nil (show TurnEndL c _ own _ from ⟨h, tk, m, news, led s, rfl, F, N, hn, hi, ha, s, rfl, hm, hj⟩)
/-- a loop over enumerate of bytes, its state told -/
theorem it_enumBS {σ : Type} {o t : Str} {op tp xp : Pos} {kk : Nat} {tb : Tok} {I1 E1 : Addr} (ps : σ → List (Str × Value)) (led : σ → Led) (J : Nat → σ → Prop) (s0 : σ) (B : Bd c dn un0)
    (hI : ∀ p ∈ led s0, p.1 < I1) (hE : I1 < E1) (hm : FrIs m (ps s0)) (hj : J 0 s0) (ho : c.env.kindOf o = some .local) (ht : c.env.kindOf t = some .local)
    (turn : ∀ i (s : σ) u own (cb : UInt8) u1 u2, d[i]? = some cb → J i s → (∀ p ∈ led s, ∀ q ∈ own, p.1 ≠ q.1) →
      let qt : Flow → Shared → Prop := TurnPostL c (TurnS c ps led (J (i + 1))) own (Then c rest Q)
      let mt : Fm := upd (upd (ov (ps s) u) o (.int i u1)) t (.int (cb.toNat : Int) u2)
      let nt : Led := led s ++ own
      RunS c mt nt body qt)
    (done : ∀ s u, J d.size s →
      let mt : Fm := ov (ps s) u
      let nt : Led := led s
      RunS c mt nt rest Q) :
    IterS c m (led s0 ++ [(I1, byIter d tb), (E1, enumObj I1)]) (.ref E1) (.Tuple [.Name o op, .Name t tp] kk xp) body rest Q := fun h tk F N => by
  have hi : (I1, byIter d tb) ∈ led s0 ++ [(I1, byIter d tb), (E1, enumObj I1)] := sub_r _ (.head _)
  have he : (E1, enumObj I1) ∈ led s0 ++ [(I1, byIter d tb), (E1, enumObj I1)] := sub_r _ (.tail _ (.head _))
  have hne : E1 ≠ I1 := Nat.ne_of_gt hE
  refine wpAny_pyIter_enum (show IsEnum h E1 I1 0 .none from (N _ he).1) ?_
  refine my_coreL (as := [E1, I1]) (m₀ := m) (news := led s0) (fun i => TurnS c ps led (J i)) (KTurns.ofWalksU (walksEB (prog := PySem.Challenge.rw_sa0569_01.row.prog) (w := c.w) (A := c.A) rfl E1 I1 hne d tb).toU) ?_ ?_ ?_ ?_ ?_ F (news_sub N sub_l) ⟨s0, rfl, hm, hj⟩ ?_ ?_
  · intro b hb
    rcases List.mem_cons.mp hb with rfl | hb
    · exact (N _ he).2.2
    · rw [List.mem_singleton.mp hb]; exact (N _ hi).2.2
  · rintro i h ⟨⟨old, h1⟩, ⟨o, h2, _⟩⟩ b hb
    rcases List.mem_cons.mp hb with rfl | hb
    · exact ⟨_, h1⟩
    · rw [List.mem_singleton.mp hb]; exact ⟨_, h2⟩
  · intro hb
    rcases List.mem_cons.mp hb with e | hb
    · exact (N _ he).2.1 e.symm
    · exact (N _ hi).2.1 (List.mem_singleton.mp hb).symm
  · intro p hp hb
    rcases List.mem_cons.mp hb with e | hb
    · exact absurd (hI p hp) (by rw [e]; exact Nat.not_lt.mpr (Nat.le_of_lt hE))
    · exact absurd (hI p hp) (by rw [List.mem_singleton.mp hb]; exact Nat.lt_irrefl _)
  · exact ⟨⟨_, (N _ he).1⟩, ⟨_, (N _ hi).1, rfl, rfl⟩⟩
  · rintro i v m₁ nx h tk own hi ⟨T, vals, rfl, ⟨u1, cb, u2, hcb, rfl⟩, hT⟩ ⟨s, rfl, hm₁, hj₁⟩ hnx F₁ N₁
    refine unpackN_ F₁ N₁ (show IsTup h T #[.int i u1, .int (cb.toNat : Int) u2] from hT) rfl rfl rfl fun h' F2 N2 => ?_
    refine wpAny_assignInOrder_more (wpAny_assign_Name (wpAny_storeName_local ho F2.ns (fun h3 hn3 hs3 => ?_) (st_loc B)))
    refine wpAny_assignInOrder_more (wpAny_assign_Name (wpAny_storeName_local ht hn3 (fun h4 hn4 hs4 => ?_) (st_loc B)))
    refine wpAny_assignInOrder_none ?_
    have hr := turn i s m₁ own cb u1 u2 hcb hj₁ hnx h4
    rw [← ov_eq hm₁] at hr
    exact hr _ ((F2.set hn3 hs3).set hn4 hs4) ((N2.set hs3).set hs4)
  · rintro m₁ nx h tk ⟨s, rfl, hm₁, hj₁⟩ F₁ N₁
    have hr := done s m₁ hj₁
    rw [← ov_eq hm₁] at hr
    exact hr _ _ F₁ N₁
/-! a dict of ints -/
abbrev IntD (c : Cx) (o : Obj) (kvs : List (Int × Value)) : Prop := o.IsDictOf (PySem.intKind PySem.Challenge.rw_sa0569_01.row.prog c.w) kvs
theorem ev_dict0 (B : Bd c dn un0) : Evals c m news (.Dict [] [] pos) (fun r n' => ∃ D o, r = .ref D ∧ n' = news ++ [(D, o)] ∧ (∀ p ∈ news, p.1 < D) ∧ (D == sysModules) = false ∧ IntD c o []) := fun h tk q F N hq =>
  newDict_K (s := c.at h tk) F N B.2.2.1.nolimit fun D h' o F' N' hD hs _ _ hd _ => hq _ _ _ _ ⟨D, o, rfl, rfl, hD, hs, hd⟩ F' (ktn_tl1 N')
theorem s_setD {kvs : List (Int × Value)} {D : Addr} {od : Obj} {o : PySem.Expr} {sp : Pos} {G : Led} (hg : Gives c m ((D, od) :: G) e P) (ho : Gives c m ((D, od) :: G) o (· = .ref D)) (ha : Gives c m ((D, od) :: G) a (IsI i)) (hG : ∀ p ∈ G, p.1 ≠ D) (hd : IntD c od kvs) (hz : kvs.length ≤ 1000)
    (hs : swapsWith e (some (.Subscript o a sp)) pos.line c.env = pure false) (hq : ∀ v od', P v → IntD c od' (stored kvs i v) → RunS c m ((D, od') :: G) rest Q) : RunS c m ((D, od) :: G) (.Assign [.Subscript o a sp] e pos :: rest) Q := fun h tk F N => by
  refine wpAny_execs_cons (wpAny_Assign_Subscript (hg _ _ _ F N ?_) hs)
  intro v h tk hv F N
  refine ho _ _ _ F N ?_
  rintro w h tk rfl F N
  refine ha _ _ _ F N ?_
  rintro w h tk ⟨t', rfl⟩ F N
  exact kda_set (s := c.at h tk) F N (UpdF.head hG) hd (by show Value.isInt i (.int i t') = true; simp [Value.isInt]) (by rw [sizeLine_eq]; omega) fun h' od' F' N' hd' => hq v od' hv hd' h' _ F' N'
theorem c_lenD {kvs : List (Int × Value)} {D : Addr} {od : Obj} (hD : (D, od) ∈ news) (hd : IntD c od kvs) (lo : (D == sysModules) = false) (hz : kvs.length ≤ 1000) : Calls c m news (.builtin "len") [.ref D] (Pure news (IsI kvs.length)) := fun h tk q F N hq =>
  kda_len (s := c.at h tk) N hD hd lo (by omega) (hq _ _ _ _ ⟨⟨_, rfl⟩, rfl⟩ F N)
/-- bytes made of a list of ints -/
theorem c_bytesL {vs : List Value} {ns : List Int} (hl : (l, listOf vs.toArray n) ∈ news) (hi : IntsAre vs ns) (hr : KBa.In ns) (hn : ns.length ≤ 1000) : Calls c m news (.type "bytes") [.ref l] (Pure news (IsB (byteArr ns))) := fun h tk q F N hq =>
  KBa.make_K (s := c.at h tk) F N rfl ⟨_, (N _ hl).1, rfl, n, rfl⟩ hi hr (by omega) fun h' t' k F' N' _ => hq _ _ _ _ ⟨⟨t', rfl⟩, rfl⟩ F' N'
abbrev rangeO (n : Int) (t u v : Tok) : Obj := { cls := .type "range", data := .fields #[.int 0 t, .int n u, .int 1 v] }
theorem c_range1 : Calls c m news (.type "range") [.int i t] (fun r n' => ∃ D u v, r = .ref D ∧ n' = news ++ [(D, rangeO i u t v)] ∧ ∀ p ∈ news, p.1 < D) := fun h tk q F N hq =>
  call_range_1 (s := c.at h tk) (hq _ _ _ _ ⟨_, tk, tk + 1, rfl, rfl, fun p hp => Heap.lt_size (N p hp).1⟩ (F.push _) (ktn_tl1 (N.push F _)))
/-- came[at] for at in a range -/
theorem ev_compD {x y : Str} {py px1 px2 sp cpos : Pos} {scope : Scope} {cl : List (Str × Addr)} {iter : PySem.Expr} {kvs : List (Int × Value)} {Dm : Addr} {oc od : Obj} {N : Nat} (g : Int → Int)
    (hit : Evals c m news iter (fun r n' => ∃ D u v w, r = .ref D ∧ n' = news ++ [(D, rangeO N u v w)] ∧ ∀ p ∈ news, p.1 < D)) (hN : N ≤ 1000)
    (hclos : closureFor scope c.env = pure cl) (hcell : ∀ y ∈ scope.names, y.2 ≠ .cell) (hkind : scope.kind = .function) (hnames : ∀ y ∈ scope.names, y.2 = .local → scope.names.lookup y.1 = some .local) (hx : scope.names.lookup x = some .local) (hy : ∀ C, (compEnvC scope cl C c.env).kindOf y = some .cell) (hx2 : ∀ C, (compEnvC scope cl C c.env).kindOf x = some .local)
    (hyd : (y == ("__debug__" : Str)) = false) (hxd : (x == ("__debug__" : Str)) = false)
    (hcl : cl.lookup y = some cc) (hcc : (cc, oc) ∈ news) (hod : oc.data = .cell (some (.ref Dm))) (hD : (Dm, od) ∈ news) (hd : IntD c od kvs) (hv : ∀ k : Int, 0 ≤ k → k < N → ∃ t, valueAt kvs k = some (.int (g k) t))
    (hs : ∀ x, foldedSetIterable iter c.env x = pure x) (hsub : ∀ (C : Addr) (i : Int) (u : Tok), subscripted (.Name x px1) false (.ref Dm) (.int i u) = operate [.ref Dm, .int i u] (getItem (.ref Dm) (.int i u))) (hlt : ∀ r, letTemporaryGo (.Name y py) (.ref Dm) r = pure ()) :
    Evals c m news (.ListComp (.Subscript (.Name y py) (.Name x px1) sp) [⟨.Name x px2, iter, [], 0⟩] scope cpos) (fun r n' => ∃ D ys, r = .ref D ∧ n' = (D, listOf ys.toArray ys.length) :: news ∧ IntsAre ys ((rangeKs 0 N).map g)) := fun h tk q F N1 hq => by
  refine LCg.ListComp_U (s := c.at h tk) F hclos hcell hkind hnames hx (hit _ _ _ F N1 ?_) hs
  rintro r n' h1 tk1 ⟨D, u, v, w, rfl, rfl, hDn⟩ F1 N2
  refine LCg.CompSrc.range (s₁ := c.at h1 tk1) (a := 0) (b := N) (n := N) rfl F1 (news_sub N2 sub_l) (show IsRange h1 D 0 N 1 u v w from (N2 _ (sub_r _ (.head _))).1) (small_one (by decide) (by decide) (by omega) (by omega)) (by rw [rangeSize_one]; split <;> omega) (by rw [sizeLine_eq]; omega) fun h2 => ?_
  refine kcf_range (a := 0) g ?_ ?_
  · intro k t I oI C oC D2 m₂ ys h3 tk3 E' hk0 hk1 hC hm2 F3 N3 off ne _
    have he : eval (.Subscript (.Name y py) (.Name x px1) sp) (compEnvC scope cl C c.env) = (do let ov ← eval (.Name y py) (compEnvC scope cl C c.env); let iv ← holding [ov] (eval (.Name x px1) (compEnvC scope cl C c.env)); standAt sp; subscriptTail (.Name y py) (.Name x px1) ov iv) := eval_Subscript ..
    rw [he]
    refine wpAny_bind (lcf_cell N3 hcl (.tail _ (.tail _ (.tail _ hcc))) hod ?_ (by show (compEnvC scope cl C c.env).scope.kind = .function; exact hkind) (hy C) hyd)
    refine wpAny_bind (wpAny_holding ?_)
    refine wpAny_Name (wpAny_loadName_local (v := .int k t) (m := m₂) hkind (hx2 C) (hC.ns (N3 _ (.tail _ (.head _))).1) hm2 ?_) hxd
    refine wpAny_bind (wpAny_standAt ?_)
    obtain ⟨t5, hv5⟩ := hv k hk0 (by omega)
    refine kda_item (s := c.at h3 tk3) N3 (.tail _ (.tail _ (.tail _ hD))) hd (by show Value.isInt k (.int k t) = true; simp [Value.isInt]) hv5 ?_ (hsub C k t) hlt
    exact LCg.CompEnd.intro (tk := tk3 + 1) F3 N3 news (fun p hp => hp) off trivial ⟨rfl, t5, rfl⟩
  · intro ys hys D2 h3 tk3 F3 N3 _
    exact hq _ _ h3 tk3 ⟨D2, ys, rfl, rfl, hys⟩ F3 N3
end

section
variable {c : Cx} {m : Fm} {news : Led} {e a b : PySem.Expr} {i j : Int} {P R T : Value → Prop} {pos px : Pos} {x y : Str} {v u : Value} {Q : Flow → Shared → Prop} {q : Value → Shared → Prop} {rest body orelse : List Stmt} {k dn un0 : Nat} {post post2 : Value → Led → Prop} {l : Addr} {us ws : List Value} {n : Nat} {t t2 : Tok} {cc : Addr} {o : Obj} {d : Array UInt8}
theorem g_byc {l : List UInt8} : Gives c m news (.Constant (.bytes l) k pos) (IsB l.toArray) := fun h tk q F N hQ => by
  walk1
  exact hQ _ _ _ ⟨_, rfl⟩ F N
theorem g_pow40 {k2 : Nat} {p2 : Pos} : Gives c m news (.BinOp (.Constant (.int 2) k px) .Pow (.Constant (.int 40) k2 p2) pos) (IsI 1099511627776) := fun h tk q F N hQ => by
  refine wpAny_BinOp (g_int (c := c) (m := m) (news := news) _ _ _ F N ?_)
  rintro v h tk ⟨t, rfl⟩ F N
  refine g_int (c := c) (m := m) (news := news) _ _ _ F N ?_
  rintro v h tk ⟨t', rfl⟩ F N
  walk1
  exact hQ _ _ _ ⟨_, rfl⟩ F N
theorem c_w (h : Calls c m news v us post) (hw : ∀ r n, post r n → post2 r n) : Calls c m news v us post2 := fun h0 tk q F N hq => h h0 tk q F N fun r n h' tk' hp => hq r n h' tk' (hw r n hp)
/-- bytes cut from their start -/
theorem g_sliceB0 {sp : Pos} (hg : Gives c m news e (IsB d)) (hb : Evals c m news b post) (hp : ∀ r n', post r n' → ∃ i, IsI i r) (hz : d.size ≤ 1000)
    (hs : ∀ (t : Tok) (A : Addr), subscripted (.Slice none (some b) none sp) false (.bytes d t) (.ref A) = operate [.ref A, .bytes d t] (getItem (.bytes d t) (.ref A))) (ht : ∀ (t : Tok) r, letTemporaryGo e (.bytes d t) r = pure ()) :
    Evals c m news (.Subscript e (.Slice none (some b) none sp) pos) (fun r n' => ∃ d' r', IsB d' r ∧ d'.size ≤ d.size ∧ post r' n' ∧ ∃ i, IsI i r' ∧ d' = KBy.picked d none (some i)) := fun h0 tk q F N hQ => by
  walk1
  refine hg _ _ _ F N ?_
  rintro v h0 tk ⟨t, rfl⟩ F N
  walk1
  walk1
  walk1
  refine hb _ _ _ F N ?_
  rintro v n' h0 tk hv F N
  obtain ⟨i, t1, rfl⟩ := hp v n' hv
  walk1
  exact KBc.slice_K (s := c.at h0 tk) F N rfl .none (.int _ _) (by rw [KBw.ints_length]; omega) (fun h' t' k F' N' _ => hQ _ _ _ _ ⟨_, _, ⟨t', rfl⟩, KBc.size_picked_le _ _ _, hv, i, ⟨t1, rfl⟩, rfl⟩ F' N') (hs _ _) (ht _)
/-- a list that stood before, cut to forty, anew -/
theorem ev_cut40 {sl : Addr} {ns : List Int} {kk : Nat} {sp : Pos} (hg : Gives c m news e (· = .ref sl)) (hl : c.g.IsList sl us.toArray) (hi : IntsAre us ns) (hz : ns.length ≤ 1000)
    (hs : ∀ A : Addr, subscripted (.Slice none (some (.Constant (.int 40) kk px)) none sp) false (.ref sl) (.ref A) = operate [.ref A, .ref sl] (getItem (.ref sl) (.ref A))) (hg2 : ∀ r, letTemporaryGo e (.ref sl) r = pure ()) :
    Evals c m news (.Subscript e (.Slice none (some (.Constant (.int 40) kk px)) none sp) pos) (fun r n' => ∃ D vs, r = .ref D ∧ n' = news ++ [(D, listOf vs.toArray 0)] ∧ IntsAre vs (ns.take 40) ∧ ∀ p ∈ news, p.1 < D) := fun h0 tk q F N hQ => by
  walk1
  refine hg _ _ _ F N ?_
  rintro v h0 tk rfl F N
  walk1
  walk1
  walk1
  walk1
  walk1
  have hll : h0.IsList sl us.toArray := hl.at fun o e => F.keep _ _ e
  refine kmk_slice_ints (s := c.at h0 (tk + 1)) (lo := none) (hi := some 40) F N hll .none (.int _ _) hi (kmk_upto hi (by decide)) rfl ?_ (hs _) hg2 (by rw [List.size_toArray, hi.length, sizeLine_eq]; omega)
  intro D vs h' F' N' hD hv _ _
  exact hQ _ _ _ _ ⟨D, vs, rfl, rfl, hv, hD⟩ F' (ktn_tl1 N')
end

section
variable {c : Cx} {m : Fm} {news : Led} {e a b : PySem.Expr} {i j : Int} {P R T : Value → Prop} {pos px : Pos} {x y : Str} {v u : Value} {Q : Flow → Shared → Prop} {q : Value → Shared → Prop} {rest body orelse : List Stmt} {k dn un0 : Nat} {post post2 : Value → Led → Prop} {l : Addr} {us ws : List Value} {n : Nat} {t t2 : Tok} {cc : Addr} {o : Obj} {d : Array UInt8}
/-- a loop over a range, its state told -/
theorem it_rangeS {σ : Type} {R : Addr} {n : Nat} {tu tv tw : Tok} {keep : Led} (ps : σ → List (Str × Value)) (led : σ → Led) (J : Nat → σ → Prop) (s0 : σ) (B : Bd c dn un0) (hn : n ≤ 1000)
    (hR : (R, rangeO n tu tv tw) ∈ news) (hsub : ∀ p ∈ led s0, p ∈ news) (hm : FrIs m (ps s0)) (hj : J 0 s0) (hx : c.env.kindOf x = some .local)
    (turn : ∀ i (s : σ) u I ob t, i < n → ob.cls = .type "range_iterator" → J i s → (∀ p ∈ led s, p.1 ≠ I) →
      let qt : Flow → Shared → Prop := TurnPost c (TurnS c ps led (J (i + 1))) (I, ob) (Then c rest Q)
      let mt : Fm := upd (ov (ps s) u) x (.int (i : Int) t)
      let nt : Led := led s ++ [(I, ob)]
      RunS c mt nt body qt)
    (done : ∀ s u, J n s →
      let mt : Fm := ov (ps s) u
      let nt : Led := led s
      RunS c mt nt rest Q) :
    IterS c m news (.ref R) (.Name x px) body rest Q := fun h tk F N => by
  refine wpAny_pyIter_range (s := c.at h tk) (show IsRange h R 0 n 1 tu tv tw from (N _ hR).1) (small_one (by decide) (by decide) (by omega) (by omega)) ?_
  have hsz : Builtin.Range.rangeSize 0 (n : Int) 1 = (n : Int) := by rw [rangeSize_one]; split <;> omega
  rw [hsz]
  have W := KTurns.ofWalks (target := .Name x px) (LCg.range_walks (prog := PySem.Challenge.rw_sa0569_01.row.prog) (w := c.w) (A := c.A) (I := h.objs.size) rfl 0 n) fun i v s Q E st q => wpAny_pure q
  refine my_core "range_iterator" (keep := []) (m₀ := m) (news := led s0) (fun i => TurnS c ps led (J i)) W (.head _) (next_is_new F) ?_ ?_ (fun _ _ _ _ _ h => nomatch h) ?_ ?_ ?_ (F.push _) (fun p hp => ⟨Heap.get?_push_of_some _ (N p (hsub p hp)).1, (N p (hsub p hp)).2⟩) ⟨s0, rfl, hm, hj⟩ ?_ ?_
  · intro i h st; exact ⟨_, st, rfl⟩
  · intro b hb; exact .inl (List.mem_singleton.mp hb)
  · intro hm; exact absurd F.ns.lt (by rw [List.mem_singleton.mp hm]; exact Nat.lt_irrefl _)
  · intro p hp e; exact absurd (Heap.lt_size (N p (hsub p hp)).1) (e ▸ Nat.lt_irrefl _)
  · show IsRangeIter _ _ _ _ _
    simpa using Heap.get?_push_size h rfl
  · rintro i v m₁ nx h₁ tk₁ ob hcl hi ⟨t, rfl⟩ ⟨s, rfl, hm₁, hj₁⟩ hnx F₁ N₁
    refine wpAny_assign_Name (wpAny_storeName_local hx F₁.ns (fun h3 hn3 hs3 => ?_) (st_loc B))
    have hr := turn i s m₁ h.objs.size ob t hi hcl hj₁ hnx h3
    rw [← ov_eq hm₁] at hr
    rw [Int.zero_add] at hn3
    exact hr _ (F₁.set hn3 hs3) (N₁.set hs3)
  · rintro m₁ nx h tk ⟨s, rfl, hm₁, hj₁⟩ F₁ N₁
    have hr := done s m₁ hj₁
    rw [← ov_eq hm₁] at hr
    exact hr _ _ F₁ N₁
/-- an item of a list at a place that is reckoned -/
theorem ev_listAt (hg : Gives c m news e (· = .ref l)) (ha : Evals c m news a post) (hp : ∀ r n', post r n' → ∃ j : Nat, IsI j r ∧ j < us.length ∧ (∃ n, (l, listOf us.toArray n) ∈ n')) (hz : us.length ≤ 1000)
    (hs : ∀ i u, subscripted a false (.ref l) (.int i u) = operate [.ref l, .int i u] (getItem (.ref l) (.int i u))) : Evals c m news (.Subscript e a pos) (fun r n' => ∃ (j : Nat) (r' : Value), us[j]? = some r ∧ post r' n') := fun h tk q F N hq => by
  have he : eval (.Subscript e a pos) c.env = (do let ov ← eval e c.env; let iv ← holding [ov] (eval a c.env); standAt pos; subscriptTail e a ov iv) := eval_Subscript e a pos
  rw [he]
  refine wpAny_bind (hg _ _ _ F N ?_)
  rintro w h tk rfl F N
  refine wpAny_bind (wpAny_holding (ha _ _ _ F N ?_))
  intro r n' h tk hr F N
  obtain ⟨j, ⟨t', rfl⟩, hj, n, hl⟩ := hp r n' hr
  refine wpAny_bind (wpAny_standAt ?_)
  have hll : h.IsList l us.toArray := ⟨_, (N _ hl).1, rfl, n, rfl⟩
  exact tail_any hll.typeIs slot_list_getitem.lookup (wpAny_getItem_list (k := (j : Int)) (x := us[j]) hll (by omega) (by omega) (by simp [hj]) (hq _ _ _ _ ⟨j, _, List.getElem?_eq_getElem hj, hr⟩ F N)) (hs _ _)
/-- a list compared with one written empty -/
theorem te_neNil {lp : Pos} (B : Bd c dn un0) (hu : 4 ≤ un0) (hg : Gives c m news e (· = .ref l)) (hl : (l, listOf us.toArray n) ∈ news) (hm : behindInMarks .NotEq (.List [] lp) = false) :
    TestsE c m news (.Compare e [.NotEq] [.List [] lp] pos) (fun r n' => r = (!us.isEmpty) ∧ ∃ p, n' = news ++ [p]) := fun h tk q F N hQ => by
  refine wpAny_isTrue_Compare1 (hg _ _ _ F N ?_) hm
  rintro v h tk rfl F N
  refine ev_list (c := c) (m := m) (news := news) (pos := lp) el_nil (by rintro _ _ ⟨rfl, _⟩; exact Nat.zero_le _) _ _ _ F N ?_
  rintro r n' h tk ⟨_, _, ⟨rfl, rfl⟩, D, k, rfl, rfl, hD⟩ F N
  have h1 : h.IsList l us.toArray := ⟨_, (N _ (sub_l _ hl)).1, rfl, n, rfl⟩
  have h2 : h.IsList D #[] := ⟨_, (N _ (sub_r _ (.head _))).1, rfl, k, rfl⟩
  have hu' : c.un < cLine := by have := B.2.2.2.2.2.2; omega
  have fin : ∀ b, b = (!us.isEmpty) → wpAny c.M c.A (truthy (.bool b)) q c.E (c.at h tk) := fun b hb => wpAny_truthy_bool (hQ _ _ _ _ ⟨hb, _, rfl⟩ F N)
  cases us with
  | nil =>
    refine SeqAt.RcNeAt.lists (A := c.A) (s := c.at h tk) (e := fun _ => true) h1 h2 rfl hu' (fun j h1 _ => absurd h1 (Nat.not_lt_zero _)) _ _ _ _ ?_
    exact fin _ rfl
  | cons v us =>
    refine SeqAt.RcNeAt.lists_lengths (A := c.A) (s := c.at h tk) h1 h2 (by simp) hu' _ _ _ _ ?_
    exact fin _ rfl
end

local macro_rules | `(tactic| walk_at "RF") => `(tactic| with_unfolding_all rfl)
local macro_rules | `(tactic| walk_at "EV") => `(tactic| first
  | (with_reducible refine' g_name ?a ?b ?c ?d; (case a => assumption); (case b => with_unfolding_all rfl); (case c => with_unfolding_all rfl); (case d => decide))
  | (with_reducible refine' g_nameI ?a ?b ?c ?d; (case a => assumption); (case b => with_unfolding_all rfl); (case c => with_unfolding_all rfl); (case d => decide))
  | with_reducible exact g_int
  | with_reducible exact g_bool
  | with_reducible exact g_none
  | with_reducible exact t_andN
  | with_reducible exact t_orN
  | (with_reducible refine' g_add ?a ?b; (case a => walk_at "EV"); (case b => walk_at "EV"))
  | (with_reducible refine' g_sub ?a ?b; (case a => walk_at "EV"); (case b => walk_at "EV"))
  | (with_reducible refine' t_le ?a ?b ?c; (case a => walk_at "EV"); (case b => walk_at "EV"); (case c => with_unfolding_all rfl))
  | (with_reducible refine' t_lt ?a ?b ?c; (case a => walk_at "EV"); (case b => walk_at "EV"); (case c => with_unfolding_all rfl))
  | (with_reducible refine' t_ge ?a ?b ?c; (case a => walk_at "EV"); (case b => walk_at "EV"); (case c => with_unfolding_all rfl))
  | (with_reducible refine' t_gt ?a ?b ?c; (case a => walk_at "EV"); (case b => walk_at "EV"); (case c => with_unfolding_all rfl))
  | (with_reducible refine' t_eq ?a ?b ?c; (case a => walk_at "EV"); (case b => walk_at "EV"); (case c => with_unfolding_all rfl))
  | (with_reducible refine' t_not ?a; (case a => walk_at "EV"))
  | (with_reducible refine' t_and ?a ?b; (case a => walk_at "EV"); (case b => (intro _; walk_at "EV")))
  | (with_reducible refine' t_or ?a ?b; (case a => walk_at "EV"); (case b => (intro _; walk_at "EV"))))
local macro_rules | `(tactic| walk_at "GB") => `(tactic| (refine' g_built ?a ?b ?c ?d ?e ?f; (case a => assumption); (case b => k_dflt k_is); (case c => boot_by_name); (case d => decide); (case e => with_unfolding_all rfl); (case f => decide)))
local macro_rules | `(tactic| walk_at "GG") => `(tactic| (refine' g_glob ?a ?b ?c ?d; (case a => assumption); (case b => k_dflt k_is); (case c => with_unfolding_all rfl); (case d => decide)))
def hasSpan (S : Spans) (lo hi : Int) : Bool := decide (hi ≤ lo) || S.any fun p => decide (p.1 ≤ lo) && decide (hi ≤ p.2)
theorem does_has {l : Addr} {vs : List Value} {n : Nat} {lo hi : Int} {t1 t2 : Tok} {news : Led} {S : Spans}
    (hl : (l, listOf vs.toArray n) ∈ news) (hd : SpAll news vs S) :
    Does 42 [.ref l, .int lo t1, .int hi t2] news 1 16 (fun r news' => r = .bool (hasSpan S lo hi) ∧ news' = news) := by
  refine' does_ofS [(Str.ofString "spans", .ref l), (Str.ofString "low", .int lo t1), (Str.ofString "high", .int hi t2)] ?ho ?hcd ?hbind ?hloc ?hcell ?hco ?hgen ?hk ?h; (case ho => (intro w; k_dflt k_is)); (case hcd => (intro w; k_dflt k_is)); (case hbind => (intro s; exact BindsTo.of_eq rfl)); (case hloc => rfl); (case hcell => decide); (case hco => rfl); (case hgen => rfl); (case hk => rfl); intro c0 c qe m B hlt
  refine s_if (by walk_at "EV") (fun hb => ?_) fun hb => ?_
  · refine s_ret g_bool (fun v hv => ?_)
    (repeat (first | with_reducible refine h_then ?_ | with_reducible refine h_turn ?_))
    exact h_ends news ⟨hv.trans (by rw [hasSpan, hb]; rfl), rfl⟩ fun _ h => h
  · refine s_end ?_
    refine s_forS (σ := Unit) (fun _ => [(Str.ofString "low", .int lo t1), (Str.ofString "high", .int hi t2)]) (fun _ => news) (fun i _ => (S.take i).any (fun p => decide (p.1 ≤ lo) && decide (hi ≤ p.2)) = false) () B (by walk_at "EV") hl hd (fun _ _ h => h) (by (repeat (first | exact List.forall_mem_nil _ | refine List.forall_mem_cons.mpr ⟨by with_unfolding_all rfl, ?_⟩))) rfl (fun _ => rfl) (by walk_at "RF") (by walk_at "RF") ?_ ?_
    · intro i _ u I ob x y u1 u2 hp hj hnx qt mt nt
      refine s_if (by walk_at "EV") (fun hb2 => ?_) fun hb2 => ?_
      · refine s_ret g_bool (fun v hv => ?_)
        (repeat (first | with_reducible refine h_then ?_ | with_reducible refine h_turn ?_))
        refine h_ends news ⟨hv.trans ?_, rfl⟩ sub_l
        rw [Bool.and_true] at hb2
        rw [hasSpan, List.any_eq_true.mpr ⟨(x, y), List.mem_of_getElem? hp, hb2⟩, Bool.or_true]
      · refine s_end (s_turnS () sub_l (sub_r _ (.head _)) hnx (by (repeat (first | exact List.forall_mem_nil _ | refine List.forall_mem_cons.mpr ⟨by with_unfolding_all rfl, ?_⟩))) ?_)
        rw [Bool.and_true] at hb2
        rw [take_snoc hp, List.any_append, hj, Bool.false_or, List.any_cons, hb2]; rfl
    · intro _ u hj mt nt
      refine s_ret g_bool (fun v hv => ?_)
      refine h_ends news ⟨hv.trans ?_, rfl⟩ fun _ h => h
      rw [List.take_length] at hj
      rw [hasSpan, hb, hj]; rfl

theorem does_first {l : Addr} {vs : List Value} {n : Nat} {most : Int} {t : Tok} {news : Led} {S : Spans}
    (hl : (l, listOf vs.toArray n) ∈ news) (hd : SpAll news vs S) (hb : S.length ≤ 1000) :
    Does 49 [.ref l, .int most t] news 1 16 (fun r news' =>
      (r = .none ∧ news' = news ∧ (S = [] ∨ most ≤ 0)) ∨
      ∃ i j a t u k, S[0]? = some (i, j) ∧ 0 < most ∧ r = .ref a ∧ news' = news ++ [(a, tup2 i (imin j (i + most)) t u k)] ∧ ∀ p ∈ news, p.1 < a) := by
  refine' does_ofS [(Str.ofString "spans", .ref l), (Str.ofString "most", .int most t)] ?ho ?hcd ?hbind ?hloc ?hcell ?hco ?hgen ?hk ?h; (case ho => (intro w; k_dflt k_is)); (case hcd => (intro w; k_dflt k_is)); (case hbind => (intro s; exact BindsTo.of_eq rfl)); (case hloc => rfl); (case hcell => decide); (case hco => rfl); (case hgen => rfl); (case hk => rfl); intro c0 c qe m B hlt
  refine s_if (t_or (t_eq (g_b1 (by walk_at "GB") rfl (by walk_at "EV") (c_len hl (by rw [hd.length]; exact hb))) g_int rfl) fun _ => (by walk_at "EV")) (fun hc => ?_) fun hc => ?_
  · refine s_ret g_none (fun v hv => ?_)
    (repeat (first | with_reducible refine h_then ?_ | with_reducible refine h_turn ?_))
    refine h_ends news (.inl ⟨hv, rfl, ?_⟩) fun _ h => h
    rw [hd.length, Bool.or_false, Bool.or_eq_true, decide_eq_true_eq, decide_eq_true_eq] at hc
    exact hc.imp (fun h => List.eq_nil_of_length_eq_zero (by omega)) id
  · rw [hd.length, Bool.or_false, Bool.or_eq_false_iff, decide_eq_false_iff_not, decide_eq_false_iff_not] at hc
    cases vs with
    | nil => exact absurd hd.length (fun h => hc.1 (by rw [← h]; rfl))
    | cons v vs =>
      obtain ⟨i, j, a, u1, u2, k, hp, rfl, ha⟩ := hd.get (i := 0) rfl
      refine s_end (s_unp2 B (g_ev (g_list0 (by walk_at "EV") hl (fun _ => rfl))) rfl rfl (by walk_at "RF") (by walk_at "RF") ?_)
      rintro _ _ ⟨rfl, rfl⟩
      refine ⟨a, _, _, k, rfl, ha, ?_⟩
      refine s_retE (ev_tup2 (k := _) (P := IsI i) (by walk_at "EV") (g_b2 (by walk_at "GB") rfl rfl rfl (P := IsI j) (R := IsI (i + most)) (by walk_at "EV") (by walk_at "EV") c_min) rfl rfl) ?_
      rintro r n' ⟨_, _, D, ⟨t3, rfl⟩, ⟨t4, rfl⟩, rfl, rfl, hD⟩
      exact h_ends _ (.inr ⟨i, j, D, t3, t4, _, hp, by omega, rfl, rfl, hD⟩) fun _ h => h

def addStep (st : Spans × Bool × Int × Int) (p : Int × Int) : Spans × Bool × Int × Int :=
  if p.2 < st.2.2.1 then (st.1 ++ [p], st.2)
  else if st.2.2.2 < p.1 then ((if st.2.1 then st.1 else st.1 ++ [(st.2.2.1, st.2.2.2)]) ++ [p], true, st.2.2.1, st.2.2.2)
  else (st.1, st.2.1, imin st.2.2.1 p.1, imax st.2.2.2 p.2)
def addEnd (r : Spans × Bool × Int × Int) : Spans := if r.2.1 then r.1 else r.1 ++ [(r.2.2.1, r.2.2.2)]
def addSpan (S : Spans) (lo hi : Int) : Spans := if hi ≤ lo then S else addEnd (S.foldl addStep ([], false, lo, hi))
def addPs (s : Lp) : List (Str × Value) := [(Str.ofString "found", .ref s.l), (Str.ofString "is_put", .bool s.put), (Str.ofString "low", .int s.lo s.t1), (Str.ofString "high", .int s.hi s.t2)]
def lpLed (news : Led) (s : Lp) : Led := (s.l, listOf s.us.toArray s.k) :: (news ++ s.G)
def AddJ (K news : Led) (S : Spans) (lo hi : Int) (i : Nat) (s : Lp) : Prop :=
  SpAll (K ++ s.G) s.us s.f ∧ (S.take i).foldl addStep ([], false, lo, hi) = (s.f, s.put, s.lo, s.hi) ∧ (∀ p ∈ news, p.1 < s.l) ∧ (∀ p ∈ s.G, s.l < p.1) ∧ s.us.length ≤ 2 * i
theorem AddJ.step {K news : Led} {S : Spans} {lo hi : Int} {i : Nat} {q : Int × Int} {s : Lp} {us : List Value} {k : Nat} {f : Spans} {put : Bool} {lo' hi' : Int} {t1 t2 : Tok} {C : Led} (hj : AddJ K news S lo hi i s)
    (hp : S[i]? = some q) (hst : addStep (s.f, s.put, s.lo, s.hi) q = (f, put, lo', hi')) (hS : SpAll (K ++ (s.G ++ C)) us f) (hC : ∀ p ∈ C, s.l < p.1) (h3 : us.length ≤ s.us.length + 2) : AddJ K news S lo hi (i + 1) ⟨s.l, us, k, f, put, lo', hi', t1, t2, s.G ++ C⟩ :=
  ⟨hS, by rw [take_snoc hp, List.foldl_append, hj.2.1]; exact hst, hj.2.2.1, fun p hp => (List.mem_append.mp hp).elim (hj.2.2.2.1 p) (hC p), Nat.le_trans h3 (Nat.add_le_add_right hj.2.2.2.2 2)⟩
theorem lp_mono {news G C : Led} {us : List Value} {f : Spans} (hS : SpAll (news ++ G) us f) : SpAll (news ++ (G ++ C)) us f := hS.mono fun p hp => (List.mem_append.mp hp).elim (sub_l p) fun h => sub_r p (sub_l p h)
theorem lp_ne {news : Led} {s : Lp} {I : Addr} {ob : Obj} (h1 : ∀ p ∈ news, p.1 < s.l) (h2 : ∀ p ∈ s.G, s.l < p.1) (hnx : ∀ p ∈ lpLed news s, p.1 ≠ I) : ∀ p ∈ news ++ s.G ++ [(I, ob)], p.1 ≠ s.l := by
  intro p hp
  rcases List.mem_append.mp hp with hp | hp
  · exact (List.mem_append.mp hp).elim (fun h => Nat.ne_of_lt (h1 p h)) (fun h => Nat.ne_of_gt (h2 p h))
  · rw [List.mem_singleton.mp hp]; exact fun e => hnx _ (.head _) e.symm
theorem does_add {K : Led} {l : Addr} {vs : List Value} {n : Nat} {lo hi : Int} {t1 t2 : Tok} {news : Led} {S : Spans}
    (hl : (l, listOf vs.toArray n) ∈ news) (hK : ∀ p ∈ K, p ∈ news) (hd : SpAll K vs S) (hb : S.length ≤ 400) :
    Does 28 [.ref l, .int lo t1, .int hi t2] news 1 16 (RetSp K news (addSpan S lo hi)) := by
  refine' does_ofS [(Str.ofString "spans", .ref l), (Str.ofString "low", .int lo t1), (Str.ofString "high", .int hi t2)] ?ho ?hcd ?hbind ?hloc ?hcell ?hco ?hgen ?hk ?h; (case ho => (intro w; k_dflt k_is)); (case hcd => (intro w; k_dflt k_is)); (case hbind => (intro s; exact BindsTo.of_eq rfl)); (case hloc => rfl); (case hcell => decide); (case hco => rfl); (case hgen => rfl); (case hk => rfl); intro c0 c qe m B hlt
  refine s_if (by walk_at "EV") (fun hc => ?_) fun hc => ?_
  · refine s_retE (ev_t1 (by walk_at "GB") rfl (by walk_at "EV") (c_copy hl (by rw [hd.length]; omega))) (fun v n' hv => ?_)
    (repeat (first | with_reducible refine h_then ?_ | with_reducible refine h_turn ?_))
    exact h_ends n' (by rw [addSpan, if_pos (of_decide_eq_true hc)]; exact hv.sp hd) fun _ h => h
  · refine s_end (s_two (PL := fun u v n => Made news (fun k => listOf [].toArray k) u n ∧ v = .bool false) B ?_ rfl rfl (by walk_at "RF") (by walk_at "RF") ?_)
    · refine el_w (el_consE (PL := fun v vs n => Made news (fun k => listOf [].toArray k) v n ∧ vs = [.bool false]) (ev_list (pos := _) el_nil ?_) rfl ?_) ?_
      · rintro _ _ ⟨rfl, _⟩; exact Nat.zero_le _
      · rintro v n' ⟨_, _, ⟨rfl, rfl⟩, hm⟩
        exact el_w (el_cons g_bool rfl el_nil) (by rintro _ _ ⟨_, _, rfl, rfl, rfl, rfl⟩; exact ⟨hm, rfl⟩)
      · rintro _ n' ⟨v, _, rfl, hm, rfl⟩; exact ⟨v, _, rfl, hm, rfl⟩
    · rintro u v n' ⟨⟨lf, k, rfl, rfl, hlf⟩, rfl⟩
      refine s_sub (lpLed news ⟨lf, [], k, [], false, lo, hi, t1, t2, []⟩) (fun p hp => ?_) ?_
      · rw [lpLed, List.append_nil] at hp
        exact (List.mem_cons.mp hp).elim (fun e => e ▸ sub_r _ (.head _)) (sub_l p)
      refine s_forS addPs (lpLed news) (AddJ K news S lo hi) _ B (by walk_at "EV") hl (hd.mono hK) (fun s p hp => .tail _ (sub_l p hp)) (by (repeat (first | exact List.forall_mem_nil _ | refine List.forall_mem_cons.mpr ⟨by with_unfolding_all rfl, ?_⟩))) ⟨DatAll.nil, rfl, hlf, (fun _ h => nomatch h), Nat.zero_le _⟩ (fun _ => rfl) (by walk_at "RF") (by walk_at "RF") ?_ ?_
      · intro i s u I ob x y u1 u2 hp hj hnx qt mt nt
        have hi400 : s.us.length ≤ 998 := Nat.le_trans hj.2.2.2.2 (by have := (List.getElem?_eq_some_iff.mp hp).1; omega)
        have hne : ∀ p ∈ news ++ s.G ++ [(I, ob)], p.1 ≠ s.l := lp_ne hj.2.2.1 hj.2.2.2.1 hnx
        refine s_if (by walk_at "EV") (fun hc1 => ?_) fun hc1 => ?_
        · refine s_app2 (l := s.l) (by walk_at "EV") (by walk_at "EV") (by walk_at "EV") ?aG ?az ?aq rfl rfl rfl rfl rfl rfl
          case aG => exact hne
          case az => omega
          case aq =>
            intro D t u hD
            (repeat with_reducible refine s_end ?_); refine s_turnS ⟨s.l, s.us ++ [Value.ref D], s.k + 1, s.f ++ [(x, y)], s.put, s.lo, s.hi, s.t1, s.t2, s.G ++ [(D, tup2 x y t u 0)]⟩ sub_q mem_q (ne_q hnx (List.forall_mem_cons.mpr ⟨hD _ (.tail _ (sub_r _ (.head _))), List.forall_mem_nil _⟩)) (by (repeat (first | exact List.forall_mem_nil _ | refine List.forall_mem_cons.mpr ⟨by with_unfolding_all rfl, ?_⟩))) ?_
            exact hj.step hp (if_pos (of_decide_eq_true hc1)) ((lp_mono hj.1).append (.one (sub_r _ (sub_r _ (.head _))))) (List.forall_mem_cons.mpr ⟨hD _ (.head _), List.forall_mem_nil _⟩) (by simp only [List.length_append, List.length_cons, List.length_nil]; omega)
        · refine s_if (by walk_at "EV") (fun hc2 => ?_) fun hc2 => ?_
          · refine s_if (t_not (t_val (b := s.put) (by walk_at "EV") rfl)) (fun hc3 => ?_) fun hc3 => ?_
            · refine s_app2 (l := s.l) (by walk_at "EV") (by walk_at "EV") (by walk_at "EV") ?bG ?bz ?bq rfl rfl rfl rfl rfl rfl
              case bG => exact hne
              case bz => omega
              case bq =>
                intro D t u hD
                refine s_assign B g_bool rfl (by walk_at "RF") fun v hv => ?_
                rw [hv]
                refine s_end ?_
                refine s_app2 (l := s.l) (by walk_at "EV") (by walk_at "EV") (by walk_at "EV") ?dG ?dz ?dq rfl rfl rfl rfl rfl rfl
                case dG => exact fun p hp => (List.mem_append.mp hp).elim (hne p) fun h => by rw [List.mem_singleton.mp h]; exact Nat.ne_of_gt (hD _ (.head _))
                case dz => rw [List.length_append]; show s.us.length + 1 ≤ 1000; omega
                case dq =>
                  intro D2 t' u' hD2
                  rw [show ∀ X : Led, (X ++ [(D, tup2 s.lo s.hi t u 0)]) ++ [(D2, tup2 x y t' u' 0)] = X ++ [(D, tup2 s.lo s.hi t u 0), (D2, tup2 x y t' u' 0)] from fun X => List.append_assoc ..]
                  have two : ∀ z : Nat, z < D → z < D2 → ∀ p ∈ [(D, tup2 s.lo s.hi t u 0), (D2, tup2 x y t' u' 0)], z < p.1 := fun z h h' => List.forall_mem_cons.mpr ⟨h, List.forall_mem_cons.mpr ⟨h', List.forall_mem_nil _⟩⟩
                  (repeat with_reducible refine s_end ?_); refine s_turnS ⟨s.l, (s.us ++ [Value.ref D]) ++ [Value.ref D2], s.k + 1 + 1, (s.f ++ [(s.lo, s.hi)]) ++ [(x, y)], true, s.lo, s.hi, s.t1, s.t2, s.G ++ [(D, tup2 s.lo s.hi t u 0), (D2, tup2 x y t' u' 0)]⟩ sub_q mem_q (ne_q hnx (two I (hD _ (.tail _ (sub_r _ (.head _)))) (hD2 _ (.tail _ (sub_l _ (sub_r _ (.head _))))))) (by (repeat (first | exact List.forall_mem_nil _ | refine List.forall_mem_cons.mpr ⟨by with_unfolding_all rfl, ?_⟩))) ?_
                  refine hj.step hp ?_ (((lp_mono hj.1).append (.one (sub_r _ (sub_r _ (.head _))))).append (.one (sub_r _ (sub_r _ (.tail _ (.head _)))))) (two s.l (hD _ (.head _)) (hD2 _ (.head _))) (by simp only [List.length_append, List.length_cons, List.length_nil]; omega)
                  rw [addStep, if_neg (of_decide_eq_false hc1), if_pos (of_decide_eq_true hc2), if_neg (by simpa using hc3)]
            · refine s_end ?_
              refine s_app2 (l := s.l) (by walk_at "EV") (by walk_at "EV") (by walk_at "EV") ?eG ?ez ?eq rfl rfl rfl rfl rfl rfl
              case eG => exact hne
              case ez => omega
              case eq =>
                intro D t u hD
                have h9 : s.put = true := by simpa using hc3
                (repeat with_reducible refine s_end ?_); refine s_turnS ⟨s.l, s.us ++ [Value.ref D], s.k + 1, s.f ++ [(x, y)], s.put, s.lo, s.hi, s.t1, s.t2, s.G ++ [(D, tup2 x y t u 0)]⟩ sub_q mem_q (ne_q hnx (List.forall_mem_cons.mpr ⟨hD _ (.tail _ (sub_r _ (.head _))), List.forall_mem_nil _⟩)) (by (repeat (first | exact List.forall_mem_nil _ | refine List.forall_mem_cons.mpr ⟨by with_unfolding_all rfl, ?_⟩))) ?_
                refine hj.step hp ?_ ((lp_mono hj.1).append (.one (sub_r _ (sub_r _ (.head _))))) (List.forall_mem_cons.mpr ⟨hD _ (.head _), List.forall_mem_nil _⟩) (by simp only [List.length_append, List.length_cons, List.length_nil]; omega)
                rw [addStep, if_neg (of_decide_eq_false hc1), if_pos (of_decide_eq_true hc2), if_pos h9, h9]
          · refine s_two (PL := fun u v n => IsI (imin s.lo x) u ∧ IsI (imax s.hi y) v ∧ n = nt) B (el_w (el_cons (g_b2 (by walk_at "GB") rfl rfl rfl (P := IsI s.lo) (R := IsI x) (by walk_at "EV") (by walk_at "EV") c_min) rfl (el_cons (g_b2 (by walk_at "GB") rfl rfl rfl (P := IsI s.hi) (R := IsI y) (by walk_at "EV") (by walk_at "EV") c_max) rfl el_nil)) ?_) rfl rfl (by walk_at "RF") (by walk_at "RF") ?_
            · rintro _ _ ⟨u, _, rfl, hu, v, _, rfl, hv, rfl, rfl⟩; exact ⟨u, v, rfl, hu, hv, rfl⟩
            · rintro _ _ _ ⟨⟨t3, rfl⟩, ⟨t4, rfl⟩, rfl⟩
              (repeat with_reducible refine s_end ?_); refine s_turnS ⟨s.l, s.us, s.k, s.f, s.put, imin s.lo x, imax s.hi y, t3, t4, s.G ++ []⟩ (fun p hp => ?_) (sub_r _ (.head _)) (ne_q hnx (List.forall_mem_nil _)) (by (repeat (first | exact List.forall_mem_nil _ | refine List.forall_mem_cons.mpr ⟨by with_unfolding_all rfl, ?_⟩))) ?_
              · rw [lpLed, List.append_nil] at hp; exact sub_l p hp
              · refine hj.step hp ?_ (lp_mono hj.1) (List.forall_mem_nil _) (Nat.le_add_right _ _)
                rw [addStep, if_neg (of_decide_eq_false hc1), if_neg (of_decide_eq_false hc2)]
      · intro s u hj mt nt
        have hf := hj.2.1
        rw [List.take_length] at hf
        have hA : addSpan S lo hi = addEnd (s.f, s.put, s.lo, s.hi) := by rw [addSpan, if_neg (of_decide_eq_false hc), hf]
        have hle : s.us.length ≤ 800 := Nat.le_trans hj.2.2.2.2 (by omega)
        refine s_retE (post := RetSp K news (addSpan S lo hi)) (ev_if (t_val (b := s.put) (by walk_at "EV") rfl) (fun hc5 => ?_) fun hc5 => ?_) (fun v n' hv => h_ends n' hv fun _ h => h)
        · refine ev_ws (g_ev (P := (· = .ref s.l)) (by walk_at "EV")) ?_
          rintro _ _ ⟨rfl, rfl⟩
          refine ⟨news ++ ((s.l, listOf s.us.toArray s.k) :: s.G), sub_m, s.l, s.us, s.k, _, rfl, rfl, .cons hj.2.2.1 fun q hq p hp => Nat.lt_trans (hj.2.2.1 q hq) (hj.2.2.2.1 p hp), .head _, ?_⟩
          rw [hA, addEnd, if_pos hc5]
          exact hj.1.mono fun p hp => (List.mem_append.mp hp).elim (sub_l p) fun h => sub_r p (.tail _ h)
        · refine ev_ws (ev_cat (pw := fun r ws n' => ∃ D t u D2 k, ws = [Value.ref D] ∧ r = .ref D2 ∧ n' = nt ++ [(D, tup2 s.lo s.hi t u 0), (D2, listOf [Value.ref D].toArray k)] ∧ (∀ p ∈ nt, p.1 < D) ∧ D < D2) (us := s.us) (n := s.k) (l := s.l) (by walk_at "EV") (ev_w (ev_pair1 (by walk_at "EV") (by walk_at "EV") rfl rfl rfl) ?_) ?_) ?_
          · rintro r n' ⟨D, t, u, D2, k, h⟩; exact ⟨_, D, t, u, D2, k, rfl, h⟩
          · rintro r ws n' ⟨D, t, u, D2, k, rfl, rfl, rfl, hD, hD2⟩
            exact ⟨.head _, by show s.us.length + 1 ≤ 1000; omega, D2, k, rfl, sub_r _ (.tail _ (.head _))⟩
          · rintro r n2 ⟨_, _, _, ⟨D, t, u, D2, k, rfl, rfl, rfl, hD, hD2⟩, D3, k3, rfl, rfl, hD3⟩
            have hlD : ∀ q ∈ news, q.1 < D := fun q hq => hD q (.tail _ (sub_l q hq))
            refine ⟨news ++ (s.G ++ [(D, tup2 s.lo s.hi t u 0), (D3, listOf (s.us ++ [Value.ref D]).toArray k3)]), sub_z, D3, _, k3, _, rfl, rfl, .append (fun q hq p hp => Nat.lt_trans (hj.2.2.1 q hq) (hj.2.2.2.1 p hp)) (.cons hlD (.cons (fun q hq => Nat.lt_trans (hlD q hq) (hD3 _ (sub_r _ (.head _)))) .nil)), sub_r _ (.tail _ (.head _)), ?_⟩
            rw [hA, addEnd, if_neg (Bool.eq_false_iff.mp hc5)]
            exact (lp_mono hj.1).append (.one (sub_r _ (sub_r _ (.head _))))

def cutStep (lo hi : Int) (f : Spans) (p : Int × Int) : Spans :=
  (if p.1 < imin p.2 lo then f ++ [(p.1, imin p.2 lo)] else f) ++ if imax p.1 hi < p.2 then [(imax p.1 hi, p.2)] else []
def cutSpan (S : Spans) (lo hi : Int) : Spans := if lo < hi then S.foldl (cutStep lo hi) [] else S
def CutJ (K news : Led) (S : Spans) (lo hi : Int) (i : Nat) (s : Lp) : Prop :=
  SpAll (K ++ s.G) s.us s.f ∧ (S.take i).foldl (cutStep lo hi) [] = s.f ∧ (∀ p ∈ news, p.1 < s.l) ∧ (∀ p ∈ s.G, s.l < p.1) ∧ s.us.length ≤ 2 * i
theorem does_cut {K : Led} {l : Addr} {vs : List Value} {n : Nat} {lo hi : Int} {t1 t2 : Tok} {news : Led} {S : Spans}
    (hl : (l, listOf vs.toArray n) ∈ news) (hK : ∀ p ∈ K, p ∈ news) (hd : SpAll K vs S) (hb : S.length ≤ 400) :
    Does 35 [.ref l, .int lo t1, .int hi t2] news 1 16 (RetSp K news (cutSpan S lo hi)) := by
  refine' does_ofS [(Str.ofString "spans", .ref l), (Str.ofString "low", .int lo t1), (Str.ofString "high", .int hi t2)] ?ho ?hcd ?hbind ?hloc ?hcell ?hco ?hgen ?hk ?h; (case ho => (intro w; k_dflt k_is)); (case hcd => (intro w; k_dflt k_is)); (case hbind => (intro s; exact BindsTo.of_eq rfl)); (case hloc => rfl); (case hcell => decide); (case hco => rfl); (case hgen => rfl); (case hk => rfl); intro c0 c qe m B hlt
  refine s_assignE B (ev_list (pos := _) el_nil (by rintro _ _ ⟨rfl, _⟩; exact Nat.zero_le _)) rfl (by walk_at "RF") ?_
  rintro v n' ⟨vs0, n0, h0, hm⟩
  rw [h0.1, h0.2] at hm
  obtain ⟨lf, k, rfl, rfl, hlf⟩ := hm
  refine s_sub (lpLed news ⟨lf, [], k, [], false, 0, 0, 0, 0, []⟩) (fun p hp => ?_) ?_
  · rw [lpLed, List.append_nil] at hp
    exact (List.mem_cons.mp hp).elim (fun e => e ▸ sub_r _ (.head _)) (sub_l p)
  refine s_forS (fun s => [(Str.ofString "found", .ref s.l), (Str.ofString "low", .int lo t1), (Str.ofString "high", .int hi t2), (Str.ofString "spans", .ref l)]) (lpLed news) (CutJ K news S lo hi) _ B (by walk_at "EV") hl (hd.mono hK) (fun s p hp => .tail _ (sub_l p hp)) (by (repeat (first | exact List.forall_mem_nil _ | refine List.forall_mem_cons.mpr ⟨by with_unfolding_all rfl, ?_⟩))) ⟨DatAll.nil, rfl, hlf, (fun _ h => nomatch h), Nat.zero_le _⟩ (fun _ => rfl) (by walk_at "RF") (by walk_at "RF") ?_ ?_
  · intro i s u I ob x y u1 u2 hp hj hnx qt mt nt
    have hi400 : s.us.length ≤ 998 := Nat.le_trans hj.2.2.2.2 (by have := (List.getElem?_eq_some_iff.mp hp).1; omega)
    have hne : ∀ p ∈ news ++ s.G ++ [(I, ob)], p.1 ≠ s.l := lp_ne hj.2.2.1 hj.2.2.2.1 hnx
    refine s_cut (fun n' => ∃ us k f C, n' = (s.l, listOf us.toArray k) :: (((news ++ s.G) ++ [(I, ob)]) ++ C) ∧ SpAll (K ++ (s.G ++ C)) us f ∧ (∀ p ∈ C, s.l < p.1) ∧ (∀ p ∈ C, I < p.1) ∧ us.length ≤ s.us.length + 1 ∧ f ++ (if imax x hi < y then [(imax x hi, y)] else []) = cutStep lo hi s.f (x, y)) ?_ fun snd => ?_
    · rintro n' ⟨us, k, f, C, rfl, hS, hC, hCI, hlen, hst⟩
      refine s_if (t_lt (g_b2 (by walk_at "GB") rfl rfl rfl (P := IsI x) (R := IsI hi) (by walk_at "EV") (by walk_at "EV") c_max) (j := y) (by walk_at "EV") rfl) (fun hc => ?_) fun hc => ?_
      · refine s_app2 (l := s.l) (i := imax x hi) (j := y) (g_b2 (by walk_at "GB") rfl rfl rfl (P := IsI x) (R := IsI hi) (by walk_at "EV") (by walk_at "EV") c_max) (by walk_at "EV") (by walk_at "EV") ?aG ?az ?aq rfl rfl rfl rfl rfl rfl
        case aG => exact fun p hp => (List.mem_append.mp hp).elim (hne p) fun h => Nat.ne_of_gt (hC p h)
        case az => omega
        case aq =>
          intro D t u hD
          rw [show ∀ X : Led, (X ++ C) ++ [(D, tup2 (imax x hi) y t u 0)] = X ++ (C ++ [(D, tup2 (imax x hi) y t u 0)]) from fun X => List.append_assoc ..]
          have all : ∀ z : Nat, z < D → (∀ p ∈ C, z < p.1) → ∀ p ∈ C ++ [(D, tup2 (imax x hi) y t u 0)], z < p.1 := fun z h h' => List.forall_mem_append.mpr ⟨h', List.forall_mem_cons.mpr ⟨h, List.forall_mem_nil _⟩⟩
          (repeat with_reducible refine s_end ?_); refine s_turnS ⟨s.l, us ++ [Value.ref D], k + 1, f ++ [(imax x hi, y)], false, 0, 0, 0, 0, s.G ++ (C ++ [(D, tup2 (imax x hi) y t u 0)])⟩ sub_q mem_q (ne_q hnx (all I (hD _ (.tail _ (sub_l _ (sub_r _ (.head _))))) hCI)) (by (repeat (first | exact List.forall_mem_nil _ | refine List.forall_mem_cons.mpr ⟨by with_unfolding_all rfl, ?_⟩))) ?_
          refine ⟨?_, ?_, hj.2.2.1, List.forall_mem_append.mpr ⟨hj.2.2.2.1, all s.l (hD _ (.head _)) hC⟩, ?_⟩
          · show SpAll (K ++ (s.G ++ (C ++ _))) _ _
            rw [← List.append_assoc s.G]
            exact (lp_mono hS).append (.one (sub_r _ (sub_r _ (.head _))))
          · rw [take_snoc hp, List.foldl_append, hj.2.1]
            rw [if_pos (of_decide_eq_true hc)] at hst
            exact hst.symm
          · have := hj.2.2.2.2
            simp only [List.length_append, List.length_cons, List.length_nil]; omega
      · (repeat with_reducible refine s_end ?_); refine s_turnS ⟨s.l, us, k, f, false, 0, 0, 0, 0, s.G ++ C⟩ sub_q mem_q (ne_q hnx hCI) (by (repeat (first | exact List.forall_mem_nil _ | refine List.forall_mem_cons.mpr ⟨by with_unfolding_all rfl, ?_⟩))) ?_
        refine ⟨hS, ?_, hj.2.2.1, List.forall_mem_append.mpr ⟨hj.2.2.2.1, hC⟩, ?_⟩
        · rw [take_snoc hp, List.foldl_append, hj.2.1]
          rw [if_neg (of_decide_eq_false hc), List.append_nil] at hst
          exact hst.symm
        · have := hj.2.2.2.2
          show us.length ≤ _; omega
    refine s_if (t_lt (i := x) (by walk_at "EV") (g_b2 (by walk_at "GB") rfl rfl rfl (P := IsI y) (R := IsI lo) (by walk_at "EV") (by walk_at "EV") c_min) rfl) (fun hc => ?_) fun hc => ?_
    · refine s_app2 (l := s.l) (i := x) (j := imin y lo) (by walk_at "EV") (g_b2 (by walk_at "GB") rfl rfl rfl (P := IsI y) (R := IsI lo) (by walk_at "EV") (by walk_at "EV") c_min) (by walk_at "EV") ?cG ?cz ?cq rfl rfl rfl rfl rfl rfl
      case cG => exact hne
      case cz => omega
      case cq =>
        intro D t u hD
        refine s_end (snd _ ⟨s.us ++ [Value.ref D], s.k + 1, s.f ++ [(x, imin y lo)], [(D, tup2 x (imin y lo) t u 0)], rfl, (lp_mono hj.1).append (.one (sub_r _ (sub_r _ (.head _)))), List.forall_mem_cons.mpr ⟨hD _ (.head _), List.forall_mem_nil _⟩, List.forall_mem_cons.mpr ⟨hD _ (.tail _ (sub_r _ (.head _))), List.forall_mem_nil _⟩, by rw [List.length_append]; exact Nat.le_refl _, ?_⟩)
        rw [cutStep, if_pos (of_decide_eq_true hc)]
    · refine s_end (s_sub _ (fun p hp => ?_) (snd _ ⟨s.us, s.k, s.f, [], rfl, lp_mono hj.1, List.forall_mem_nil _, List.forall_mem_nil _, Nat.le_succ _, ?_⟩))
      · rw [List.append_nil] at hp; exact hp
      · rw [cutStep, if_neg (of_decide_eq_false hc)]
  · intro s u hj mt nt
    have hf := hj.2.1
    rw [List.take_length] at hf
    refine s_retE (post := RetSp K news (cutSpan S lo hi)) (ev_if (by walk_at "EV") (fun hc => ?_) fun hc => ?_) (fun v n' hv => h_ends n' hv fun _ h => h)
    · refine ev_ws (g_ev (P := (· = .ref s.l)) (by walk_at "EV")) ?_
      rintro _ _ ⟨rfl, rfl⟩
      refine ⟨news ++ ((s.l, listOf s.us.toArray s.k) :: s.G), sub_m, s.l, s.us, s.k, _, rfl, rfl, .cons hj.2.2.1 fun q hq p hp => Nat.lt_trans (hj.2.2.1 q hq) (hj.2.2.2.1 p hp), .head _, ?_⟩
      rw [cutSpan, if_pos (of_decide_eq_true hc), hf]
      exact hj.1.mono fun p hp => (List.mem_append.mp hp).elim (sub_l p) fun h => sub_r p (.tail _ h)
    · refine ev_ws (ev_t1 (by walk_at "GB") rfl (by walk_at "EV") (c_copy (.tail _ (sub_l _ hl)) (by rw [hd.length]; omega))) ?_
      rintro v n' ⟨D, k3, rfl, rfl, hD3⟩
      refine ⟨news ++ (s.G ++ [(D, listOf vs.toArray k3)]), ?_, D, vs, k3, _, rfl, rfl, .append (fun q hq p hp => Nat.lt_trans (hj.2.2.1 q hq) (hj.2.2.2.1 p hp)) (.cons (fun q hq => hD3 q (.tail _ (sub_l q hq))) .nil), sub_r _ (.head _), ?_⟩
      · intro p hp
        rw [← List.append_assoc] at hp
        exact (List.mem_append.mp hp).elim (fun h => sub_l p (.tail _ h)) (sub_r p)
      · rw [cutSpan, if_neg (of_decide_eq_false hc)]
        exact hd.mono sub_l

def woSpans (S O : Spans) : Spans := O.foldl (fun f p => cutSpan f p.1 p.2) S
def WoJ (K news : Led) (S O : Spans) (i : Nat) (s : Lp) : Prop :=
  SpAll (K ++ s.G) s.us s.f ∧ s.f = woSpans S (O.take i) ∧ (s.l, listOf s.us.toArray s.k) ∈ s.G ∧ Abv news s.G
theorem does_wo {K : Led} {l l2 : Addr} {vs ws : List Value} {n n2 : Nat} {news : Led} {S O : Spans}
    (hl : (l, listOf vs.toArray n) ∈ news) (hl2 : (l2, listOf ws.toArray n2) ∈ news) (hK : ∀ p ∈ K, p ∈ news) (hd : SpAll K vs S) (hd2 : SpAll K ws O) (hb : ∀ i, (woSpans S (O.take i)).length ≤ 400) :
    Does 56 [.ref l, .ref l2] news 2 19 (RetSp K news (woSpans S O)) := by
  refine' does_ofS [(Str.ofString "spans", .ref l), (Str.ofString "others", .ref l2)] ?ho ?hcd ?hbind ?hloc ?hcell ?hco ?hgen ?hk ?h; (case ho => (intro w; k_dflt k_is)); (case hcd => (intro w; k_dflt k_is)); (case hbind => (intro s; exact BindsTo.of_eq rfl)); (case hloc => rfl); (case hcell => decide); (case hco => rfl); (case hgen => rfl); (case hk => rfl); intro c0 c qe m B hlt
  refine s_assignE B (ev_t1 (by walk_at "GB") rfl (by walk_at "EV") (c_copy hl (by rw [hd.length]; exact Nat.le_trans (hb 0) (by decide)))) rfl (by walk_at "RF") ?_
  rintro v n' ⟨D, k, rfl, rfl, hD⟩
  refine s_forS (σ := Lp) (fun s => [(Str.ofString "found", .ref s.l)]) (fun s => news ++ s.G) (WoJ K news S O) ⟨D, vs, k, S, false, 0, 0, 0, 0, [(D, listOf vs.toArray k)]⟩ B (by walk_at "EV") hl2 (hd2.mono hK) (fun s p hp => sub_l p hp) (by (repeat (first | exact List.forall_mem_nil _ | refine List.forall_mem_cons.mpr ⟨by with_unfolding_all rfl, ?_⟩))) ⟨hd.mono sub_l, rfl, .head _, .cons hD .nil⟩ (fun _ => rfl) (by walk_at "RF") (by walk_at "RF") ?_ ?_
  · intro i s u I ob x y u1 u2 hp hj hnx qt mt nt
    refine s_assignE B (ev_call (PL := fun vs n => (∃ t1 t2, vs = [.ref s.l, .int x t1, .int y t2]) ∧ n = nt) B (by walk_at "GG") (by k_dflt k_is) rfl rfl (el_w (el_cons (by walk_at "EV") rfl (el_cons (P := IsI x) (by walk_at "EV") rfl (el_cons (P := IsI y) (by walk_at "EV") rfl el_nil))) ?_) ?_) rfl (by walk_at "RF") ?_ (post := RetSp (K ++ s.G) nt (cutSpan s.f x y))
    · rintro _ _ ⟨_, _, rfl, rfl, _, _, rfl, ⟨t1, rfl⟩, _, _, rfl, ⟨t2, rfl⟩, rfl, rfl⟩
      exact ⟨⟨t1, t2, rfl⟩, rfl⟩
    · rintro _ _ ⟨⟨t1, t2, rfl⟩, rfl⟩
      exact c_does B (does_cut (K := K ++ s.G) (sub_l _ (sub_r _ hj.2.2.1)) (fun p hp => sub_l p ((List.mem_append.mp hp).elim (fun h => sub_l p (hK p h)) (sub_r p))) hj.1 (by rw [hj.2.1]; exact hb i)) (by decide) (by decide)
    · rintro v n' ⟨a, us, k, tl, rfl, rfl, hab, ha, hS⟩
      refine s_turnS ⟨a, us, k, cutSpan s.f x y, false, 0, 0, 0, 0, s.G ++ tl⟩ (fun p hp => ?_) (sub_l _ (sub_r _ (.head _))) ?_ (by (repeat (first | exact List.forall_mem_nil _ | refine List.forall_mem_cons.mpr ⟨by with_unfolding_all rfl, ?_⟩))) ⟨?_, ?_, sub_r _ ha, .append hj.2.2.2 (hab.sub fun p hp => sub_l p (sub_l p hp))⟩
      · rw [← List.append_assoc] at hp
        exact (List.mem_append.mp hp).elim (fun h => sub_l p (sub_l p h)) (sub_r p)
      · intro p hp
        rw [← List.append_assoc] at hp
        exact (List.mem_append.mp hp).elim (hnx p) fun h => Nat.ne_of_gt (hab _ (sub_r _ (.head _)) p h)
      · rw [← List.append_assoc]; exact hS
      · show cutSpan s.f x y = woSpans S (O.take (i + 1))
        rw [hj.2.1, take_snoc hp, woSpans, woSpans, List.foldl_append]; rfl
  · intro s u hj mt nt
    refine s_ret (P := (· = .ref s.l)) (by walk_at "EV") (fun v hv => h_ends nt ?_ fun _ h => h)
    have hf := hj.2.1
    rw [List.take_length] at hf
    exact ⟨s.l, s.us, s.k, s.G, hv, rfl, hj.2.2.2, hj.2.2.1, hf ▸ hj.1⟩

theorem does_put {K G : Led} {x dx : Addr} {ck : CK} {D b : Array UInt8} {td tb : Tok} {ld : Addr} {vs : List Value} {n : Nat} {la : Addr} {ws : List Value} {n2 : Nat} {S A : Spans}
    (hx : (x, instObj 108 dx) ∈ G) (hne : ∀ p ∈ G, p.1 ≠ dx) (hl : (ld, listOf vs.toArray n) ∈ G) (hK : ∀ p ∈ K, p ∈ G) (hd : SpAll K vs S) (hla : (la, listOf ws.toArray n2) ∈ G) (hda : SpAll K ws A) (hb : S.length ≤ 400) (hz : D.size + b.size ≤ 1000) :
    Does 77 [.ref x, .bytes b tb] ((dx, dictOf (cryE ck (.bytes D td) (.ref ld) (.ref la)) 3) :: G) 2 19 (CPost K G dx ck (D ++ b) (addSpan S D.size (D.size + b.size)) A fun r _ => r = .none) := by
  refine' does_ofS [(Str.ofString "self", .ref x), (Str.ofString "data", .bytes b tb)] ?ho ?hcd ?hbind ?hloc ?hcell ?hco ?hgen ?hk ?h; (case ho => (intro w; k_dflt k_is)); (case hcd => (intro w; k_dflt k_is)); (case hbind => (intro s; exact BindsTo.of_eq rfl)); (case hloc => rfl); (case hcell => decide); (case hco => rfl); (case hgen => rfl); (case hk => rfl); intro c0 c qe m B hlt
  have hx' : (x, instObj 108 dx) ∈ (dx, dictOf (cryE ck (.bytes D td) (.ref ld) (.ref la)) 3) :: G := .tail _ hx
  refine s_setat (post := RetSp K ((dx, dictOf (cryE ck (.bytes D td) (.ref ld) (.ref la)) 3) :: G) (addSpan S D.size (D.size + b.size))) (o := x) (dx := dx) cls_cry B ?_ (fun n' => (by walk_at "EV")) (by k_dflt k_is) rfl ?_
  · refine ev_call (PL := fun vs n => (∃ t1 t2, vs = [.ref ld, .int D.size t1, .int (D.size + b.size) t2]) ∧ n = ((dx, dictOf (cryE ck (.bytes D td) (.ref ld) (.ref la)) 3) :: G)) B (by walk_at "GG") (by k_dflt k_is) rfl rfl (el_w (el_cons (g_at (n := 3) cls_cry B (by walk_at "EV") hx' (.head _) (by k_dflt k_is) rfl rfl) rfl (el_cons (g_b1 (by walk_at "GB") rfl (g_at (n := 3) cls_cry B (by walk_at "EV") hx' (.head _) (by k_dflt k_is) rfl rfl) (c_lenB (by omega))) rfl (el_cons (g_add (g_b1 (by walk_at "GB") rfl (g_at (n := 3) cls_cry B (by walk_at "EV") hx' (.head _) (by k_dflt k_is) rfl rfl) (c_lenB (by omega))) (g_b1 (by walk_at "GB") rfl (by walk_at "EV") (c_lenB (by omega)))) rfl el_nil))) ?_) ?_
    · rintro _ _ ⟨_, _, rfl, rfl, _, _, rfl, ⟨t1, rfl⟩, _, _, rfl, ⟨t2, rfl⟩, rfl, rfl⟩
      exact ⟨⟨t1, t2, rfl⟩, rfl⟩
    · rintro _ _ ⟨⟨t1, t2, rfl⟩, rfl⟩
      exact c_does B (does_add (.tail _ hl) (fun p hp => .tail _ (hK p hp)) hd hb) (by decide) (by decide)
  · rintro v n' ⟨a, us, k, tl, rfl, rfl, hab, ha, hS⟩
    have hne2 : ∀ p ∈ G ++ tl, p.1 ≠ dx := List.forall_mem_append.mpr ⟨hne, fun p hp => Nat.ne_of_gt (hab _ (.head _) p hp)⟩
    refine ⟨_, 3, G ++ tl, rfl, sub_l _ hx, hne2, rfl, fun hsh key => ⟨Nat.le_of_ble_eq_true rfl, ?_⟩⟩
    show RunS c m ((dx, dictOf (cryE ck (.bytes D td) (.ref a) (.ref la)) 3) :: (G ++ tl)) _ qe
    have hx2 : (x, instObj 108 dx) ∈ (dx, dictOf (cryE ck (.bytes D td) (.ref a) (.ref la)) 3) :: (G ++ tl) := .tail _ (sub_l _ hx)
    refine s_setat (o := x) (dx := dx) cls_cry B (g_ev (g_addB hz (g_B (g_at (n := 3) cls_cry B (by walk_at "EV") hx2 (.head _) (by k_dflt k_is) rfl rfl)) (g_B (d := b) (t := tb) (by walk_at "EV")))) (fun n' => (by walk_at "EV")) (by k_dflt k_is) rfl ?_
    rintro _ _ ⟨⟨td2, rfl⟩, rfl⟩
    refine ⟨_, 3, G ++ tl, rfl, sub_l _ hx, hne2, rfl, fun hsh key => ⟨Nat.le_of_ble_eq_true rfl, ?_⟩⟩
    refine s_nil (h_endsN _ ⟨_, _, _, tl, rfl, hab.sub fun p hp => .tail _ hp, hab _ (.head _), ⟨td2, a, us, k, la, ws, n2, rfl, rfl, rfl, sub_r _ ha, sub_l _ hla, hS, hda.mono sub_l⟩, rfl⟩ fun _ h => h)

theorem does_cnext {K G : Led} {x dx : Addr} {ck : CK} {D : Array UInt8} {td : Tok} {ld : Addr} {vs : List Value} {n : Nat} {la : Addr} {ws : List Value} {n2 : Nat} {S A : Spans} {most : Int} {tm : Tok}
    (hx : (x, instObj 108 dx) ∈ G) (hne : ∀ p ∈ G, p.1 ≠ dx) (hl : (ld, listOf vs.toArray n) ∈ G) (hK : ∀ p ∈ K, p ∈ G) (hd : SpAll K vs S) (hla : (la, listOf ws.toArray n2) ∈ G) (hda : SpAll K ws A) (hb : S.length ≤ 400) (hz : D.size ≤ 1000) :
    Does 84 [.ref x, .int most tm] ((dx, dictOf (cryE ck (.bytes D td) (.ref ld) (.ref la)) 3) :: G) 2 19 (fun r n' =>
      (r = .none ∧ n' = ((dx, dictOf (cryE ck (.bytes D td) (.ref ld) (.ref la)) 3) :: G) ∧ (S = [] ∨ most ≤ 0)) ∨
      ∃ i j, S[0]? = some (i, j) ∧ 0 < most ∧ CPost K G dx ck D (cutSpan S i (imin j (i + most))) A (fun r tl => ∃ p t1 t2, r = .ref p ∧ (p, ({ cls := .type "tuple", data := .seq [.int i t1, .bytes (KBy.picked D (some i) (some (imin j (i + most)))) t2].toArray } : Obj)) ∈ tl) r n') := by
  refine' does_ofS [(Str.ofString "self", .ref x), (Str.ofString "most", .int most tm)] ?ho ?hcd ?hbind ?hloc ?hcell ?hco ?hgen ?hk ?h; (case ho => (intro w; k_dflt k_is)); (case hcd => (intro w; k_dflt k_is)); (case hbind => (intro s; exact BindsTo.of_eq rfl)); (case hloc => rfl); (case hcell => decide); (case hco => rfl); (case hgen => rfl); (case hk => rfl); intro c0 c qe m B hlt
  refine s_assignE (post := fun r n' => (r = .none ∧ n' = ((dx, dictOf (cryE ck (.bytes D td) (.ref ld) (.ref la)) 3) :: G) ∧ (S = [] ∨ most ≤ 0)) ∨
      ∃ i j a t u k, S[0]? = some (i, j) ∧ 0 < most ∧ r = .ref a ∧ n' = ((dx, dictOf (cryE ck (.bytes D td) (.ref ld) (.ref la)) 3) :: G) ++ [(a, tup2 i (imin j (i + most)) t u k)] ∧ ∀ p ∈ ((dx, dictOf (cryE ck (.bytes D td) (.ref ld) (.ref la)) 3) :: G), p.1 < a) B (ev_call (PL := fun vs n => (∃ t1, vs = [.ref ld, .int most t1]) ∧ n = ((dx, dictOf (cryE ck (.bytes D td) (.ref ld) (.ref la)) 3) :: G)) B (by walk_at "GG") (by k_dflt k_is) rfl rfl (el_w (el_cons (g_at (n := 3) cls_cry B (by walk_at "EV") (.tail _ hx) (.head _) (by k_dflt k_is) rfl rfl) rfl (el_cons (P := IsI most) (by walk_at "EV") rfl el_nil)) ?_) ?_) rfl (by walk_at "RF") ?_
  · rintro _ _ ⟨_, _, rfl, rfl, _, _, rfl, ⟨t1, rfl⟩, rfl, rfl⟩
    exact ⟨⟨t1, rfl⟩, rfl⟩
  · rintro _ _ ⟨⟨t1, rfl⟩, rfl⟩
    exact c_does B (does_first (.tail _ hl) (hd.mono fun p hp => .tail _ (hK p hp)) (Nat.le_trans hb (by decide))) (by decide) (by decide)
  rintro v n' (⟨rfl, rfl, hcase⟩ | ⟨i, j, sp, u1, u2, k1, hS0, hm, rfl, rfl, hsp⟩)
  · refine s_if (t_isN1 (by walk_at "EV") rfl) (fun _ => ?_) fun h => nomatch h
    exact s_ret g_none (fun v hv => h_then (h_ends _ (.inl ⟨hv, rfl, hcase⟩) fun _ h => h))
  · refine s_if (t_isN2 (by walk_at "EV") rfl) (fun h => nomatch h) fun _ => ?_
    refine s_end ?_
    refine s_setat (post := RetSp K ((dx, dictOf (cryE ck (.bytes D td) (.ref ld) (.ref la)) 3) :: (G ++ [(sp, tup2 i (imin j (i + most)) u1 u2 k1)])) (cutSpan S i (imin j (i + most)))) (o := x) (dx := dx) cls_cry B ?_ (fun n' => (by walk_at "EV")) (by k_dflt k_is) rfl ?_
    · refine ev_call (PL := fun vs n => (∃ t1 t2, vs = [.ref ld, .int i t1, .int (imin j (i + most)) t2]) ∧ n = ((dx, dictOf (cryE ck (.bytes D td) (.ref ld) (.ref la)) 3) :: (G ++ [(sp, tup2 i (imin j (i + most)) u1 u2 k1)]))) B (by walk_at "GG") (by k_dflt k_is) rfl rfl (el_w (el_cons (g_at (n := 3) cls_cry B (by walk_at "EV") (.tail _ (sub_l _ hx)) (.head _) (by k_dflt k_is) rfl rfl) rfl (el_cons (g_I (g_tupItem (jn := 0) (by walk_at "EV") (.tail _ (sub_r _ (.head _))) rfl (by decide) (fun _ => rfl))) rfl (el_cons (g_I (g_tupItem (jn := 1) (by walk_at "EV") (.tail _ (sub_r _ (.head _))) rfl (by decide) (fun _ => rfl))) rfl el_nil))) ?_) ?_
      · rintro _ _ ⟨_, _, rfl, rfl, _, _, rfl, ⟨t1, rfl⟩, _, _, rfl, ⟨t2, rfl⟩, rfl, rfl⟩
        exact ⟨⟨t1, t2, rfl⟩, rfl⟩
      · rintro _ _ ⟨⟨t1, t2, rfl⟩, rfl⟩
        exact c_does B (does_cut (.tail _ (sub_l _ hl)) (fun p hp => .tail _ (sub_l _ (hK p hp))) hd hb) (by decide) (by decide)
    · rintro v n' ⟨a, us, k, tl, rfl, rfl, hab, ha, hS⟩
      have hne2 : ∀ p ∈ G ++ [(sp, tup2 i (imin j (i + most)) u1 u2 k1)] ++ tl, p.1 ≠ dx := List.forall_mem_append.mpr ⟨List.forall_mem_append.mpr ⟨hne, List.forall_mem_cons.mpr ⟨Nat.ne_of_gt (hsp _ (.head _)), List.forall_mem_nil _⟩⟩, fun p hp => Nat.ne_of_gt (hab _ (.head _) p hp)⟩
      refine ⟨_, 3, G ++ [(sp, tup2 i (imin j (i + most)) u1 u2 k1)] ++ tl, rfl, sub_l _ (sub_l _ hx), hne2, rfl, fun hsh key => ⟨Nat.le_of_ble_eq_true rfl, ?_⟩⟩
      show RunS c _ ((dx, dictOf (cryE ck (.bytes D td) (.ref a) (.ref la)) 3) :: (G ++ [(sp, tup2 i (imin j (i + most)) u1 u2 k1)] ++ tl)) _ qe
      refine s_retE (ev_tup2 (P := IsI i) (R := IsB (KBy.picked D (some i) (some (imin j (i + most))))) (g_I (g_tupItem (jn := 0) (by walk_at "EV") (.tail _ (sub_l _ (sub_r _ (.head _)))) rfl (by decide) (fun _ => rfl))) (g_sliceB (g_B (g_at (n := 3) cls_cry B (by walk_at "EV") (.tail _ (sub_l _ (sub_l _ hx))) (.head _) (by k_dflt k_is) rfl rfl)) (g_I (g_tupItem (jn := 0) (by walk_at "EV") (.tail _ (sub_l _ (sub_r _ (.head _)))) rfl (by decide) (fun _ => rfl))) (g_I (g_tupItem (jn := 1) (by walk_at "EV") (.tail _ (sub_l _ (sub_r _ (.head _)))) rfl (by decide) (fun _ => rfl))) hz (fun _ _ => rfl) (fun _ _ => rfl)) rfl rfl) ?_
      rintro r n' ⟨_, _, p, ⟨t1, rfl⟩, ⟨t2, rfl⟩, rfl, rfl, hp⟩
      have hdp : dx < p := hp _ (.head _)
      refine h_ends _ (.inr ⟨i, j, hS0, hm, _, _, _, tl ++ [(p, _)], rfl, .append (hab.sub fun p hp => .tail _ (sub_l _ hp)) (.cons (fun q hq => hp q (.tail _ (sub_l _ (sub_l _ hq)))) .nil), List.forall_mem_append.mpr ⟨hab _ (.head _), List.forall_mem_cons.mpr ⟨hdp, List.forall_mem_nil _⟩⟩, ⟨td, a, us, k, la, ws, n2, rfl, rfl, rfl, sub_r _ (sub_l _ ha), sub_l _ hla, hS.mono app_mono, hda.mono sub_l⟩, p, t1, t2, rfl, sub_r _ (.head _)⟩) fun q hq => ?_
      simp only [List.mem_append, List.mem_cons, List.cons_append, List.not_mem_nil, or_false] at hq ⊢
      rcases hq with h | h | h | h
      · exact .inl h
      · exact .inr (.inl (.inl (.inl h)))
      · exact .inr (.inl (.inr h))
      · exact .inr (.inr h)

theorem does_cack {K G : Led} {x dx : Addr} {ck : CK} {D : Array UInt8} {td : Tok} {ld : Addr} {vs : List Value} {n : Nat} {la : Addr} {ws : List Value} {n2 : Nat} {S A : Spans} {off sz : Int} {t1 t2 : Tok}
    (hx : (x, instObj 108 dx) ∈ G) (hne : ∀ p ∈ G, p.1 ≠ dx) (hl : (ld, listOf vs.toArray n) ∈ G) (hK : ∀ p ∈ K, p ∈ G) (hd : SpAll K vs S) (hla : (la, listOf ws.toArray n2) ∈ G) (hda : SpAll K ws A) (hb : S.length ≤ 400) (hba : A.length ≤ 400) :
    Does 98 [.ref x, .int off t1, .int sz t2] ((dx, dictOf (cryE ck (.bytes D td) (.ref ld) (.ref la)) 3) :: G) 2 19 (CPost K G dx ck D (cutSpan S off (off + sz)) (addSpan A off (off + sz)) fun r _ => r = .none) := by
  refine' does_ofS [(Str.ofString "self", .ref x), (Str.ofString "offset", .int off t1), (Str.ofString "size", .int sz t2)] ?ho ?hcd ?hbind ?hloc ?hcell ?hco ?hgen ?hk ?h; (case ho => (intro w; k_dflt k_is)); (case hcd => (intro w; k_dflt k_is)); (case hbind => (intro s; exact BindsTo.of_eq rfl)); (case hloc => rfl); (case hcell => decide); (case hco => rfl); (case hgen => rfl); (case hk => rfl); intro c0 c qe m B hlt
  refine s_setat (post := RetSp K ((dx, dictOf (cryE ck (.bytes D td) (.ref ld) (.ref la)) 3) :: G) (addSpan A off (off + sz))) (o := x) (dx := dx) cls_cry B ?_ (fun n' => (by walk_at "EV")) (by k_dflt k_is) rfl ?_
  · refine ev_call (PL := fun vs n => (∃ t1 t2, vs = [.ref la, .int off t1, .int (off + sz) t2]) ∧ n = ((dx, dictOf (cryE ck (.bytes D td) (.ref ld) (.ref la)) 3) :: G)) B (by walk_at "GG") (by k_dflt k_is) rfl rfl (el_w (el_cons (g_at (n := 3) cls_cry B (by walk_at "EV") (.tail _ hx) (.head _) (by k_dflt k_is) rfl rfl) rfl (el_cons (P := IsI off) (by walk_at "EV") rfl (el_cons (P := IsI (off + sz)) (by walk_at "EV") rfl el_nil))) ?_) ?_
    · rintro _ _ ⟨_, _, rfl, rfl, _, _, rfl, ⟨t1, rfl⟩, _, _, rfl, ⟨t2, rfl⟩, rfl, rfl⟩
      exact ⟨⟨t1, t2, rfl⟩, rfl⟩
    · rintro _ _ ⟨⟨t1, t2, rfl⟩, rfl⟩
      exact c_does B (does_add (.tail _ hla) (fun p hp => .tail _ (hK p hp)) hda hba) (by decide) (by decide)
  · rintro v n' ⟨a, us, k, tl, rfl, rfl, hab, ha, hS⟩
    have hne2 : ∀ p ∈ G ++ tl, p.1 ≠ dx := List.forall_mem_append.mpr ⟨hne, fun p hp => Nat.ne_of_gt (hab _ (.head _) p hp)⟩
    refine ⟨_, 3, G ++ tl, rfl, sub_l _ hx, hne2, rfl, fun hsh key => ⟨Nat.le_of_ble_eq_true rfl, ?_⟩⟩
    show RunS c m ((dx, dictOf (cryE ck (.bytes D td) (.ref ld) (.ref a)) 3) :: (G ++ tl)) _ qe
    refine s_setat (post := RetSp K ((dx, dictOf (cryE ck (.bytes D td) (.ref ld) (.ref a)) 3) :: (G ++ tl)) (cutSpan S off (off + sz))) (o := x) (dx := dx) cls_cry B ?_ (fun n' => (by walk_at "EV")) (by k_dflt k_is) rfl ?_
    · refine ev_call (PL := fun vs n => (∃ t1 t2, vs = [.ref ld, .int off t1, .int (off + sz) t2]) ∧ n = ((dx, dictOf (cryE ck (.bytes D td) (.ref ld) (.ref a)) 3) :: (G ++ tl))) B (by walk_at "GG") (by k_dflt k_is) rfl rfl (el_w (el_cons (g_at (n := 3) cls_cry B (by walk_at "EV") (.tail _ (sub_l _ hx)) (.head _) (by k_dflt k_is) rfl rfl) rfl (el_cons (P := IsI off) (by walk_at "EV") rfl (el_cons (P := IsI (off + sz)) (by walk_at "EV") rfl el_nil))) ?_) ?_
      · rintro _ _ ⟨_, _, rfl, rfl, _, _, rfl, ⟨t1, rfl⟩, _, _, rfl, ⟨t2, rfl⟩, rfl, rfl⟩
        exact ⟨⟨t1, t2, rfl⟩, rfl⟩
      · rintro _ _ ⟨⟨t1, t2, rfl⟩, rfl⟩
        exact c_does B (does_cut (.tail _ (sub_l _ hl)) (fun p hp => .tail _ (sub_l _ (hK p hp))) hd hb) (by decide) (by decide)
    · rintro v n' ⟨a2, us2, k2, tl2, rfl, rfl, hab2, ha2, hS2⟩
      refine ⟨_, 3, G ++ tl ++ tl2, rfl, sub_l _ (sub_l _ hx), List.forall_mem_append.mpr ⟨hne2, fun p hp => Nat.ne_of_gt (hab2 _ (.head _) p hp)⟩, rfl, fun hsh key => ⟨Nat.le_of_ble_eq_true rfl, ?_⟩⟩
      rw [List.append_assoc]
      exact s_nil (h_endsN _ ⟨_, _, _, tl ++ tl2, rfl, .append (hab.sub fun p hp => .tail _ hp) (hab2.sub fun p hp => .tail _ (sub_l p hp)), List.forall_mem_append.mpr ⟨hab _ (.head _), hab2 _ (.head _)⟩, ⟨td, a2, us2, k2, a, us, k, rfl, rfl, rfl, sub_r _ (sub_r _ ha2), sub_r _ (sub_l _ ha), hS2.mono app_mono2, hS.mono app_mono⟩, rfl⟩ fun _ h => h)

def addAll (S L : Spans) : Spans := L.foldl (fun f p => addSpan f p.1 p.2) S
def lostSp (S A : Spans) (off sz : Int) : Spans := addAll S (woSpans [(off, off + sz)] A)
def clJ (K G T : Led) (dx : Addr) (S L : Spans) (i : Nat) (s : Lp) : Prop :=
  SpAll (K ++ (T ++ s.G)) s.us s.f ∧ s.f = addAll S (L.take i) ∧ (s.l, listOf s.us.toArray s.k) ∈ G ++ (T ++ s.G) ∧ Abv G s.G ∧ ∀ p ∈ s.G, dx < p.1
theorem does_clost {K G : Led} {x dx : Addr} {ck : CK} {D : Array UInt8} {td : Tok} {ld : Addr} {vs : List Value} {n : Nat} {la : Addr} {ws : List Value} {n2 : Nat} {S A : Spans} {off sz : Int} {t1 t2 : Tok}
    (hx : (x, instObj 108 dx) ∈ G) (hne : ∀ p ∈ G, p.1 ≠ dx) (hl : (ld, listOf vs.toArray n) ∈ G) (hK : ∀ p ∈ K, p ∈ G) (hd : SpAll K vs S) (hla : (la, listOf ws.toArray n2) ∈ G) (hda : SpAll K ws A) (hb : ∀ i, (woSpans [(off, off + sz)] (A.take i)).length ≤ 400) (hbl : ∀ i, (addAll S ((woSpans [(off, off + sz)] A).take i)).length ≤ 400) :
    Does 91 [.ref x, .int off t1, .int sz t2] ((dx, dictOf (cryE ck (.bytes D td) (.ref ld) (.ref la)) 3) :: G) 3 22 (CPost K G dx ck D (lostSp S A off sz) A fun r _ => r = .none) := by
  refine' does_ofS [(Str.ofString "self", .ref x), (Str.ofString "offset", .int off t1), (Str.ofString "size", .int sz t2)] ?ho ?hcd ?hbind ?hloc ?hcell ?hco ?hgen ?hk ?h; (case ho => (intro w; k_dflt k_is)); (case hcd => (intro w; k_dflt k_is)); (case hbind => (intro s; exact BindsTo.of_eq rfl)); (case hloc => rfl); (case hcell => decide); (case hco => rfl); (case hgen => rfl); (case hk => rfl); intro c0 c qe m B hlt
  refine s_forI (post := fun r n' => ∃ E us k T a, n' = ((dx, dictOf (cryE ck (.bytes D td) (.ref ld) (.ref la)) 3) :: G) ++ T ∧ (∀ p ∈ E, p ∈ G ++ T) ∧ r = .ref a ∧ (a, listOf us.toArray k) ∈ T ∧ SpAll (E ++ T) us (woSpans [(off, off + sz)] A) ∧ Abv ((dx, dictOf (cryE ck (.bytes D td) (.ref ld) (.ref la)) 3) :: G) T) B
    (ev_call (PL := fun vs n => ∃ D1 u1 u2 D2 k1, vs = [.ref D2, .ref la] ∧ n = ((dx, dictOf (cryE ck (.bytes D td) (.ref ld) (.ref la)) 3) :: G) ++ [(D1, tup2 off (off + sz) u1 u2 0), (D2, listOf [Value.ref D1].toArray k1)] ∧ (∀ p ∈ ((dx, dictOf (cryE ck (.bytes D td) (.ref ld) (.ref la)) 3) :: G), p.1 < D1) ∧ D1 < D2) B (by walk_at "GG") (by k_dflt k_is) rfl rfl (el_w (el_consE (PL := fun v vs n => ∃ D1 u1 u2 D2 k1, v = .ref D2 ∧ vs = [.ref la] ∧ n = ((dx, dictOf (cryE ck (.bytes D td) (.ref ld) (.ref la)) 3) :: G) ++ [(D1, tup2 off (off + sz) u1 u2 0), (D2, listOf [Value.ref D1].toArray k1)] ∧ (∀ p ∈ ((dx, dictOf (cryE ck (.bytes D td) (.ref ld) (.ref la)) 3) :: G), p.1 < D1) ∧ D1 < D2) (ev_pair1 (i := off) (j := off + sz) (by walk_at "EV") (by walk_at "EV") rfl rfl rfl) rfl ?_) ?_) ?_) (fun _ => rfl) ?_
  · rintro v n' ⟨D1, u1, u2, D2, k1, rfl, rfl, h1, h2⟩
    exact el_w (el_cons (g_at (n := 3) cls_cry B (by walk_at "EV") (.tail _ (sub_l _ hx)) (.head _) (by k_dflt k_is) rfl rfl) rfl el_nil) (by rintro _ _ ⟨_, _, rfl, rfl, rfl, rfl⟩; exact ⟨D1, u1, u2, D2, k1, rfl, rfl, rfl, h1, h2⟩)
  · rintro _ n' ⟨v, _, rfl, D1, u1, u2, D2, k1, rfl, rfl, rfl, h1, h2⟩; exact ⟨D1, u1, u2, D2, k1, rfl, rfl, h1, h2⟩
  · rintro _ _ ⟨D1, u1, u2, D2, k1, rfl, rfl, h1, h2⟩ h tk q F N hq
    refine c_does B (does_wo (K := K ++ [(D1, tup2 off (off + sz) u1 u2 0)]) (sub_r _ (.tail _ (.head _))) (.tail _ (sub_l _ hla)) ?_ (.one (sub_r _ (.head _))) (hda.mono sub_l) hb) (by decide) (by decide) h tk q F N ?_
    · intro p hp
      exact (List.mem_append.mp hp).elim (fun h => .tail _ (sub_l p (hK p h))) fun h => by rw [List.mem_singleton.mp h]; exact .tail _ (sub_r _ (.head _))
    · rintro r n' h' tk' ⟨a, us, k, tl, rfl, rfl, hab, ha, hS⟩ F N
      refine hq _ _ h' tk' ⟨K ++ [(D1, tup2 off (off + sz) u1 u2 0)], us, k, [(D1, tup2 off (off + sz) u1 u2 0), (D2, listOf [Value.ref D1].toArray k1)] ++ tl, a, List.append_assoc .., ?_, rfl, sub_r _ ha, hS.mono app_mono2, .append (.cons h1 (.cons (fun q hq => Nat.lt_trans (h1 q hq) h2) .nil)) (hab.sub sub_l)⟩ F N
      exact fun p hp => (List.mem_append.mp hp).elim (fun h => sub_l p (hK p h)) fun h => by rw [List.mem_singleton.mp h]; exact sub_r _ (.head _)
  · rintro v n' ⟨E, us, k, T, a, rfl, hE, rfl, ha, hS, hab⟩
    have hTd : ∀ p ∈ T, dx < p.1 := hab _ (.head _)
    have hneT : ∀ p ∈ G ++ T, p.1 ≠ dx := List.forall_mem_append.mpr ⟨hne, fun p hp => Nat.ne_of_gt (hTd p hp)⟩
    refine it_sub ((dx, dictOf (cryE ck (.bytes D td) (.ref ld) (.ref la)) 3) :: (G ++ (T ++ []))) (fun p hp => by rw [List.append_nil] at hp; exact hp) ?_
    refine it_S (σ := Lp) (keep := E ++ T) (fun s => [(Str.ofString "self", .ref x)]) (fun s => (dx, dictOf (cryE ck (.bytes D td) (.ref s.l) (.ref la)) 3) :: (G ++ (T ++ s.G))) (clJ K G T dx S (woSpans [(off, off + sz)] A)) ⟨ld, vs, n, S, false, 0, 0, 0, 0, []⟩ B (sub_r _ ha) hS (fun s p hp => .tail _ ?_) (by (repeat (first | exact List.forall_mem_nil _ | refine List.forall_mem_cons.mpr ⟨by with_unfolding_all rfl, ?_⟩))) ⟨hd.mono sub_l, rfl, sub_l _ hl, .nil, List.forall_mem_nil _⟩ (by walk_at "RF") (by walk_at "RF") ?_ ?_
    · exact (List.mem_append.mp hp).elim (fun h => app_mono _ (hE p h)) fun h => sub_r _ (sub_l _ h)
    · intro i s u I ob y z u1 u2 hp hj hnx qt mt nt
      have hxn : (x, instObj 108 dx) ∈ nt := .tail _ (sub_l _ (sub_l _ hx))
      refine s_setat (post := RetSp (K ++ (T ++ s.G)) nt (addSpan s.f y z)) (o := x) (dx := dx) cls_cry B ?_ (fun n' => (by walk_at "EV")) (by k_dflt k_is) rfl ?_
      · refine ev_call (PL := fun vs n => (∃ t1 t2, vs = [.ref s.l, .int y t1, .int z t2]) ∧ n = nt) B (by walk_at "GG") (by k_dflt k_is) rfl rfl (el_w (el_cons (g_at (n := 3) cls_cry B (by walk_at "EV") hxn (.head _) (by k_dflt k_is) rfl rfl) rfl (el_cons (P := IsI y) (by walk_at "EV") rfl (el_cons (P := IsI z) (by walk_at "EV") rfl el_nil))) ?_) ?_
        · rintro _ _ ⟨_, _, rfl, rfl, _, _, rfl, ⟨t1, rfl⟩, _, _, rfl, ⟨t2, rfl⟩, rfl, rfl⟩
          exact ⟨⟨t1, t2, rfl⟩, rfl⟩
        · rintro _ _ ⟨⟨t1, t2, rfl⟩, rfl⟩
          exact c_does B (does_add (K := K ++ (T ++ s.G)) (.tail _ (sub_l _ hj.2.2.1)) (fun p hp => .tail _ (sub_l _ ((List.mem_append.mp hp).elim (fun h => sub_l p (hK p h)) (sub_r p)))) hj.1 (by rw [hj.2.1]; exact hbl i)) (by decide) (by decide)
      · rintro v n' ⟨a2, us2, k2, tl, rfl, rfl, hab2, ha2, hS2⟩
        have hdl : ∀ p ∈ tl, dx < p.1 := hab2 _ (.head _)
        have hGG : ∀ p ∈ G ++ (T ++ s.G) ++ [(I, ob)] ++ tl, p.1 ≠ dx := List.forall_mem_append.mpr ⟨List.forall_mem_append.mpr ⟨List.forall_mem_append.mpr ⟨hne, List.forall_mem_append.mpr ⟨fun p hp => Nat.ne_of_gt (hTd p hp), fun p hp => Nat.ne_of_gt (hj.2.2.2.2 p hp)⟩⟩, List.forall_mem_cons.mpr ⟨fun e => hnx _ (.head _) e.symm, List.forall_mem_nil _⟩⟩, fun p hp => Nat.ne_of_gt (hdl p hp)⟩
        refine ⟨_, 3, G ++ (T ++ s.G) ++ [(I, ob)] ++ tl, rfl, sub_l _ (sub_l _ (sub_l _ hx)), hGG, rfl, fun hsh key => ⟨Nat.le_of_ble_eq_true rfl, ?_⟩⟩
        refine s_turnS ⟨a2, us2, k2, addSpan s.f y z, false, 0, 0, 0, 0, s.G ++ tl⟩ (fun p hp => ?_) (.tail _ (sub_l _ (sub_r _ (.head _)))) ?_ (by (repeat (first | exact List.forall_mem_nil _ | refine List.forall_mem_cons.mpr ⟨by with_unfolding_all rfl, ?_⟩))) ⟨?_, ?_, sub_r _ (sub_r _ (sub_r _ ha2)), .append hj.2.2.2.1 (hab2.sub fun p hp => .tail _ (sub_l _ (sub_l _ hp))), List.forall_mem_append.mpr ⟨hj.2.2.2.2, hdl⟩⟩
        · refine (List.mem_cons.mp hp).elim (fun e => e ▸ .head _) fun hp => .tail _ ?_
          rw [← List.append_assoc T, ← List.append_assoc G] at hp
          exact (List.mem_append.mp hp).elim (fun h => sub_l _ (sub_l _ h)) (sub_r _)
        · intro p hp
          rcases List.mem_cons.mp hp with rfl | hp
          · exact hnx (dx, dictOf (cryE ck (.bytes D td) (.ref s.l) (.ref la)) 3) (.head _)
          · rw [← List.append_assoc T, ← List.append_assoc G] at hp
            exact (List.mem_append.mp hp).elim (fun h => hnx p (.tail _ h)) fun h => Nat.ne_of_gt (hab2 _ (.tail _ (sub_r _ (.head _))) p h)
        · show SpAll (K ++ (T ++ (s.G ++ tl))) us2 _
          rw [← List.append_assoc T, ← List.append_assoc K]; exact hS2
        · show addSpan s.f y z = addAll S (List.take (i + 1) _)
          rw [hj.2.1, take_snoc hp, addAll, addAll, List.foldl_append]; rfl
    · intro s u hj mt nt
      have hf := hj.2.1
      rw [List.take_length] at hf
      exact s_nil (h_endsN _ ⟨_, _, _, T ++ s.G, rfl, .append (hab.sub fun p hp => .tail _ hp) hj.2.2.2.1, List.forall_mem_append.mpr ⟨hTd, hj.2.2.2.2⟩, ⟨td, s.l, s.us, s.k, la, ws, n2, rfl, rfl, rfl, hj.2.2.1, sub_l _ hla, by rw [lostSp, ← hf]; exact hj.1, hda.mono sub_l⟩, rfl⟩ fun _ h => h)

def isDone (W : Nat) (A : Spans) : Bool := decide (W = 0) || decide (A = [(0, (W : Int))])
theorem does_cdone {K G : Led} {x dx : Addr} {ck : CK} {D : Array UInt8} {td : Tok} {ld : Addr} {vs : List Value} {n : Nat} {la : Addr} {ws : List Value} {n2 : Nat} {S A : Spans}
    (hx : (x, instObj 108 dx) ∈ G) (hl : (ld, listOf vs.toArray n) ∈ G) (hK : ∀ p ∈ K, p ∈ G) (hd : SpAll K vs S) (hla : (la, listOf ws.toArray n2) ∈ G) (hda : SpAll K ws A) (hz : D.size ≤ 1000) :
    Does 105 [.ref x] ((dx, dictOf (cryE ck (.bytes D td) (.ref ld) (.ref la)) 3) :: G) 1 70 (CPost K G dx ck D S A fun r _ => r = .bool (isDone D.size A)) := by
  refine' does_ofS [(Str.ofString "self", .ref x)] ?ho ?hcd ?hbind ?hloc ?hcell ?hco ?hgen ?hk ?h; (case ho => (intro w; k_dflt k_is)); (case hcd => (intro w; k_dflt k_is)); (case hbind => (intro s; exact BindsTo.of_eq rfl)); (case hloc => rfl); (case hcell => decide); (case hco => rfl); (case hgen => rfl); (case hk => rfl); intro c0 c qe m B hlt
  have fin : ∀ tl, Abv ((dx, dictOf (cryE ck (.bytes D td) (.ref ld) (.ref la)) 3) :: G) tl → CryIs (K ++ tl) (G ++ tl) (.bytes D td) (.ref ld) (.ref la) D S A := fun tl _ => ⟨td, ld, vs, n, la, ws, n2, rfl, rfl, rfl, sub_l _ hl, sub_l _ hla, hd.mono sub_l, hda.mono sub_l⟩
  refine s_retE (post := CPost K G dx ck D S A fun r _ => r = .bool (isDone D.size A)) (v_or (g_eqI (g_b1 (by walk_at "GB") rfl (g_at (n := 3) cls_cry B (by walk_at "EV") (.tail _ hx) (.head _) (by k_dflt k_is) rfl rfl) (c_lenB hz)) g_int rfl) (fun h => ?_) fun h => ?_) (fun v n' hv => h_ends n' hv fun _ h => h)
  · refine ⟨_, _, _, [], by rw [List.append_nil], .nil, List.forall_mem_nil _, fin [] .nil, ?_⟩
    have h0 : D.size = 0 := by have := of_decide_eq_true h; omega
    rw [isDone, decide_eq_true h0]; rfl
  · refine ev_w (ev_eqSp (S := A) (T := [(0, (D.size : Int))]) (K := K) (l := la) (us := ws) (n := n2) B (by decide) (g_at (n := 3) cls_cry B (by walk_at "EV") (.tail _ hx) (.head _) (by k_dflt k_is) rfl rfl) hda (ev_pair1 (i := 0) (j := D.size) g_int (g_b1 (by walk_at "GB") rfl (g_at (n := 3) cls_cry B (by walk_at "EV") (.tail _ hx) (.head _) (by k_dflt k_is) rfl rfl) (c_lenB hz)) rfl rfl rfl) rfl ?_) ?_
    · rintro r n' ⟨P, t, u, P2, k, rfl, rfl, h1, h2⟩
      exact ⟨fun p hp => .tail _ (sub_l _ (hK p hp)), .tail _ (sub_l _ hla), P2, _, k, [(P, tup2 0 D.size t u 0)], rfl, sub_r _ (.tail _ (.head _)), List.forall_mem_cons.mpr ⟨sub_r _ (.head _), List.forall_mem_nil _⟩, .one (.head _)⟩
    · rintro r n' ⟨rfl, r', P, t, u, P2, k, rfl, rfl, h1, h2⟩
      have hab : Abv ((dx, dictOf (cryE ck (.bytes D td) (.ref ld) (.ref la)) 3) :: G) [(P, tup2 0 D.size t u 0), (P2, listOf [Value.ref P].toArray k)] := .cons h1 (.cons (fun q hq => Nat.lt_trans (h1 q hq) h2) .nil)
      refine ⟨_, _, _, _, rfl, hab.sub fun p hp => .tail _ hp, hab _ (.head _), fin _ hab, ?_⟩
      have h0 : ¬ D.size = 0 := fun e => by have := of_decide_eq_false h; omega
      rw [isDone, decide_eq_false h0, Bool.false_or]

theorem does_write {K G : Led} {y dy : Addr} {pk : PKs} {p : PS} {v : PV} {b : Array UInt8} {tb : Tok}
    (hy : (y, instObj 255 dy) ∈ G) (hne : ∀ q ∈ G, q.1 ≠ dy) (hP : PIs K G p v) (hz : p.D.size + b.size ≤ 1000) :
    Does 154 [.ref y, .bytes b tb] ((dy, dictOf (parV pk p v) 11) :: G) 2 19 (PPost K G dy pk { p with D := p.D ++ b } fun r _ => r = .none) := by
  refine' does_ofS [(Str.ofString "self", .ref y), (Str.ofString "data", .bytes b tb)] ?ho ?hcd ?hbind ?hloc ?hcell ?hco ?hgen ?hk ?h; (case ho => (intro w; k_dflt k_is)); (case hcd => (intro w; k_dflt k_is)); (case hbind => (intro s; exact BindsTo.of_eq rfl)); (case hloc => rfl); (case hcell => decide); (case hco => rfl); (case hgen => rfl); (case hk => rfl); intro c0 c qe m B hlt
  refine s_if (t_or (t_notOpen (sent := p.sent) (t := v.ts) B (g_at (n := 11) cls_part B (by walk_at "EV") (.tail _ hy) (.head _) (by k_dflt k_is) rfl rfl) (by walk_at "GG") rfl) fun _ => t_or (t_val (g_at (n := 11) cls_part B (by walk_at "EV") (.tail _ hy) (.head _) (by k_dflt k_is) rfl rfl) rfl) fun _ => t_orN) (fun h => nomatch h) fun _ => s_end ?_
  refine s_setat (o := y) (dx := dy) cls_part B (g_ev (g_addB hz (g_B (g_at (n := 11) cls_part B (by walk_at "EV") (.tail _ hy) (.head _) (by k_dflt k_is) rfl rfl)) (g_t1 (by walk_at "GB") rfl (u := .bytes b tb) (by walk_at "EV") c_bb))) (fun n' => (by walk_at "EV")) (by k_dflt k_is) rfl ?_
  rintro _ _ ⟨⟨td2, rfl⟩, rfl⟩
  refine ⟨_, 11, G, rfl, hy, hne, rfl, fun hsh key => ⟨Nat.le_of_ble_eq_true rfl, ?_⟩⟩
  refine s_nil (h_endsN _ ⟨{ v with td := td2 }, [], by rw [List.append_nil]; rfl, .nil, List.forall_mem_nil _, ?_, rfl⟩ fun _ h => h)
  rw [List.append_nil, List.append_nil]
  exact hP

def roomOf (p : PS) : Int := imax 0 (imin p.D.size 1099511627776 - p.to)
theorem does_room {K G : Led} {y dy : Addr} {pk : PKs} {p : PS} {v : PV}
    (hy : (y, instObj 255 dy) ∈ G) (hz : p.D.size ≤ 1000) :
    Does 189 [.ref y, .none] ((dy, dictOf (parV pk p v) 11) :: G) 1 16 (fun r n' => IsI (roomOf p) r ∧ n' = (dy, dictOf (parV pk p v) 11) :: G) := by
  refine' does_ofS [(Str.ofString "self", .ref y), (Str.ofString "most_new", .none)] ?ho ?hcd ?hbind ?hloc ?hcell ?hco ?hgen ?hk ?h; (case ho => (intro w; k_dflt k_is)); (case hcd => (intro w; k_dflt k_is)); (case hbind => (intro s; exact BindsTo.of_eq rfl)); (case hloc => rfl); (case hcell => decide); (case hco => rfl); (case hgen => rfl); (case hk => rfl); intro c0 c qe m B hlt
  refine s_if (t_notOpen (sent := p.sent) (t := v.ts) B (g_at (n := 11) cls_part B (by walk_at "EV") (.tail _ hy) (.head _) (by k_dflt k_is) rfl rfl) (by walk_at "GG") rfl) (fun h => nomatch h) fun _ => s_end ?_
  refine s_assign B (g_sub (g_b2 (by walk_at "GB") rfl rfl rfl (g_b1 (by walk_at "GB") rfl (g_at (n := 11) cls_part B (by walk_at "EV") (.tail _ hy) (.head _) (by k_dflt k_is) rfl rfl) (c_lenB hz)) (g_I (g_at (n := 11) cls_part B (by walk_at "EV") (.tail _ hy) (.head _) (by k_dflt k_is) rfl rfl)) c_min) (g_I (g_at (n := 11) cls_part B (by walk_at "EV") (.tail _ hy) (.head _) (by k_dflt k_is) rfl rfl))) rfl (by walk_at "RF") ?_
  rintro v' ⟨t1, rfl⟩
  refine s_ret (P := IsI (roomOf p)) (g_b2 (by walk_at "GB") rfl rfl rfl g_int (g_ifT (t_isN1 (by walk_at "EV") rfl) (P := IsI (imin p.D.size 1099511627776 - p.to)) (by walk_at "EV")) c_max) fun r hr => h_ends _ ⟨hr, rfl⟩ fun _ h => h
theorem does_hasto {K G : Led} {y dy : Addr} {pk : PKs} {p : PS} {v : PV}
    (hy : (y, instObj 255 dy) ∈ G) (hP : PIs K G p v) (hz : p.D.size ≤ 1000) (hL : p.L.length ≤ 1000) :
    Does 203 [.ref y, .none] ((dy, dictOf (parV pk p v) 11) :: G) 2 19 (fun r n' => r = .bool (decide (0 < (p.L.length : Int)) || decide (0 < roomOf p)) ∧ n' = (dy, dictOf (parV pk p v) 11) :: G) := by
  refine' does_ofS [(Str.ofString "self", .ref y), (Str.ofString "most_new", .none)] ?ho ?hcd ?hbind ?hloc ?hcell ?hco ?hgen ?hk ?h; (case ho => (intro w; k_dflt k_is)); (case hcd => (intro w; k_dflt k_is)); (case hbind => (intro s; exact BindsTo.of_eq rfl)); (case hloc => rfl); (case hcell => decide); (case hco => rfl); (case hgen => rfl); (case hk => rfl); intro c0 c qe m B hlt
  refine s_if (t_or (t_val (g_at (n := 11) cls_part B (by walk_at "EV") (.tail _ hy) (.head _) (by k_dflt k_is) rfl rfl) rfl) fun _ => t_or (b := decide (0 < (p.L.length : Int))) (t_gt (i := p.L.length) (g_b1 (by walk_at "GB") rfl (g_at (n := 11) cls_part B (by walk_at "EV") (.tail _ hy) (.head _) (by k_dflt k_is) rfl rfl) (by rw [← hP.2.2.2.length]; exact c_len (.tail _ hP.2.1) (by rw [hP.2.2.2.length]; exact hL))) g_int rfl) fun _ => t_or (b := decide (0 < roomOf p)) (t_gt (i := roomOf p) (ev_g (ev_meth (PL := fun vs n => vs = [.none] ∧ n = (dy, dictOf (parV pk p v) 11) :: G) B (by walk_at "EV") (meths_at (n := 11) cls_part B (.tail _ hy) (.head _) (by k_dflt k_is) (by k_dflt k_is) rfl) (by k_dflt k_is) rfl rfl rfl (el_w (el_cons (P := (· = .none)) (by walk_at "EV") rfl el_nil) ?_) ?_)) g_int rfl) fun _ => t_orN) (fun hb => ?_) fun hb => ?_
  · rintro _ _ ⟨_, _, rfl, rfl, rfl, rfl⟩; exact ⟨rfl, rfl⟩
  · rintro _ _ ⟨rfl, rfl⟩
    exact c_does B (does_room (K := K) hy hz) (by decide) (by decide)
  · refine s_ret g_bool (fun r hr => h_then (h_ends _ ⟨?_, rfl⟩ fun _ h => h))
    rw [hr]
    simp only [Bool.false_or, Bool.or_false] at hb
    rw [hb]
  · refine s_end (s_ret (g_andF (g_at (n := 11) cls_part B (by walk_at "EV") (.tail _ hy) (.head _) (by k_dflt k_is) rfl rfl)) (fun r hr => h_ends _ ⟨?_, rfl⟩ fun _ h => h))
    rw [hr]
    simp only [Bool.false_or, Bool.or_false] at hb
    rw [hb]

section
variable {c : Cx} {m : Fm} {news : Led} {e a b : PySem.Expr} {Q : Flow → Shared → Prop} {rest : List Stmt} {pos : Pos} {t t2 : Tok}
theorem s_cutM {st : Stmt} (K : Fm → Led → Prop) (h2 : ∀ m' n', K m' n' → RunS c m' n' rest Q) (h1 : (∀ m' n', K m' n' → RunS c m' n' rest Q) → RunS c m news (st :: rest) Q) : RunS c m news (st :: rest) Q := h1 h2
theorem t_notDS {s : Bool} (ha : Gives c m news a (· = .str (stS s) t)) (hb : Gives c m news b (· = .str (Str.ofString "data_sent") t2)) (hm : behindInMarks .Eq b = false) : Tests c m news (.Compare a [.Eq] [b] pos) false := by
  have h := t_eqStr (pos := pos) ha hb hm
  rwa [show (stS s == Str.ofString "data_sent") = false by cases s <;> decide] at h
end
def PnLo (p : PS) (most lo hi : Int) : Prop := ((p.L = [] ∨ most ≤ 0) ∧ lo = p.to ∧ hi = p.to + imax 0 (imin most (roomOf p))) ∨ ∃ j, p.L[0]? = some (lo, j) ∧ 0 < most ∧ hi = imin j (lo + most)
theorem does_pnext {K G : Led} {y dy : Addr} {pk : PKs} {p : PS} {v : PV} {most : Int} {tm : Tok}
    (hy : (y, instObj 255 dy) ∈ G) (hne : ∀ q ∈ G, q.1 ≠ dy) (hK : ∀ q ∈ K, q ∈ G) (hP : PIs K G p v) (hz : p.D.size ≤ 1000) (hL : p.L.length ≤ 400) :
    Does 210 [.ref y, .int most tm, .none] ((dy, dictOf (parV pk p v) 11) :: G) 2 19 (fun r n' => ∃ lo hi, PnLo p most lo hi ∧
      ((lo = hi ∧ PPost K G dy pk p (fun r _ => r = .none) r n') ∨ (lo ≠ hi ∧ PPost K G dy pk ⟨true, p.D, imax p.to hi, p.A, cutSpan p.L lo hi⟩ (fun r tl => ∃ a t1 t2, r = .ref a ∧
        (a, ({ cls := .type "tuple", data := .seq [.int lo t1, .bytes (KBy.picked p.D (some lo) (some hi)) t2, .bool false].toArray } : Obj)) ∈ tl) r n'))) := by
  refine' does_ofS [(Str.ofString "self", .ref y), (Str.ofString "most", .int most tm), (Str.ofString "most_new", .none)] ?ho ?hcd ?hbind ?hloc ?hcell ?hco ?hgen ?hk ?h; (case ho => (intro w; k_dflt k_is)); (case hcd => (intro w; k_dflt k_is)); (case hbind => (intro s; exact BindsTo.of_eq rfl)); (case hloc => rfl); (case hcell => decide); (case hco => rfl); (case hgen => rfl); (case hk => rfl); intro c0 c qe m B hlt
  refine s_if (t_and (t_notOpen (sent := p.sent) (t := v.ts) B (g_at (n := 11) cls_part B (by walk_at "EV") (.tail _ hy) (.head _) (by k_dflt k_is) rfl rfl) (by walk_at "GG") rfl) (b' := true) (fun h => nomatch h)) (fun h => nomatch h) fun _ => s_end ?_
  refine s_assignE (post := fun r n' => (r = .none ∧ n' = ((dy, dictOf (parV pk p v) 11) :: G) ∧ (p.L = [] ∨ most ≤ 0)) ∨
      ∃ i j a t u k, p.L[0]? = some (i, j) ∧ 0 < most ∧ r = .ref a ∧ n' = ((dy, dictOf (parV pk p v) 11) :: G) ++ [(a, tup2 i (imin j (i + most)) t u k)] ∧ ∀ q ∈ ((dy, dictOf (parV pk p v) 11) :: G), q.1 < a) B (ev_call (PL := fun vs n => (∃ t1, vs = [.ref v.ll, .int most t1]) ∧ n = ((dy, dictOf (parV pk p v) 11) :: G)) B (by walk_at "GG") (by k_dflt k_is) rfl rfl (el_w (el_cons (g_at (n := 11) cls_part B (by walk_at "EV") (.tail _ hy) (.head _) (by k_dflt k_is) rfl rfl) rfl (el_cons (P := IsI most) (by walk_at "EV") rfl el_nil)) ?_) ?_) rfl (by walk_at "RF") ?_
  · rintro _ _ ⟨_, _, rfl, rfl, _, _, rfl, ⟨t1, rfl⟩, rfl, rfl⟩
    exact ⟨⟨t1, rfl⟩, rfl⟩
  · rintro _ _ ⟨⟨t1, rfl⟩, rfl⟩
    exact c_does B (does_first (.tail _ hP.2.1) (hP.2.2.2.mono fun q hq => .tail _ (hK q hq)) (Nat.le_trans hL (by decide))) (by decide) (by decide)
  intro sv n' hfs
  refine s_cutM (fun m' n' => ∃ u sp lo hi t1 t2 k1, m' = ov [(Str.ofString "self", .ref y), (Str.ofString "span", .ref sp)] u ∧ n' = ((dy, dictOf (parV pk p v) 11) :: G) ++ [(sp, tup2 lo hi t1 t2 k1)] ∧ (∀ q ∈ ((dy, dictOf (parV pk p v) 11) :: G), q.1 < sp) ∧ PnLo p most lo hi) ?tail ?_
  case tail =>
    rintro m' n' ⟨u, sp, lo, hi, t1, t2, k1, rfl, rfl, hsp, hlo⟩
    have hne1 : ∀ q ∈ G ++ [(sp, tup2 lo hi t1 t2 k1)], q.1 ≠ dy := List.forall_mem_append.mpr ⟨hne, List.forall_mem_cons.mpr ⟨Nat.ne_of_gt (hsp _ (.head _)), List.forall_mem_nil _⟩⟩
    refine s_unp2 (post := fun r n' => r = .ref sp ∧ n' = ((dy, dictOf (parV pk p v) 11) :: (G ++ [(sp, tup2 lo hi t1 t2 k1)]))) B (g_ev (by walk_at "EV")) (by walk_at "RF") (by walk_at "RF") (by walk_at "RF") (by walk_at "RF") ?_
    rintro r n' ⟨rfl, rfl⟩
    refine ⟨sp, _, _, k1, rfl, .tail _ (sub_r _ (.head _)), ?_⟩
    refine s_assign B (P := (· = .bool false)) (g_andF (g_at (n := 11) cls_part B (by walk_at "EV") (.tail _ (sub_l _ hy)) (.head _) (by k_dflt k_is) rfl rfl)) rfl (by walk_at "RF") ?_
    rintro _ rfl
    refine s_if (t_and (b' := true) (t_eq (i := lo) (j := hi) (by walk_at "EV") (by walk_at "EV") rfl) fun _ => t_and (b := true) (t_not (b := false) (t_val (by walk_at "EV") rfl)) fun _ => t_andN) (fun hb => ?_) fun hb => ?_
    · have hlh : lo = hi := of_decide_eq_true (by rwa [Bool.and_true] at hb)
      exact s_ret g_none (fun r hr => h_then (h_ends _ ⟨lo, hi, hlo, .inl ⟨hlh, v, [(sp, tup2 lo hi t1 t2 k1)], rfl, .cons (fun q hq => hsp q (.tail _ hq)) .nil, List.forall_mem_cons.mpr ⟨hsp _ (.head _), List.forall_mem_nil _⟩, ⟨sub_l _ hP.1, sub_l _ hP.2.1, hP.2.2.1.mono sub_l, hP.2.2.2.mono sub_l⟩, hr⟩⟩ fun _ h => h))
    have hlh : lo ≠ hi := of_decide_eq_false (by rwa [Bool.and_true] at hb)
    refine s_end ?_
    refine s_setat (post := RetSp K ((dy, dictOf (parV pk p v) 11) :: (G ++ [(sp, tup2 lo hi t1 t2 k1)])) (cutSpan p.L lo hi)) (o := y) (dx := dy) cls_part B ?_ (fun n' => (by walk_at "EV")) (by k_dflt k_is) rfl ?_
    · refine ev_call (PL := fun vs n => (∃ t1 t2, vs = [.ref v.ll, .int lo t1, .int hi t2]) ∧ n = ((dy, dictOf (parV pk p v) 11) :: (G ++ [(sp, tup2 lo hi t1 t2 k1)]))) B (by walk_at "GG") (by k_dflt k_is) rfl rfl (el_w (el_cons (g_at (n := 11) cls_part B (by walk_at "EV") (.tail _ (sub_l _ hy)) (.head _) (by k_dflt k_is) rfl rfl) rfl (el_cons (P := IsI lo) (by walk_at "EV") rfl (el_cons (P := IsI hi) (by walk_at "EV") rfl el_nil))) ?_) ?_
      · rintro _ _ ⟨_, _, rfl, rfl, _, _, rfl, ⟨t1, rfl⟩, _, _, rfl, ⟨t2, rfl⟩, rfl, rfl⟩
        exact ⟨⟨t1, t2, rfl⟩, rfl⟩
      · rintro _ _ ⟨⟨t1, t2, rfl⟩, rfl⟩
        exact c_does B (does_cut (.tail _ (sub_l _ hP.2.1)) (fun q hq => .tail _ (sub_l _ (hK q hq))) hP.2.2.2 hL) (by decide) (by decide)
    rintro r n' ⟨a, us, k, tl, rfl, rfl, hab, ha, hS⟩
    have hne2 : ∀ q ∈ G ++ [(sp, tup2 lo hi t1 t2 k1)] ++ tl, q.1 ≠ dy := List.forall_mem_append.mpr ⟨hne1, fun q hq => Nat.ne_of_gt (hab _ (.head _) q hq)⟩
    refine ⟨_, 11, G ++ [(sp, tup2 lo hi t1 t2 k1)] ++ tl, rfl, sub_l _ (sub_l _ hy), hne2, rfl, fun hsh key => ⟨Nat.le_of_ble_eq_true rfl, ?_⟩⟩
    show RunS c _ ((dy, dictOf (parE pk (.int 1099511627776 v.lm) (.str (stS p.sent) v.ts) (.bytes p.D v.td) (.int p.to v.tw) (.ref v.la) (.ref a)) 11) :: (G ++ [(sp, tup2 lo hi t1 t2 k1)] ++ tl)) _ qe
    have hy2 : ∀ {o : Obj}, (y, instObj 255 dy) ∈ (dy, o) :: (G ++ [(sp, tup2 lo hi t1 t2 k1)] ++ tl) := .tail _ (sub_l _ (sub_l _ hy))
    refine s_setat (o := y) (dx := dy) cls_part B (g_ev (g_b2 (T := IsI (imax p.to hi)) (by walk_at "GB") rfl rfl rfl (g_I (g_at (n := 11) cls_part B (by walk_at "EV") hy2 (.head _) (by k_dflt k_is) rfl rfl)) (R := IsI hi) (by walk_at "EV") c_max)) (fun n' => (by walk_at "EV")) (by k_dflt k_is) rfl ?_
    rintro _ _ ⟨⟨tw2, rfl⟩, rfl⟩
    refine ⟨_, 11, G ++ [(sp, tup2 lo hi t1 t2 k1)] ++ tl, rfl, sub_l _ (sub_l _ hy), hne2, rfl, fun hsh key => ⟨Nat.le_of_ble_eq_true rfl, ?_⟩⟩
    show RunS c _ ((dy, dictOf (parE pk (.int 1099511627776 v.lm) (.str (stS p.sent) v.ts) (.bytes p.D v.td) (.int (imax p.to hi) tw2) (.ref v.la) (.ref a)) 11) :: (G ++ [(sp, tup2 lo hi t1 t2 k1)] ++ tl)) _ qe
    refine s_if (t_val (b := false) (by walk_at "EV") rfl) (fun h => nomatch h) fun _ => s_end ?_
    refine s_setat (o := y) (dx := dy) cls_part B (g_ev (P := (· = .str (Str.ofString "send") 370)) (g_ifF (t_or (b := false) (b' := false) (t_val (by walk_at "EV") rfl) fun _ => t_or (b := false) (b' := false) (t_notDS (s := p.sent) (t := v.ts) (t2 := 372) (g_at (n := 11) cls_part B (by walk_at "EV") hy2 (.head _) (by k_dflt k_is) rfl rfl) (by walk_at "GG") rfl) fun _ => t_orN) (by walk_at "GG"))) (fun n' => (by walk_at "EV")) (by k_dflt k_is) rfl ?_
    rintro _ _ ⟨rfl, rfl⟩
    refine ⟨_, 11, G ++ [(sp, tup2 lo hi t1 t2 k1)] ++ tl, rfl, sub_l _ (sub_l _ hy), hne2, rfl, fun hsh key => ⟨Nat.le_of_ble_eq_true rfl, ?_⟩⟩
    show RunS c _ ((dy, dictOf (parE pk (.int 1099511627776 v.lm) (.str (stS true) 370) (.bytes p.D v.td) (.int (imax p.to hi) tw2) (.ref v.la) (.ref a)) 11) :: (G ++ [(sp, tup2 lo hi t1 t2 k1)] ++ tl)) _ qe
    refine s_retE (ev_tup3 (P := IsI lo) (R := IsB (KBy.picked p.D (some lo) (some hi))) (T := (· = .bool false)) (by walk_at "EV") (g_sliceB (g_B (g_at (n := 11) cls_part B (by walk_at "EV") hy2 (.head _) (by k_dflt k_is) rfl rfl)) (by walk_at "EV") (by walk_at "EV") hz (fun _ _ => rfl) (fun _ _ => rfl)) (by walk_at "EV") rfl rfl rfl) ?_
    rintro r n' ⟨_, _, _, pp, ⟨t3, rfl⟩, ⟨t4, rfl⟩, rfl, rfl, rfl, hp⟩
    refine h_ends _ ⟨lo, hi, hlo, .inr ⟨hlh, { v with ts := 370, tw := tw2, ll := a, us := us, n := k }, [(sp, tup2 lo hi t1 t2 k1)] ++ tl ++ [(pp, _)], ?_, ?_, ?_, ⟨sub_l _ hP.1, sub_r _ (sub_l _ (sub_r _ ha)), hP.2.2.1.mono sub_l, hS.mono ?_⟩, pp, t3, t4, rfl, sub_r _ (.head _)⟩⟩ fun q hq => hq
    · simp only [List.append_assoc, List.cons_append]
    · exact .append (.append (.cons (fun q hq => hsp q (.tail _ hq)) .nil) (hab.sub fun q hq => .tail _ (sub_l _ hq))) (.cons (fun q hq => hp q (.tail _ (sub_l _ (sub_l _ hq)))) .nil)
    · exact List.forall_mem_append.mpr ⟨List.forall_mem_append.mpr ⟨List.forall_mem_cons.mpr ⟨hsp _ (.head _), List.forall_mem_nil _⟩, hab _ (.head _)⟩, List.forall_mem_cons.mpr ⟨hp _ (.head _), List.forall_mem_nil _⟩⟩
    · exact fun q hq => (List.mem_append.mp hq).elim (fun h => sub_l _ h) fun h => sub_r _ (sub_l _ (sub_r _ h))
  intro tail
  rcases hfs with ⟨rfl, rfl, hcase⟩ | ⟨i, j, sp, u1, u2, k1, hS0, hm, rfl, rfl, hsp⟩
  · refine s_if (t_isN1 (by walk_at "EV") rfl) (fun _ => ?_) fun h => nomatch h
    refine s_assign B (g_b2 (T := IsI (imin most (roomOf p))) (P := IsI most) (R := IsI (roomOf p)) (by walk_at "GB") rfl rfl rfl (by walk_at "EV") (ev_g (ev_meth (PL := fun vs n => vs = [.none] ∧ n = (dy, dictOf (parV pk p v) 11) :: G) B (by walk_at "EV") (meths_at (n := 11) cls_part B (.tail _ hy) (.head _) (by k_dflt k_is) (by k_dflt k_is) rfl) (by k_dflt k_is) rfl rfl rfl (el_w (el_cons (P := (· = .none)) (by walk_at "EV") rfl el_nil) ?_) ?_)) c_min) rfl (by walk_at "RF") ?_
    · rintro _ _ ⟨_, _, rfl, rfl, rfl, rfl⟩; exact ⟨rfl, rfl⟩
    · rintro _ _ ⟨rfl, rfl⟩
      exact c_does B (does_room (K := K) hy hz) (by decide) (by decide)
    rintro _ ⟨t1, rfl⟩
    refine s_assignE B (ev_tup2 (P := IsI p.to) (R := IsI (p.to + imax 0 (imin most (roomOf p)))) (g_I (g_at (n := 11) cls_part B (by walk_at "EV") (.tail _ hy) (.head _) (by k_dflt k_is) rfl rfl)) (g_add (g_I (g_at (n := 11) cls_part B (by walk_at "EV") (.tail _ hy) (.head _) (by k_dflt k_is) rfl rfl)) (g_b2 (by walk_at "GB") rfl rfl rfl g_int (R := IsI (imin most (roomOf p))) (by walk_at "EV") c_max)) rfl rfl) rfl (by walk_at "RF") ?_
    rintro _ n' ⟨_, _, sp, ⟨t2, rfl⟩, ⟨t3, rfl⟩, rfl, rfl, hsp⟩
    exact s_end (tail _ _ ⟨_, sp, _, _, t2, t3, 0, ov_eq (by (repeat (first | exact List.forall_mem_nil _ | refine List.forall_mem_cons.mpr ⟨by with_unfolding_all rfl, ?_⟩))), rfl, hsp, .inl ⟨hcase, rfl, rfl⟩⟩)
  · refine s_if (t_isN2 (by walk_at "EV") rfl) (fun h => nomatch h) fun _ => s_end ?_
    exact tail _ _ ⟨_, sp, _, _, u1, u2, k1, ov_eq (by (repeat (first | exact List.forall_mem_nil _ | refine List.forall_mem_cons.mpr ⟨by with_unfolding_all rfl, ?_⟩))), rfl, hsp, .inr ⟨j, hS0, hm, rfl⟩⟩

theorem does_pack {K G : Led} {y dy : Addr} {pk : PKs} {p : PS} {v : PV} {off sz : Int} {t1 t2 : Tok}
    (hy : (y, instObj 255 dy) ∈ G) (hne : ∀ q ∈ G, q.1 ≠ dy) (hK : ∀ q ∈ K, q ∈ G) (hP : PIs K G p v) (hL : p.L.length ≤ 400) (hA : p.A.length ≤ 400) :
    Does 224 [.ref y, .int off t1, .int sz t2, .bool false] ((dy, dictOf (parV pk p v) 11) :: G) 2 19 (PPost K G dy pk { p with A := addSpan p.A off (off + sz), L := cutSpan p.L off (off + sz) } fun r _ => r = .none) := by
  refine' does_ofS [(Str.ofString "self", .ref y), (Str.ofString "offset", .int off t1), (Str.ofString "size", .int sz t2), (Str.ofString "is_end", .bool false)] ?ho ?hcd ?hbind ?hloc ?hcell ?hco ?hgen ?hk ?h; (case ho => (intro w; k_dflt k_is)); (case hcd => (intro w; k_dflt k_is)); (case hbind => (intro s; exact BindsTo.of_eq rfl)); (case hloc => rfl); (case hcell => decide); (case hco => rfl); (case hgen => rfl); (case hk => rfl); intro c0 c qe m B hlt
  refine s_setat (post := RetSp K ((dy, dictOf (parV pk p v) 11) :: G) (addSpan p.A off (off + sz))) (o := y) (dx := dy) cls_part B ?_ (fun n' => (by walk_at "EV")) (by k_dflt k_is) rfl ?_
  · refine ev_call (PL := fun vs n => (∃ t1 t2, vs = [.ref v.la, .int off t1, .int (off + sz) t2]) ∧ n = ((dy, dictOf (parV pk p v) 11) :: G)) B (by walk_at "GG") (by k_dflt k_is) rfl rfl (el_w (el_cons (g_at (n := 11) cls_part B (by walk_at "EV") (.tail _ hy) (.head _) (by k_dflt k_is) rfl rfl) rfl (el_cons (P := IsI off) (by walk_at "EV") rfl (el_cons (P := IsI (off + sz)) (by walk_at "EV") rfl el_nil))) ?_) ?_
    · rintro _ _ ⟨_, _, rfl, rfl, _, _, rfl, ⟨t1, rfl⟩, _, _, rfl, ⟨t2, rfl⟩, rfl, rfl⟩
      exact ⟨⟨t1, t2, rfl⟩, rfl⟩
    · rintro _ _ ⟨⟨t1, t2, rfl⟩, rfl⟩
      exact c_does B (does_add (.tail _ hP.1) (fun q hq => .tail _ (hK q hq)) hP.2.2.1 hA) (by decide) (by decide)
  rintro r n' ⟨a, us, k, tl, rfl, rfl, hab, ha, hS⟩
  have hne2 : ∀ q ∈ G ++ tl, q.1 ≠ dy := List.forall_mem_append.mpr ⟨hne, fun q hq => Nat.ne_of_gt (hab _ (.head _) q hq)⟩
  refine ⟨_, 11, G ++ tl, rfl, sub_l _ hy, hne2, rfl, fun hsh key => ⟨Nat.le_of_ble_eq_true rfl, ?_⟩⟩
  show RunS c _ ((dy, dictOf (parE pk (.int 1099511627776 v.lm) (.str (stS p.sent) v.ts) (.bytes p.D v.td) (.int p.to v.tw) (.ref a) (.ref v.ll)) 11) :: (G ++ tl)) _ qe
  refine s_setat (post := RetSp K ((dy, dictOf (parE pk (.int 1099511627776 v.lm) (.str (stS p.sent) v.ts) (.bytes p.D v.td) (.int p.to v.tw) (.ref a) (.ref v.ll)) 11) :: (G ++ tl)) (cutSpan p.L off (off + sz))) (o := y) (dx := dy) cls_part B ?_ (fun n' => (by walk_at "EV")) (by k_dflt k_is) rfl ?_
  · refine ev_call (PL := fun vs n => (∃ t1 t2, vs = [.ref v.ll, .int off t1, .int (off + sz) t2]) ∧ n = ((dy, dictOf (parE pk (.int 1099511627776 v.lm) (.str (stS p.sent) v.ts) (.bytes p.D v.td) (.int p.to v.tw) (.ref a) (.ref v.ll)) 11) :: (G ++ tl))) B (by walk_at "GG") (by k_dflt k_is) rfl rfl (el_w (el_cons (g_at (n := 11) cls_part B (by walk_at "EV") (.tail _ (sub_l _ hy)) (.head _) (by k_dflt k_is) rfl rfl) rfl (el_cons (P := IsI off) (by walk_at "EV") rfl (el_cons (P := IsI (off + sz)) (by walk_at "EV") rfl el_nil))) ?_) ?_
    · rintro _ _ ⟨_, _, rfl, rfl, _, _, rfl, ⟨t1, rfl⟩, _, _, rfl, ⟨t2, rfl⟩, rfl, rfl⟩
      exact ⟨⟨t1, t2, rfl⟩, rfl⟩
    · rintro _ _ ⟨⟨t1, t2, rfl⟩, rfl⟩
      exact c_does B (does_cut (.tail _ (sub_l _ hP.2.1)) (fun q hq => .tail _ (sub_l _ (hK q hq))) hP.2.2.2 hL) (by decide) (by decide)
  rintro r n' ⟨a2, us2, k2, tl2, rfl, rfl, hab2, ha2, hS2⟩
  have hne3 : ∀ q ∈ G ++ tl ++ tl2, q.1 ≠ dy := List.forall_mem_append.mpr ⟨hne2, fun q hq => Nat.ne_of_gt (hab2 _ (.head _) q hq)⟩
  refine ⟨_, 11, G ++ tl ++ tl2, rfl, sub_l _ (sub_l _ hy), hne3, rfl, fun hsh key => ⟨Nat.le_of_ble_eq_true rfl, ?_⟩⟩
  show RunS c _ ((dy, dictOf (parE pk (.int 1099511627776 v.lm) (.str (stS p.sent) v.ts) (.bytes p.D v.td) (.int p.to v.tw) (.ref a) (.ref a2)) 11) :: (G ++ tl ++ tl2)) _ qe
  refine s_if (t_val (b := false) (by walk_at "EV") rfl) (fun h => nomatch h) fun _ => s_end ?_
  refine s_if (t_and (b := false) (b' := true) (t_notDS (s := p.sent) (t := v.ts) (t2 := 372) (g_at (n := 11) cls_part B (by walk_at "EV") (.tail _ (sub_l _ (sub_l _ hy))) (.head _) (by k_dflt k_is) rfl rfl) (by walk_at "GG") rfl) (fun h => nomatch h)) (fun h => nomatch h) fun _ => s_end ?_
  refine s_nil (h_endsN _ ⟨{ v with la := a, ws := us, n2 := k, ll := a2, us := us2, n := k2 }, tl ++ tl2, ?_, ?_, ?_, ⟨sub_r _ (sub_l _ ha), sub_r _ (sub_r _ ha2), hS.mono app_mono, hS2.mono app_mono2⟩, rfl⟩ fun q hq => hq)
  · rw [List.append_assoc]
  · exact .append (hab.sub fun q hq => .tail _ hq) (hab2.sub fun q hq => .tail _ (sub_l _ hq))
  · exact List.forall_mem_append.mpr ⟨hab _ (.head _), hab2 _ (.head _)⟩

section
variable {c : Cx} {m : Fm} {news : Led} {e a b : PySem.Expr} {Q : Flow → Shared → Prop} {rest : List Stmt} {pos : Pos} {t t2 : Tok}
theorem te_notIn2 {k : Nat} {pp : Pos} {u1 u2 : Tok} {x s1 s2 : Str} (ha : Gives c m news e (· = .str x t)) (h1 : Gives c m news a (· = .str s1 u1)) (h2 : Gives c m news b (· = .str s2 u2)) (hs : starEach [a, b] c.env = (false, eval a c.env) :: starEach [b] c.env) (hs2 : starEach [b] c.env = (false, eval b c.env) :: starEach [] c.env)
    (hm : behindInMarks .NotIn (.Tuple [a, b] k pp) = false) : TestsE c m news (.Compare e [.NotIn] [.Tuple [a, b] k pp] pos) (fun r n' => r = (!([s1, s2].any (· == x))) ∧ ∃ D, n' = news ++ [(D, ({ cls := .type "tuple", data := .seq [Value.str s1 u1, Value.str s2 u2].toArray } : Obj))] ∧ ∀ p ∈ news, p.1 < D) := fun h tk q F N hQ => by
  refine wpAny_isTrue_Compare1 (ha _ _ _ F N ?_) hm
  rintro v h tk rfl F N
  refine ev_tup2 h1 h2 hs hs2 _ _ _ F N ?_
  rintro v n' h tk ⟨_, _, D, rfl, rfl, rfl, rfl, hD⟩ F N
  refine notin_tuple_strs (s := c.at h tk) (items := [Value.str s1 u1, Value.str s2 u2].toArray) (ys := [s1, s2]) (News.isTup N (sub_r _ (.head _))) (.cons _ _ (.cons _ _ .nil)) ?_
  walk1
  exact hQ _ _ _ _ ⟨rfl, D, rfl, hD⟩ F N
end
def plJ (K G T : Led) (dy : Addr) (S L : Spans) (i : Nat) (s : Lp) : Prop := clJ K G T dy S L i s
theorem does_plost {K G : Led} {y dy : Addr} {pk : PKs} {p : PS} {v : PV} {off sz : Int} {t1 t2 : Tok}
    (hy : (y, instObj 255 dy) ∈ G) (hne : ∀ q ∈ G, q.1 ≠ dy) (hK : ∀ q ∈ K, q ∈ G) (hP : PIs K G p v) (hsent : p.sent = true) (hsz : 0 < sz)
    (hb : ∀ i, (woSpans [(off, off + sz)] (p.A.take i)).length ≤ 400) (hbl : ∀ i, (addAll p.L ((woSpans [(off, off + sz)] p.A).take i)).length ≤ 400) :
    Does 231 [.ref y, .int off t1, .int sz t2, .bool false] ((dy, dictOf (parV pk p v) 11) :: G) 3 22 (PPost K G dy pk { p with L := lostSp p.L p.A off sz } fun r _ => r = .none) := by
  refine' does_ofS [(Str.ofString "self", .ref y), (Str.ofString "offset", .int off t1), (Str.ofString "size", .int sz t2), (Str.ofString "is_end", .bool false)] ?ho ?hcd ?hbind ?hloc ?hcell ?hco ?hgen ?hk ?h; (case ho => (intro w; k_dflt k_is)); (case hcd => (intro w; k_dflt k_is)); (case hbind => (intro s; exact BindsTo.of_eq rfl)); (case hloc => rfl); (case hcell => decide); (case hco => rfl); (case hgen => rfl); (case hk => rfl); intro c0 c qe m B hlt
  refine s_ifE (te_notIn2 (x := stS p.sent) (t := v.ts) (u1 := 370) (u2 := 372) (s1 := Str.ofString "send") (s2 := Str.ofString "data_sent") (g_at (n := 11) cls_part B (by walk_at "EV") (.tail _ hy) (.head _) (by k_dflt k_is) rfl rfl) (by walk_at "GG") (by walk_at "GG") rfl rfl rfl) ?_ ?_
  · rintro n' ⟨h, _⟩
    rw [hsent] at h
    exact absurd h (by decide)
  rintro n' ⟨_, D0, rfl, hD0⟩
  refine s_end (s_sub ((dy, dictOf (parV pk p v) 11) :: G) (sub_l (a := (dy, dictOf (parV pk p v) 11) :: G)) ?_)
  refine s_forI (post := fun r n' => ∃ E us k T a, n' = ((dy, dictOf (parV pk p v) 11) :: G) ++ T ∧ (∀ p ∈ E, p ∈ G ++ T) ∧ r = .ref a ∧ (a, listOf us.toArray k) ∈ T ∧ SpAll (E ++ T) us (woSpans [(off, off + sz)] p.A) ∧ Abv ((dy, dictOf (parV pk p v) 11) :: G) T) B
    (ev_call (PL := fun vs n => ∃ D1 u1 u2 D2 k1, vs = [.ref D2, .ref v.la] ∧ n = ((dy, dictOf (parV pk p v) 11) :: G) ++ [(D1, tup2 off (off + sz) u1 u2 0), (D2, listOf [Value.ref D1].toArray k1)] ∧ (∀ q ∈ ((dy, dictOf (parV pk p v) 11) :: G), q.1 < D1) ∧ D1 < D2) B (by walk_at "GG") (by k_dflt k_is) rfl rfl (el_w (el_consE (PL := fun r vs n => ∃ D1 u1 u2 D2 k1, r = .ref D2 ∧ vs = [.ref v.la] ∧ n = ((dy, dictOf (parV pk p v) 11) :: G) ++ [(D1, tup2 off (off + sz) u1 u2 0), (D2, listOf [Value.ref D1].toArray k1)] ∧ (∀ q ∈ ((dy, dictOf (parV pk p v) 11) :: G), q.1 < D1) ∧ D1 < D2) (ev_if (t_gt (i := sz) (j := 0) (by walk_at "EV") g_int rfl) (fun _ => ev_pair1 (i := off) (j := off + sz) (by walk_at "EV") (by walk_at "EV") rfl rfl rfl) (fun h => absurd hsz (of_decide_eq_false h))) rfl ?_) ?_) ?_) (fun _ => rfl) ?_
  · rintro r n' ⟨D1, u1, u2, D2, k1, rfl, rfl, h1, h2⟩
    exact el_w (el_cons (g_at (n := 11) cls_part B (by walk_at "EV") (.tail _ (sub_l _ hy)) (.head _) (by k_dflt k_is) rfl rfl) rfl el_nil) (by rintro _ _ ⟨_, _, rfl, rfl, rfl, rfl⟩; exact ⟨D1, u1, u2, D2, k1, rfl, rfl, rfl, h1, h2⟩)
  · rintro _ n' ⟨r, _, rfl, D1, u1, u2, D2, k1, rfl, rfl, rfl, h1, h2⟩; exact ⟨D1, u1, u2, D2, k1, rfl, rfl, h1, h2⟩
  · rintro _ _ ⟨D1, u1, u2, D2, k1, rfl, rfl, h1, h2⟩ h tk q F N hq
    refine c_does B (does_wo (K := K ++ [(D1, tup2 off (off + sz) u1 u2 0)]) (sub_r _ (.tail _ (.head _))) (.tail _ (sub_l _ hP.1)) ?_ (.one (sub_r _ (.head _))) (hP.2.2.1.mono sub_l) hb) (by decide) (by decide) h tk q F N ?_
    · intro q hq
      exact (List.mem_append.mp hq).elim (fun h => .tail _ (sub_l q (hK q h))) fun h => by rw [List.mem_singleton.mp h]; exact .tail _ (sub_r _ (.head _))
    · rintro r n' h' tk' ⟨a, us, k, tl, rfl, rfl, hab, ha, hS⟩ F N
      refine hq _ _ h' tk' ⟨K ++ [(D1, tup2 off (off + sz) u1 u2 0)], us, k, [(D1, tup2 off (off + sz) u1 u2 0), (D2, listOf [Value.ref D1].toArray k1)] ++ tl, a, List.append_assoc .., ?_, rfl, sub_r _ ha, hS.mono app_mono2, .append (.cons h1 (.cons (fun q hq => Nat.lt_trans (h1 q hq) h2) .nil)) (hab.sub sub_l)⟩ F N
      exact fun q hq => (List.mem_append.mp hq).elim (fun h => sub_l q (hK q h)) fun h => by rw [List.mem_singleton.mp h]; exact sub_r _ (.head _)
  · rintro _ n' ⟨E, us, k, T, a, rfl, hE, rfl, ha, hS, hab⟩
    have hTd : ∀ q ∈ T, dy < q.1 := hab _ (.head _)
    have hneT : ∀ q ∈ G ++ T, q.1 ≠ dy := List.forall_mem_append.mpr ⟨hne, fun q hq => Nat.ne_of_gt (hTd q hq)⟩
    refine it_sub ((dy, dictOf (parV pk p v) 11) :: (G ++ (T ++ []))) (fun q hq => by rw [List.append_nil] at hq; exact hq) ?_
    let ld : Lp → List DictEntry := fun s => parE pk (.int 1099511627776 v.lm) (.str (stS p.sent) v.ts) (.bytes p.D v.td) (.int p.to v.tw) (.ref v.la) (.ref s.l)
    refine it_S (σ := Lp) (keep := E ++ T) (fun s => [(Str.ofString "self", .ref y), (Str.ofString "is_end", .bool false)]) (fun s => (dy, dictOf (ld s) 11) :: (G ++ (T ++ s.G))) (clJ K G T dy p.L (woSpans [(off, off + sz)] p.A)) ⟨v.ll, v.us, v.n, p.L, false, 0, 0, 0, 0, []⟩ B (sub_r _ ha) hS (fun s q hq => .tail _ ?_) (by (repeat (first | exact List.forall_mem_nil _ | refine List.forall_mem_cons.mpr ⟨by with_unfolding_all rfl, ?_⟩))) ⟨hP.2.2.2.mono sub_l, rfl, sub_l _ hP.2.1, .nil, List.forall_mem_nil _⟩ (by walk_at "RF") (by walk_at "RF") ?_ ?_
    · exact (List.mem_append.mp hq).elim (fun h => app_mono _ (hE q h)) fun h => sub_r _ (sub_l _ h)
    · intro i s u I ob y1 z u1 u2 hp hj hnx qt mt nt
      have hyn : (y, instObj 255 dy) ∈ nt := .tail _ (sub_l _ (sub_l _ hy))
      refine s_setat (post := RetSp (K ++ (T ++ s.G)) nt (addSpan s.f y1 z)) (o := y) (dx := dy) cls_part B ?_ (fun n' => (by walk_at "EV")) (by k_dflt k_is) rfl ?_
      · refine ev_call (PL := fun vs n => (∃ t1 t2, vs = [.ref s.l, .int y1 t1, .int z t2]) ∧ n = nt) B (by walk_at "GG") (by k_dflt k_is) rfl rfl (el_w (el_cons (g_at (n := 11) cls_part B (by walk_at "EV") hyn (.head _) (by k_dflt k_is) rfl rfl) rfl (el_cons (P := IsI y1) (by walk_at "EV") rfl (el_cons (P := IsI z) (by walk_at "EV") rfl el_nil))) ?_) ?_
        · rintro _ _ ⟨_, _, rfl, rfl, _, _, rfl, ⟨t1, rfl⟩, _, _, rfl, ⟨t2, rfl⟩, rfl, rfl⟩
          exact ⟨⟨t1, t2, rfl⟩, rfl⟩
        · rintro _ _ ⟨⟨t1, t2, rfl⟩, rfl⟩
          exact c_does B (does_add (K := K ++ (T ++ s.G)) (.tail _ (sub_l _ hj.2.2.1)) (fun q hq => .tail _ (sub_l _ ((List.mem_append.mp hq).elim (fun h => sub_l q (hK q h)) (sub_r q)))) hj.1 (by rw [hj.2.1]; exact hbl i)) (by decide) (by decide)
      · rintro r n' ⟨a2, us2, k2, tl, rfl, rfl, hab2, ha2, hS2⟩
        have hdl : ∀ q ∈ tl, dy < q.1 := hab2 _ (.head _)
        have hGG : ∀ q ∈ G ++ (T ++ s.G) ++ [(I, ob)] ++ tl, q.1 ≠ dy := List.forall_mem_append.mpr ⟨List.forall_mem_append.mpr ⟨List.forall_mem_append.mpr ⟨hne, List.forall_mem_append.mpr ⟨fun q hq => Nat.ne_of_gt (hTd q hq), fun q hq => Nat.ne_of_gt (hj.2.2.2.2 q hq)⟩⟩, List.forall_mem_cons.mpr ⟨fun e => hnx _ (.head _) e.symm, List.forall_mem_nil _⟩⟩, fun q hq => Nat.ne_of_gt (hdl q hq)⟩
        refine ⟨ld s, 11, G ++ (T ++ s.G) ++ [(I, ob)] ++ tl, rfl, sub_l _ (sub_l _ (sub_l _ hy)), hGG, rfl, fun hsh key => ⟨Nat.le_of_ble_eq_true rfl, ?_⟩⟩
        refine s_turnS ⟨a2, us2, k2, addSpan s.f y1 z, false, 0, 0, 0, 0, s.G ++ tl⟩ (fun q hq => ?_) (.tail _ (sub_l _ (sub_r _ (.head _)))) ?_ (by (repeat (first | exact List.forall_mem_nil _ | refine List.forall_mem_cons.mpr ⟨by with_unfolding_all rfl, ?_⟩))) ⟨?_, ?_, sub_r _ (sub_r _ (sub_r _ ha2)), .append hj.2.2.2.1 (hab2.sub fun q hq => .tail _ (sub_l _ (sub_l _ hq))), List.forall_mem_append.mpr ⟨hj.2.2.2.2, hdl⟩⟩
        · refine (List.mem_cons.mp hq).elim (fun e => e ▸ .head _) fun hq => .tail _ ?_
          rw [← List.append_assoc T, ← List.append_assoc G] at hq
          exact (List.mem_append.mp hq).elim (fun h => sub_l _ (sub_l _ h)) (sub_r _)
        · intro q hq
          rcases List.mem_cons.mp hq with rfl | hq
          · exact hnx (dy, dictOf (ld s) 11) (.head _)
          · rw [← List.append_assoc T, ← List.append_assoc G] at hq
            exact (List.mem_append.mp hq).elim (fun h => hnx q (.tail _ h)) fun h => Nat.ne_of_gt (hab2 _ (.tail _ (sub_r _ (.head _))) q h)
        · show SpAll (K ++ (T ++ (s.G ++ tl))) us2 _
          rw [← List.append_assoc T, ← List.append_assoc K]; exact hS2
        · show addSpan s.f y1 z = addAll p.L (List.take (i + 1) _)
          rw [hj.2.1, take_snoc hp, addAll, addAll, List.foldl_append]; rfl
    · intro s u hj mt nt
      have hf := hj.2.1
      rw [List.take_length] at hf
      refine s_if (t_and (b := false) (b' := true) (t_val (by walk_at "EV") rfl) (fun h => nomatch h)) (fun h => nomatch h) fun _ => s_end ?_
      exact s_nil (h_endsN _ ⟨{ v with ll := s.l, us := s.us, n := s.k }, T ++ s.G, rfl, .append (hab.sub fun q hq => .tail _ hq) hj.2.2.2.1, List.forall_mem_append.mpr ⟨hTd, hj.2.2.2.2⟩, ⟨sub_l _ hP.1, hj.2.2.1, hP.2.2.1.mono sub_l, by show SpAll _ _ (lostSp p.L p.A off sz); rw [lostSp, ← hf]; exact hj.1⟩, rfl⟩ fun _ h => h)

theorem does_take {bx sc : Addr} {us : List Value} {ks kb : Nat} {n many : Int} {tn tm : Tok} {G : Led} {ns : List Int}
    (hsc : (sc, listOf us.toArray ks) ∈ G) (hne : ∀ p ∈ G, p.1 ≠ bx) (hi : IntsAre us ns) (hu : us.length ≤ 1000) (hn : 0 ≤ n) (hn2 : n ≤ 1000) (hm : 0 < many) :
    Does 266 [.ref bx, .int many tm] ((bx, listOf [Value.ref sc, .int n tn].toArray kb) :: G) 1 16 (fun r n' => ∃ t2, (∃ j, 0 ≤ j ∧ j < many ∧ IsI j r) ∧ n' = (bx, listOf [Value.ref sc, .int (n + 1) t2].toArray kb) :: G) := by
  refine' does_ofS [(Str.ofString "box", .ref bx), (Str.ofString "many", .int many tm)] ?ho ?hcd ?hbind ?hloc ?hcell ?hco ?hgen ?hk ?h; (case ho => (intro w; k_dflt k_is)); (case hcd => (intro w; k_dflt k_is)); (case hbind => (intro s; exact BindsTo.of_eq rfl)); (case hloc => rfl); (case hcell => decide); (case hco => rfl); (case hgen => rfl); (case hk => rfl); intro c0 c qe m B hlt
  refine s_setitemI (j := n + 1) (g_add (g_I (g_listK (i := 1) (by walk_at "EV") (.head _) rfl (by decide) (fun _ => rfl))) g_int) (by walk_at "EV") (i := 1) g_int hne (by decide) (by decide) (fun t2 => [Value.ref sc, .int (n + 1) t2]) (fun _ => rfl) rfl fun t2 => ?_
  refine s_if (t_le (i := n + 1) (j := us.length) (g_I (g_listK (i := 1) (by walk_at "EV") (.head _) rfl (by decide) (fun _ => rfl))) (g_b1 (by walk_at "GB") rfl (g_listK (i := 0) (by walk_at "EV") (.head _) rfl (by decide) (fun _ => rfl)) (c_len (.tail _ hsc) hu)) rfl) (fun hb => ?_) fun hb => ?_
  · have hb := of_decide_eq_true hb
    have hlt : (n + 1 - 1).toNat < us.length := by omega
    obtain ⟨iv, tv, hv, _⟩ := IntsAre.at hi (n + 1 - 1).toNat _ (List.getElem?_eq_getElem hlt)
    exact s_ret (g_mod (g_b1 (P := IsInt) (by walk_at "GB") rfl (g_listAt (v := .int iv tv) (g_listK (i := 0) (by walk_at "EV") (.head _) rfl (by decide) (fun _ => rfl)) (g_sub (i := n + 1) (j := 1) (g_I (g_listK (i := 1) (by walk_at "EV") (.head _) rfl (by decide) (fun _ => rfl))) g_int) (.tail _ hsc) (by omega) (by omega) (by rw [List.getElem?_eq_getElem hlt, hv]) (fun _ => rfl)) c_abs) (by walk_at "EV") hm) (fun r hr => h_then (h_ends _ ⟨t2, hr, rfl⟩ fun _ h => h))
  · exact s_end (s_ret (g_mod (g_addInt (g_mulI (j := n + 1) g_int (g_I (g_listK (i := 1) (by walk_at "EV") (.head _) rfl (by decide) (fun _ => rfl)))) (g_fdivI (i := n + 1) (g_I (g_listK (i := 1) (by walk_at "EV") (.head _) rfl (by decide) (fun _ => rfl))) g_int)) (by walk_at "EV") hm) (fun r hr => h_ends _ ⟨t2, hr, rfl⟩ fun _ h => h))

/-! the plain law: spans as sets -/
def Can : Int → Spans → Prop
  | _, [] => True
  | b, p :: S => b < p.1 ∧ p.1 < p.2 ∧ Can p.2 S
def SIn (S : Spans) (k : Int) : Prop := ∃ p ∈ S, p.1 ≤ k ∧ k < p.2
theorem sin_nil {k : Int} : SIn [] k ↔ False := ⟨fun ⟨_, h, _⟩ => (nomatch h), False.elim⟩
theorem sin_cons {S : Spans} {p : Int × Int} {k : Int} : SIn (p :: S) k ↔ (p.1 ≤ k ∧ k < p.2) ∨ SIn S k := by
  constructor
  · rintro ⟨q, hq, h⟩
    rcases List.mem_cons.mp hq with rfl | hq
    · exact .inl h
    · exact .inr ⟨q, hq, h⟩
  · rintro (h | ⟨q, hq, h⟩)
    · exact ⟨p, .head _, h⟩
    · exact ⟨q, .tail _ hq, h⟩
theorem sin_app {S T : Spans} {k : Int} : SIn (S ++ T) k ↔ SIn S k ∨ SIn T k := by
  induction S with
  | nil => rw [List.nil_append, sin_nil, false_or]
  | cons p S ih => rw [List.cons_append, sin_cons, sin_cons, ih, or_assoc]
theorem can_lb {S : Spans} {b k : Int} (h : Can b S) (hk : SIn S k) : b < k := by
  induction S generalizing b with
  | nil => exact (sin_nil.mp hk).elim
  | cons p S ih =>
    obtain ⟨h1, h2, h3⟩ := h
    rcases sin_cons.mp hk with h | h
    · omega
    · have := ih h3 h; omega
theorem can_mono {S : Spans} {a b : Int} (h : Can b S) (hab : a ≤ b) : Can a S := by
  cases S with
  | nil => trivial
  | cons p S => exact ⟨by have := h.1; omega, h.2⟩
theorem can_ext {S T : Spans} {b c : Int} (hS : Can b S) (hT : Can c T) (h : ∀ k, SIn S k ↔ SIn T k) : S = T := by
  induction S generalizing b c T with
  | nil =>
    cases T with
    | nil => rfl
    | cons q T => exact (sin_nil.mp ((h q.1).mpr (sin_cons.mpr (.inl ⟨Int.le_refl _, hT.2.1⟩)))).elim
  | cons p S ih =>
    cases T with
    | nil => exact (sin_nil.mp ((h p.1).mp (sin_cons.mpr (.inl ⟨Int.le_refl _, hS.2.1⟩)))).elim
    | cons q T =>
      obtain ⟨s1, s2, s3⟩ := hS
      obtain ⟨t1, t2, t3⟩ := hT
      have e1 : p.1 = q.1 := by
        have a := sin_cons.mp ((h p.1).mp (sin_cons.mpr (.inl ⟨Int.le_refl _, s2⟩)))
        have b := sin_cons.mp ((h q.1).mpr (sin_cons.mpr (.inl ⟨Int.le_refl _, t2⟩)))
        have c1 : q.1 ≤ p.1 := by rcases a with a | a; exact a.1; have := can_lb t3 a; omega
        have c2 : p.1 ≤ q.1 := by rcases b with b | b; exact b.1; have := can_lb s3 b; omega
        omega
      have e2 : p.2 = q.2 := by
        have c1 : ¬ p.2 < q.2 := fun hl => by
          have a := sin_cons.mp ((h p.2).mpr (sin_cons.mpr (.inl ⟨by omega, hl⟩)))
          rcases a with a | a
          · omega
          · have := can_lb s3 a; omega
        have c2 : ¬ q.2 < p.2 := fun hl => by
          have a := sin_cons.mp ((h q.2).mp (sin_cons.mpr (.inl ⟨by omega, hl⟩)))
          rcases a with a | a
          · omega
          · have := can_lb t3 a; omega
        omega
      have e : p = q := Prod.ext e1 e2
      subst e
      rw [ih s3 t3 fun k => ?_]
      constructor
      · intro hk
        have := can_lb s3 hk
        rcases sin_cons.mp ((h k).mp (sin_cons.mpr (.inr hk))) with a | a
        · omega
        · exact a
      · intro hk
        have := can_lb t3 hk
        rcases sin_cons.mp ((h k).mpr (sin_cons.mpr (.inr hk))) with a | a
        · omega
        · exact a
theorem can_nil {S : Spans} {b : Int} (h : Can b S) (hk : ∀ k, ¬ SIn S k) : S = [] :=
  can_ext (c := b) h trivial fun k => ⟨fun a => (hk k a).elim, fun a => (sin_nil.mp a).elim⟩
theorem can_len {S : Spans} {b W : Int} (h : Can b S) (hk : ∀ k, SIn S k → k < W) (hb : b ≤ W) : b + (S.length : Int) ≤ W := by
  induction S generalizing b with
  | nil => simpa using hb
  | cons p S ih =>
    obtain ⟨h1, h2, h3⟩ := h
    have := hk (p.2 - 1) (sin_cons.mpr (.inl ⟨by omega, by omega⟩))
    have := ih h3 (fun k a => hk k (sin_cons.mpr (.inr a))) (by omega)
    rw [List.length_cons]; push_cast; omega
/-- the list that add_span makes, from its head -/
def addR : Spans → Int → Int → Spans
  | [], lo, hi => [(lo, hi)]
  | p :: S, lo, hi => if p.2 < lo then p :: addR S lo hi else if hi < p.1 then (lo, hi) :: p :: S else addR S (imin lo p.1) (imax hi p.2)
theorem add_put {S f : Spans} {lo hi b : Int} (h : Can b S) (hb : hi ≤ b) (hl : lo ≤ hi) : S.foldl addStep (f, true, lo, hi) = (f ++ S, true, lo, hi) := by
  induction S generalizing f b with
  | nil => rw [List.append_nil]; rfl
  | cons p S ih =>
    obtain ⟨h1, h2, h3⟩ := h
    have e : addStep (f, true, lo, hi) p = (f ++ [p], true, lo, hi) := by
      unfold addStep
      split
      · rfl
      · rename_i q; exact if_pos (show hi < p.1 by omega)
    rw [List.foldl_cons, e, ih h3 (by omega), List.append_assoc]; rfl
theorem add_fold {S f : Spans} {lo hi b : Int} (h : Can b S) (hl : lo ≤ hi) : addEnd (S.foldl addStep (f, false, lo, hi)) = f ++ addR S lo hi := by
  induction S generalizing f b lo hi with
  | nil => rfl
  | cons p S ih =>
    obtain ⟨h1, h2, h3⟩ := h
    rw [List.foldl_cons]
    by_cases c1 : p.2 < lo
    · rw [addStep, if_pos c1, ih h3 hl, addR, if_pos c1, List.append_assoc]; rfl
    · by_cases c2 : hi < p.1
      · rw [addStep, if_neg c1, if_pos c2, addR, if_neg c1, if_pos c2, add_put h3 (by omega) hl]
        show (((if false = true then f else f ++ [(lo, hi)]) ++ [p]) ++ S) = _
        rw [if_neg (by decide), List.append_assoc, List.append_assoc]; rfl
      · rw [addStep, if_neg c1, if_neg c2, addR, if_neg c1, if_neg c2]
        exact ih h3 (by unfold imin imax; split <;> split <;> omega)
theorem addR_can {S : Spans} {lo hi b : Int} (h : Can b S) (hb : b < lo) (hl : lo < hi) : Can b (addR S lo hi) := by
  induction S generalizing b lo hi with
  | nil => exact ⟨hb, hl, trivial⟩
  | cons p S ih =>
    obtain ⟨h1, h2, h3⟩ := h
    unfold addR
    split
    · exact ⟨h1, h2, ih h3 (by assumption) hl⟩
    · split
      · exact ⟨hb, hl, by assumption, h2, h3⟩
      · exact ih (can_mono h3 (by omega)) (by unfold imin; split <;> omega) (by unfold imin imax; split <;> split <;> omega)
theorem addR_in {S : Spans} {lo hi b k : Int} (h : Can b S) (hl : lo < hi) : SIn (addR S lo hi) k ↔ SIn S k ∨ (lo ≤ k ∧ k < hi) := by
  induction S generalizing lo hi b with
  | nil => rw [addR, sin_cons, sin_nil, or_false, false_or]
  | cons p S ih =>
    obtain ⟨h1, h2, h3⟩ := h
    unfold addR
    split
    · rw [sin_cons, sin_cons, ih h3 hl, or_assoc]
    · split
      · rw [sin_cons, or_comm]
      · rename_i c1 c2
        rw [ih h3 (by unfold imin imax; split <;> split <;> omega), sin_cons]
        have : (imin lo p.1 ≤ k ∧ k < imax hi p.2) ↔ ((p.1 ≤ k ∧ k < p.2) ∨ (lo ≤ k ∧ k < hi)) := by unfold imin imax; split <;> split <;> omega
        rw [this]
        constructor
        · rintro (h | h | h)
          · exact .inl (.inr h)
          · exact .inl (.inl h)
          · exact .inr h
        · rintro ((h | h) | h)
          · exact .inr (.inl h)
          · exact .inl h
          · exact .inr (.inr h)
theorem addSpan_eq {S : Spans} {lo hi b : Int} (h : Can b S) (hl : lo < hi) : addSpan S lo hi = addR S lo hi := by
  rw [addSpan, if_neg (by omega), add_fold h (by omega)]; rfl
theorem add_can {S : Spans} {lo hi b : Int} (h : Can b S) (hb : b < lo) : Can b (addSpan S lo hi) := by
  by_cases hl : lo < hi
  · rw [addSpan_eq h hl]; exact addR_can h hb hl
  · rw [addSpan, if_pos (by omega)]; exact h
theorem add_in {S : Spans} {lo hi b k : Int} (h : Can b S) : SIn (addSpan S lo hi) k ↔ SIn S k ∨ (lo ≤ k ∧ k < hi) := by
  by_cases hl : lo < hi
  · rw [addSpan_eq h hl, addR_in h hl]
  · rw [addSpan, if_pos (by omega)]
    constructor
    · exact .inl
    · rintro (h | h)
      · exact h
      · omega
/-- what a span leaves, cut -/
def cut1 (lo hi : Int) (p : Int × Int) : Spans := (if p.1 < imin p.2 lo then [(p.1, imin p.2 lo)] else []) ++ if imax p.1 hi < p.2 then [(imax p.1 hi, p.2)] else []
theorem cut_fold {S f : Spans} {lo hi : Int} : S.foldl (cutStep lo hi) f = f ++ S.flatMap (cut1 lo hi) := by
  induction S generalizing f with
  | nil => rw [List.flatMap_nil, List.append_nil]; rfl
  | cons p S ih =>
    rw [List.foldl_cons, ih, List.flatMap_cons, ← List.append_assoc]
    congr 1
    unfold cutStep cut1
    split <;> simp
theorem cut1_in {lo hi k : Int} {p : Int × Int} (hl : lo < hi) : SIn (cut1 lo hi p) k ↔ (p.1 ≤ k ∧ k < p.2) ∧ ¬ (lo ≤ k ∧ k < hi) := by
  unfold cut1
  rw [sin_app]
  have e1 : SIn (if p.1 < imin p.2 lo then [(p.1, imin p.2 lo)] else []) k ↔ p.1 ≤ k ∧ k < imin p.2 lo := by
    split
    · rw [sin_cons, sin_nil, or_false]
    · rw [sin_nil]; exact ⟨False.elim, fun h => by omega⟩
  have e2 : SIn (if imax p.1 hi < p.2 then [(imax p.1 hi, p.2)] else []) k ↔ imax p.1 hi ≤ k ∧ k < p.2 := by
    split
    · rw [sin_cons, sin_nil, or_false]
    · rw [sin_nil]; exact ⟨False.elim, fun h => by omega⟩
  rw [e1, e2]
  unfold imin imax
  split <;> split <;> omega
theorem cut1_can {lo hi b : Int} {p : Int × Int} {T : Spans} (hl : lo < hi) (h1 : b < p.1) (h2 : p.1 < p.2) (h3 : Can p.2 T) : Can b (cut1 lo hi p ++ T) := by
  unfold cut1
  split <;> split
  · rename_i c1 c2
    refine ⟨h1, c1, ?_, c2, h3⟩
    revert c1 c2; unfold imin imax; split <;> split <;> omega
  · rename_i c1 c2
    exact ⟨h1, c1, can_mono h3 (by unfold imin; split <;> omega)⟩
  · rename_i c1 c2
    exact ⟨by unfold imax; split <;> omega, c2, h3⟩
  · exact can_mono h3 (by omega)
theorem cutF_can {S : Spans} {lo hi b : Int} (h : Can b S) (hl : lo < hi) : Can b (S.flatMap (cut1 lo hi)) := by
  induction S generalizing b with
  | nil => trivial
  | cons p S ih => exact cut1_can hl h.1 h.2.1 (ih h.2.2)
theorem cutF_in {S : Spans} {lo hi k : Int} (hl : lo < hi) : SIn (S.flatMap (cut1 lo hi)) k ↔ SIn S k ∧ ¬ (lo ≤ k ∧ k < hi) := by
  induction S with
  | nil => rw [List.flatMap_nil, sin_nil, false_and]
  | cons p S ih => rw [List.flatMap_cons, sin_app, cut1_in hl, ih, sin_cons, or_and_right]
theorem cutSpan_eq {S : Spans} {lo hi : Int} (hl : lo < hi) : cutSpan S lo hi = S.flatMap (cut1 lo hi) := by
  rw [cutSpan, if_pos hl, cut_fold]; rfl
theorem cut_can {S : Spans} {lo hi b : Int} (h : Can b S) : Can b (cutSpan S lo hi) := by
  by_cases hl : lo < hi
  · rw [cutSpan_eq hl]; exact cutF_can h hl
  · rw [cutSpan, if_neg hl]; exact h
theorem cut_in {S : Spans} {lo hi k : Int} : SIn (cutSpan S lo hi) k ↔ SIn S k ∧ ¬ (lo ≤ k ∧ k < hi) := by
  by_cases hl : lo < hi
  · rw [cutSpan_eq hl, cutF_in hl]
  · rw [cutSpan, if_neg hl]
    exact ⟨fun h => ⟨h, by omega⟩, fun h => h.1⟩
theorem wo_can {S O : Spans} {b : Int} (h : Can b S) : Can b (woSpans S O) := by
  unfold woSpans
  induction O generalizing S with
  | nil => exact h
  | cons p O ih => exact ih (cut_can h)
theorem wo_in {S O : Spans} {k : Int} : SIn (woSpans S O) k ↔ SIn S k ∧ ¬ SIn O k := by
  unfold woSpans
  induction O generalizing S with
  | nil => rw [sin_nil, not_false_eq_true, and_true]; rfl
  | cons p O ih => rw [List.foldl_cons, ih, cut_in, sin_cons, not_or, and_assoc]
theorem all_can {S L : Spans} {b c : Int} (h : Can b S) (hL : Can c L) (hc : b ≤ c) : Can b (addAll S L) := by
  unfold addAll
  induction L generalizing S c with
  | nil => exact h
  | cons p L ih => exact ih (add_can h (by have := hL.1; omega)) hL.2.2 (by have := hL.1; have := hL.2.1; omega)
theorem all_in {S L : Spans} {b c k : Int} (h : Can b S) (hL : Can c L) (hc : b ≤ c) : SIn (addAll S L) k ↔ SIn S k ∨ SIn L k := by
  unfold addAll
  induction L generalizing S c with
  | nil => rw [sin_nil, or_false]; rfl
  | cons p L ih =>
    rw [List.foldl_cons, ih (add_can h (by have := hL.1; omega)) hL.2.2 (by have := hL.1; have := hL.2.1; omega), add_in h, sin_cons, or_assoc]
theorem can_take {S : Spans} {b : Int} (h : Can b S) (i : Nat) : Can b (S.take i) := by
  induction S generalizing b i with
  | nil => rw [List.take_nil]; trivial
  | cons p S ih =>
    cases i with
    | zero => trivial
    | succ i => exact ⟨h.1, h.2.1, ih h.2.2 i⟩
theorem sin_take {S : Spans} {i : Nat} {k : Int} (h : SIn (S.take i) k) : SIn S k := by
  obtain ⟨p, hp, h⟩ := h
  exact ⟨p, List.mem_of_mem_take hp, h⟩
theorem one_can {off sz : Int} (h0 : 0 ≤ off) (hs : 0 < sz) : Can (-1) [(off, off + sz)] := ⟨by show -1 < off; omega, by show off < off + sz; omega, trivial⟩
theorem lost_can {S A : Spans} {off sz : Int} (h : Can (-1) S) (h0 : 0 ≤ off) (hs : 0 < sz) : Can (-1) (lostSp S A off sz) :=
  all_can h (wo_can (one_can h0 hs)) (Int.le_refl _)
theorem lost_in {S A : Spans} {off sz k : Int} (h : Can (-1) S) (h0 : 0 ≤ off) (hs : 0 < sz) : SIn (lostSp S A off sz) k ↔ SIn S k ∨ ((off ≤ k ∧ k < off + sz) ∧ ¬ SIn A k) := by
  unfold lostSp
  rw [all_in h (wo_can (one_can h0 hs)) (Int.le_refl _), wo_in, sin_cons, sin_nil, or_false]
theorem wo_len {A : Spans} {off sz W : Int} (h0 : 0 ≤ off) (hs : 0 < sz) (hW : off + sz ≤ W) (i : Nat) : ((woSpans [(off, off + sz)] (A.take i)).length : Int) ≤ W + 1 := by
  have := can_len (W := W) (wo_can (O := A.take i) (one_can h0 hs)) (fun k hk => by
    have := (wo_in.mp hk).1
    rw [sin_cons, sin_nil, or_false] at this
    have : off ≤ k ∧ k < off + sz := this
    omega) (by omega)
  omega
theorem all_len {S A : Spans} {off sz W : Int} (h : Can (-1) S) (hS : ∀ k, SIn S k → k < W) (h0 : 0 ≤ off) (hs : 0 < sz) (hW : off + sz ≤ W) (i : Nat) : ((addAll S ((woSpans [(off, off + sz)] A).take i)).length : Int) ≤ W + 1 := by
  have hc := can_take (wo_can (O := A) (one_can h0 hs)) i
  have := can_len (W := W) (all_can h hc (Int.le_refl _)) (fun k hk => by
    rcases (all_in h hc (Int.le_refl _)).mp hk with h | h
    · exact hS k h
    · have := (wo_in.mp (sin_take h)).1
      rw [sin_cons, sin_nil, or_false] at this
      have : off ≤ k ∧ k < off + sz := this
      omega) (by omega)
  omega
/-- the head of what is due -/
theorem can_head {S : Spans} {b lo hi : Int} (h : Can b S) (hl : lo < hi) (hin : ∀ k, lo ≤ k → k < hi → SIn S k) (hlb : ∀ k, SIn S k → lo ≤ k) : ∃ j T, S = (lo, j) :: T ∧ hi ≤ j := by
  cases S with
  | nil => exact (sin_nil.mp (hin lo (Int.le_refl _) hl)).elim
  | cons p S =>
    obtain ⟨h1, h2, h3⟩ := h
    have a1 := hlb p.1 (sin_cons.mpr (.inl ⟨Int.le_refl _, h2⟩))
    have a2 : p.1 = lo := by
      rcases sin_cons.mp (hin lo (Int.le_refl _) hl) with h | h
      · omega
      · have := can_lb h3 h; omega
    refine ⟨p.2, S, ?_, ?_⟩
    · rw [← a2]
    · by_cases c : hi ≤ p.2
      · exact c
      · rcases sin_cons.mp (hin p.2 (by omega) (by omega)) with h | h
        · omega
        · have := can_lb h3 h; omega
/-- how much is due -/
def tot (S : Spans) : Nat := S.foldr (fun p n => (p.2 - p.1).toNat + n) 0
theorem tot_cut {S T : Spans} {b lo j hi : Int} (h : Can b S) (e : S = (lo, j) :: T) (hl : lo < hi) (hj : hi ≤ j) : tot (cutSpan S lo hi) < tot S := by
  subst e
  obtain ⟨h1, h2, h3⟩ := h
  have h1 : b < lo := h1
  have h2 : lo < j := h2
  have h3 : Can j T := h3
  have e : cutSpan ((lo, j) :: T) lo hi = (if hi < j then [(hi, j)] else []) ++ T := by
    refine can_ext (b := b) (c := b) (cut_can ⟨h1, h2, h3⟩) ?_ fun k => ?_
    · split
      · exact ⟨by show b < hi; omega, by assumption, h3⟩
      · exact can_mono h3 (by omega)
    · rw [cut_in, sin_cons, sin_app]
      have e1 : SIn (if hi < j then [(hi, j)] else []) k ↔ hi ≤ k ∧ k < j := by
        split
        · rw [sin_cons, sin_nil, or_false]
        · rw [sin_nil]; exact ⟨False.elim, fun h => by omega⟩
      rw [e1]
      constructor
      · rintro ⟨h | h, n⟩
        · have h : lo ≤ k ∧ k < j := h
          exact .inl (by omega)
        · exact .inr h
      · rintro (h | h)
        · exact ⟨.inl (by show lo ≤ k ∧ k < j; omega), by omega⟩
        · have := can_lb h3 h; exact ⟨.inr h, by omega⟩
  rw [e]
  split
  · show (j - hi).toNat + tot T < (j - lo).toNat + tot T; omega
  · show tot T < (j - lo).toNat + tot T; omega

abbrev Gone := List (Int × Array UInt8)
/-- a piece that went: where it lies, what it holds -/
def PcOk (D : Array UInt8) (to : Int) (q : Int × Array UInt8) : Prop := 0 ≤ q.1 ∧ 0 < q.2.size ∧ q.1 + q.2.size ≤ to ∧ ∀ i : Nat, i < q.2.size → q.2[i]? = D[q.1.toNat + i]?
structure Inv (p : PS) (S : Spans) (g : Gone) : Prop where
  cA : Can (-1) p.A
  iA : ∀ k, SIn p.A k → k < p.to
  cL : Can (-1) p.L
  iL : ∀ k, SIn p.L k → k < p.to
  t0 : 0 ≤ p.to
  tW : p.to ≤ p.D.size
  w1 : p.D.size ≤ 100
  cS : Can (-1) S
  iS : ∀ k, SIn S k ↔ SIn p.L k ∨ (p.to ≤ k ∧ k < p.D.size)
  pc : ∀ q ∈ g, PcOk p.D p.to q
  cov : ∀ k, 0 ≤ k → k < p.to → ∃ q ∈ g, q.1 ≤ k ∧ k < q.1 + q.2.size
  st : g ≠ [] → p.sent = true
section
variable {p : PS} {S : Spans} {g : Gone}
theorem Inv.iSW (I : Inv p S g) {k : Int} (h : SIn S k) : k < p.D.size := by
  have := I.tW
  rcases (I.iS k).mp h with h | h
  · have := I.iL k h; omega
  · exact h.2
theorem len_of {S : Spans} {W : Int} (h : Can (-1) S) (hW : W ≤ 100) (h0 : 0 ≤ W) (hk : ∀ k, SIn S k → k < W) : S.length ≤ 400 := by
  have := can_len h hk (by omega); omega
theorem Inv.lS (I : Inv p S g) : S.length ≤ 400 := len_of (W := p.D.size) I.cS (by have := I.w1; omega) (by omega) fun k h => I.iSW h
theorem Inv.lL (I : Inv p S g) : p.L.length ≤ 400 := len_of (W := p.D.size) I.cL (by have := I.w1; omega) (by omega) fun k h => by have := I.iL k h; have := I.tW; omega
theorem Inv.lA (I : Inv p S g) : p.A.length ≤ 400 := len_of (W := p.D.size) I.cA (by have := I.w1; omega) (by omega) fun k h => by have := I.iA k h; have := I.tW; omega
theorem inv_start {D : Array UInt8} (hD : D.size = 0) : Inv ⟨false, D, 0, [], []⟩ [] [] where
  cA := trivial
  iA := fun k h => (sin_nil.mp h).elim
  cL := trivial
  iL := fun k h => (sin_nil.mp h).elim
  t0 := Int.le_refl _
  tW := by show (0 : Int) ≤ D.size; omega
  w1 := by show D.size ≤ 100; omega
  cS := trivial
  iS := fun k => ⟨fun h => (sin_nil.mp h).elim, fun h => h.elim (fun h => h) fun h => by have h : 0 ≤ k ∧ k < (D.size : Int) := h; omega⟩
  pc := fun _ h => nomatch h
  cov := fun k h1 h2 => by have h2 : k < 0 := h2; omega
  st := fun h => absurd rfl h
/-- what is due is what is lost and what has not gone -/
theorem Inv.due (I : Inv p S g) : addSpan p.L p.to p.D.size = S :=
  can_ext (add_can I.cL (by have := I.t0; omega)) I.cS fun k => by rw [add_in I.cL, I.iS]
theorem Inv.hasTo (I : Inv p S g) : (decide (0 < (p.L.length : Int)) || decide (0 < roomOf p)) = !decide (S = []) := by
  have t0 := I.t0; have tW := I.tW; have w1 := I.w1
  have hr : roomOf p = p.D.size - p.to := by unfold roomOf imax imin; split <;> split <;> omega
  rw [hr]
  by_cases hS : S = []
  · rw [decide_eq_true hS]
    have h1 : p.L = [] := can_nil I.cL fun k h => by
      have := (I.iS k).mpr (.inl h); rw [hS] at this; exact sin_nil.mp this
    have h2 : ¬ p.to < p.D.size := fun h => by
      have := (I.iS p.to).mpr (.inr ⟨Int.le_refl _, h⟩); rw [hS] at this; exact sin_nil.mp this
    rw [h1, decide_eq_false (by rw [List.length_nil]; omega), decide_eq_false (by omega)]; rfl
  · rw [decide_eq_false hS]
    by_cases h1 : p.L = []
    · have : p.to < p.D.size := by
        apply Decidable.byContradiction
        intro hn
        exact hS (can_nil I.cS fun k h => by
          rcases (I.iS k).mp h with h | h
          · rw [h1] at h; exact sin_nil.mp h
          · omega)
      rw [decide_eq_true (show 0 < (p.D.size : Int) - p.to by omega), Bool.or_true]; rfl
    · have : 0 < p.L.length := List.length_pos_iff.mpr h1
      rw [decide_eq_true (show 0 < (p.L.length : Int) by omega), Bool.true_or]; rfl
theorem done_has {A : Spans} {W : Nat} (h : Can (-1) A) (hk : ∀ k, SIn A k → k < W) : isDone W A = hasSpan A 0 W := by
  unfold isDone hasSpan
  by_cases hW : W = 0
  · rw [decide_eq_true hW, decide_eq_true (show (W : Int) ≤ 0 by omega), Bool.true_or, Bool.true_or]
  · rw [decide_eq_false hW, decide_eq_false (show ¬ (W : Int) ≤ 0 by omega), Bool.false_or, Bool.false_or]
    by_cases hA : A = [(0, (W : Int))]
    · rw [decide_eq_true hA, hA]; simp
    · rw [decide_eq_false hA]
      symm
      rw [List.any_eq_false]
      rintro ⟨x, y⟩ hp hb
      rw [Bool.and_eq_true, decide_eq_true_eq, decide_eq_true_eq] at hb
      have hb1 : x ≤ 0 := hb.1
      have hb2 : (W : Int) ≤ y := hb.2
      apply hA
      refine can_ext (c := -1) h ⟨by show (-1 : Int) < 0; decide, by show (0 : Int) < W; omega, trivial⟩ fun k => ?_
      rw [sin_cons, sin_nil, or_false]
      constructor
      · intro hkk
        have := can_lb h hkk; have := hk k hkk
        exact ⟨by show 0 ≤ k; omega, this⟩
      · rintro ⟨a, b⟩
        have a : 0 ≤ k := a
        have b : k < W := b
        exact ⟨(x, y), hp, by show x ≤ k; omega, by show k < y; omega⟩
theorem Inv.done (I : Inv p S g) : isDone p.D.size p.A = hasSpan p.A 0 p.D.size := done_has I.cA fun k h => by have := I.iA k h; have := I.tW; omega
theorem inv_write (I : Inv p S g) {b : Array UInt8} (hz : p.D.size + b.size ≤ 100) : Inv { p with D := p.D ++ b } (addSpan S p.D.size (p.D.size + b.size)) g where
  cA := I.cA
  iA := I.iA
  cL := I.cL
  iL := I.iL
  t0 := I.t0
  tW := by have := I.tW; show p.to ≤ ((p.D ++ b).size : Int); rw [Array.size_append]; omega
  w1 := by show (p.D ++ b).size ≤ 100; rw [Array.size_append]; omega
  cS := add_can I.cS (by omega)
  iS := fun k => by
    have := I.tW
    show SIn (addSpan S p.D.size (p.D.size + b.size)) k ↔ SIn p.L k ∨ (p.to ≤ k ∧ k < ((p.D ++ b).size : Int))
    rw [add_in I.cS, I.iS, Array.size_append, or_assoc]
    exact or_congr_right (by omega)
  pc := fun q hq => by
    obtain ⟨h1, h2, h3, h4⟩ := I.pc q hq
    have := I.tW
    refine ⟨h1, h2, h3, fun i hi => ?_⟩
    show _ = (p.D ++ b)[q.1.toNat + i]?
    rw [h4 i hi, Array.getElem?_append_left (by omega)]
  cov := I.cov
  st := I.st
theorem inv_acked (I : Inv p S g) {off sz : Int} (h0 : 0 ≤ off) (hz : off + sz ≤ p.to) : Inv { p with A := addSpan p.A off (off + sz), L := cutSpan p.L off (off + sz) } (cutSpan S off (off + sz)) g where
  cA := add_can I.cA (by omega)
  iA := fun k h => by
    have t := I.t0
    show k < p.to
    rcases (add_in I.cA).mp h with h | h
    · exact I.iA k h
    · omega
  cL := cut_can I.cL
  iL := fun k h => I.iL k (cut_in.mp h).1
  t0 := I.t0
  tW := I.tW
  w1 := I.w1
  cS := cut_can I.cS
  iS := fun k => by
    show SIn (cutSpan S off (off + sz)) k ↔ SIn (cutSpan p.L off (off + sz)) k ∨ (p.to ≤ k ∧ k < (p.D.size : Int))
    rw [cut_in, cut_in, I.iS, or_and_right]
    exact or_congr_right (by omega)
  pc := I.pc
  cov := I.cov
  st := I.st
theorem inv_lost (I : Inv p S g) {off sz : Int} (h0 : 0 ≤ off) (hs : 0 < sz) (hz : off + sz ≤ p.to) : Inv { p with L := lostSp p.L p.A off sz } (lostSp S p.A off sz) g where
  cA := I.cA
  iA := I.iA
  cL := lost_can I.cL h0 hs
  iL := fun k h => by
    show k < p.to
    rcases (lost_in I.cL h0 hs).mp h with h | h
    · exact I.iL k h
    · omega
  t0 := I.t0
  tW := I.tW
  w1 := I.w1
  cS := lost_can I.cS h0 hs
  iS := fun k => by
    show SIn (lostSp S p.A off sz) k ↔ SIn (lostSp p.L p.A off sz) k ∨ (p.to ≤ k ∧ k < (p.D.size : Int))
    rw [lost_in I.cS h0 hs, lost_in I.cL h0 hs, I.iS, or_right_comm]
  pc := I.pc
  cov := I.cov
  st := I.st
theorem clip_of {n : Nat} {i : Int} (h0 : 0 ≤ i) (h : i ≤ n) : clipAt n i = i.toNat := by
  have := clipAt_cast n i
  rw [if_neg (by omega), Int.min_eq_left h, Int.max_eq_right h0] at this
  omega
theorem picked_ok {D : Array UInt8} {lo hi : Int} (h0 : 0 ≤ lo) (h1 : lo ≤ hi) (h2 : hi ≤ D.size) : ((KBy.picked D (some lo) (some hi)).size : Int) = hi - lo ∧ ∀ i : Nat, i < (KBy.picked D (some lo) (some hi)).size → (KBy.picked D (some lo) (some hi))[i]? = D[lo.toNat + i]? := by
  have hs : (KBy.picked D (some lo) (some hi)).size = hi.toNat - lo.toNat := by
    rw [KBc.picked_eq, List.size_toArray, List.length_take, List.length_drop, Array.length_toList]
    show min (clipAt D.size hi - clipAt D.size lo) (D.size - clipAt D.size lo) = _
    rw [clip_of h0 (by omega), clip_of (by omega) h2]
    omega
  refine ⟨by rw [hs]; omega, fun i hi' => ?_⟩
  rw [hs] at hi'
  rw [KBc.picked_eq, List.getElem?_toArray]
  show ((D.toList.drop (clipAt D.size lo)).take (clipAt D.size hi - clipAt D.size lo))[i]? = _
  rw [clip_of h0 (by omega), clip_of (by omega) h2, List.getElem?_take, if_pos hi', List.getElem?_drop, Array.getElem?_toList]
/-- a piece goes -/
theorem inv_gone (I : Inv p S g) {most lo hi : Int} (hm : 0 < most) (h : PnLo p most lo hi) : (lo = hi ∧ S = []) ∨ (lo < hi ∧ 0 ≤ lo ∧ hi ≤ p.D.size ∧ (∃ j T, S = (lo, j) :: T ∧ hi ≤ j) ∧ tot (cutSpan S lo hi) < tot S ∧
    Inv ⟨true, p.D, imax p.to hi, p.A, cutSpan p.L lo hi⟩ (cutSpan S lo hi) (g ++ [(lo, KBy.picked p.D (some lo) (some hi))])) := by
  have t0 := I.t0; have tW := I.tW; have w1 := I.w1
  -- the common part
  have key : lo < hi → 0 ≤ lo → hi ≤ p.D.size → (∀ k, lo ≤ k → k < hi → SIn S k) → (∀ k, SIn S k → lo ≤ k) → (∀ k, (SIn (cutSpan p.L lo hi) k → k < imax p.to hi) ∧ (SIn (cutSpan S lo hi) k ↔ SIn (cutSpan p.L lo hi) k ∨ (imax p.to hi ≤ k ∧ k < p.D.size))) → (lo ≤ p.to) →
      (lo < hi ∧ 0 ≤ lo ∧ hi ≤ p.D.size ∧ (∃ j T, S = (lo, j) :: T ∧ hi ≤ j) ∧ tot (cutSpan S lo hi) < tot S ∧ Inv ⟨true, p.D, imax p.to hi, p.A, cutSpan p.L lo hi⟩ (cutSpan S lo hi) (g ++ [(lo, KBy.picked p.D (some lo) (some hi))])) := by
    intro h1 h2 h3 h4 h5 h6 h7
    obtain ⟨j, T, e, hj⟩ := can_head I.cS h1 h4 h5
    obtain ⟨ps, pe⟩ := picked_ok (D := p.D) h2 (by omega) h3
    have mx : p.to ≤ imax p.to hi ∧ hi ≤ imax p.to hi ∧ imax p.to hi ≤ p.D.size := by unfold imax; split <;> omega
    refine ⟨h1, h2, h3, ⟨j, T, e, hj⟩, tot_cut I.cS e h1 hj, ?_⟩
    exact {
      cA := I.cA
      iA := fun k h => by have := I.iA k h; show k < imax p.to hi; omega
      cL := cut_can I.cL
      iL := fun k h => (h6 k).1 h
      t0 := by show 0 ≤ imax p.to hi; omega
      tW := mx.2.2
      w1 := I.w1
      cS := cut_can I.cS
      iS := fun k => (h6 k).2
      pc := fun q hq => by
        rcases List.mem_append.mp hq with hq | hq
        · obtain ⟨q1, q2, q3, q4⟩ := I.pc q hq
          exact ⟨q1, q2, by show _ ≤ imax p.to hi; omega, q4⟩
        · rw [List.mem_singleton.mp hq]
          exact ⟨h2, by show 0 < (KBy.picked p.D (some lo) (some hi)).size; omega, by show lo + ((KBy.picked p.D (some lo) (some hi)).size : Int) ≤ imax p.to hi; omega, pe⟩
      cov := fun k k0 k1 => by
        have k1 : k < imax p.to hi := k1
        by_cases c : k < p.to
        · obtain ⟨q, hq, a⟩ := I.cov k k0 c
          exact ⟨q, List.mem_append_left _ hq, a⟩
        · have : k < hi := by revert k1; unfold imax; split <;> omega
          refine ⟨_, List.mem_append_right _ (.head _), by show lo ≤ k; omega, ?_⟩
          show k < lo + ((KBy.picked p.D (some lo) (some hi)).size : Int); omega
      st := fun _ => rfl }
  rcases h with ⟨hL, h1, h2⟩ | ⟨j, hj, _, h2⟩
  · have hL : p.L = [] := hL.resolve_right (by omega)
    have hr : roomOf p = p.D.size - p.to := by unfold roomOf imax imin; split <;> split <;> omega
    rw [hr] at h2
    have hiv : hi = p.to + imin most (p.D.size - p.to) := by rw [h2]; unfold imax imin; split <;> (try split) <;> omega
    by_cases c : p.to < p.D.size
    · right
      have hb : p.to < hi ∧ hi ≤ p.D.size := by rw [hiv]; unfold imin; split <;> omega
      have sL : ∀ k, SIn S k ↔ (p.to ≤ k ∧ k < p.D.size) := fun k => by rw [I.iS, hL, sin_nil, false_or]
      refine key (by omega) (by omega) hb.2 (fun k a b => (sL k).mpr (by omega)) (fun k a => by have := (sL k).mp a; omega) (fun k => ?_) (by omega)
      have mx : imax p.to hi = hi := by unfold imax; split <;> omega
      rw [mx, cut_in, cut_in, hL, sin_nil, false_and, false_or, sL]
      exact ⟨False.elim, by omega⟩
    · left
      refine ⟨by rw [h1, hiv]; unfold imin; split <;> omega, can_nil I.cS fun k hk => ?_⟩
      rcases (I.iS k).mp hk with a | a
      · rw [hL] at a; exact sin_nil.mp a
      · omega
  · right
    cases hLL : p.L with
    | nil => rw [hLL] at hj; cases hj
    | cons q T =>
      rw [hLL] at hj
      have hq : q = (lo, j) := by simpa using hj
      subst hq
      have cL := I.cL
      rw [hLL] at cL
      obtain ⟨c1, c2, c3⟩ := cL
      have c1 : -1 < lo := c1
      have c2 : lo < j := c2
      have c3 : Can j T := c3
      have hh : lo < hi ∧ hi ≤ j := by rw [h2]; unfold imin; split <;> omega
      have inL : ∀ k, lo ≤ k → k < j → SIn p.L k := fun k a b => by rw [hLL]; exact sin_cons.mpr (.inl ⟨a, b⟩)
      have hto : j ≤ p.to := by have := I.iL (j - 1) (inL _ (by omega) (by omega)); omega
      have lbL : ∀ k, SIn p.L k → lo ≤ k := fun k a => by
        rw [hLL] at a
        rcases sin_cons.mp a with a | a
        · exact a.1
        · have := can_lb c3 a; omega
      have mx : imax p.to hi = p.to := by unfold imax; split <;> omega
      rw [← hLL]
      refine key hh.1 (by omega) (by omega) (fun k a b => (I.iS k).mpr (.inl (inL k a (by omega)))) (fun k a => ?_) (fun k => ?_) (by omega)
      · rcases (I.iS k).mp a with a | a
        · exact lbL k a
        · omega
      · rw [mx]
        refine ⟨fun a => I.iL k (cut_in.mp a).1, ?_⟩
        rw [cut_in, cut_in, I.iS, or_and_right]
        exact or_congr_right (by omega)
end

section
variable {c : Cx} {m : Fm} {news : Led} {e a b : PySem.Expr} {i j : Int} {P R T : Value → Prop} {pos px : Pos} {x y : Str} {v u : Value} {Q : Flow → Shared → Prop} {q : Value → Shared → Prop} {rest body orelse : List Stmt} {k dn un0 : Nat} {post post2 pa : Value → Led → Prop} {l : Addr} {us ws : List Value} {n : Nat} {t t2 t1 u' : Tok} {d : Array UInt8}
theorem g_isN1 (h : Gives c m news e (· = .none)) (hm : behindInMarks .Is (.Constant .none k px) = false) : Gives c m news (.Compare e [.Is] [.Constant .none k px] pos) (· = .bool true) := fun h0 tk q F N hQ => by
  refine wpAny_Compare1 (h _ _ _ F N ?_) hm
  rintro v h0 tk rfl F N
  refine g_none (c := c) (m := m) (news := news) _ _ _ F N ?_
  rintro v h0 tk rfl F N
  walk1
  exact hQ _ _ _ rfl F N
theorem g_not {t : Bool} (h : Gives c m news e (· = .bool t)) : Gives c m news (.UnaryOp .Not e pos) (· = .bool (!t)) := fun h0 tk q F N hQ => by
  walk1
  refine h _ _ _ F N ?_
  rintro v h0 tk rfl F N
  walk1
  walk1
  exact hQ _ _ _ rfl F N
theorem v_andE {K : Led → Prop} (ha : Evals c m news a (fun r n' => r = .bool true ∧ K n')) (h2 : ∀ n', K n' → Evals c m n' b post) : Evals c m news (.BoolOp .And [a, b] pos) post := fun h tk q F N hq => by
  refine BoolOp_and (ha _ _ _ F N ?_)
  rintro v n' h tk ⟨rfl, hK⟩ F N
  walk1
  exact h2 n' hK _ _ _ F N hq
theorem ev_tup2E (ha : Evals c m news a pa) (hb : ∀ v n', pa v n' → Gives c m n' b R) (hs : starEach [a, b] c.env = (false, eval a c.env) :: starEach [b] c.env) (hs2 : starEach [b] c.env = (false, eval b c.env) :: starEach [] c.env) :
    Evals c m news (.Tuple [a, b] k pos) (fun r n => ∃ u v n1 D, pa u n1 ∧ R v ∧ r = .ref D ∧ n = n1 ++ [(D, tupO [u, v] 0)] ∧ ∀ p ∈ n1, p.1 < D) := fun h tk q F N hq => by
  walk1
  refine el_consE (PL := fun v vs n => pa v n ∧ ∃ w, R w ∧ vs = [w]) ha hs ?_ _ _ _ _ F N ?_
  · intro v n hv
    exact el_w (el_cons (hb v n hv) hs2 el_nil) (by rintro _ _ ⟨w, _, rfl, hw, rfl, rfl⟩; exact ⟨hv, w, hw, rfl⟩)
  · rintro _ n' h tk ⟨v, _, rfl, hv, w, hw, rfl⟩ F N
    exact kup_newTuple (s := c.at h tk) F N (fun D h' F' N' hD => hq _ _ _ _ ⟨v, w, n', D, hv, hw, rfl, rfl, hD⟩ F' (ktn_tl1 N')) (by show 2 ≤ sizeLine; decide)
/-- two pairs of an int and bytes that are alike -/
theorem ev_eqT {pc : Addr} (B : Bd c dn un0) (hu : 4 ≤ un0) (ha : Evals c m news a post) (hb : ∀ v n', post v n' → Gives c m n' b (· = .ref pc)) (hm : behindInMarks .Eq b = false)
    (hp : ∀ v n', post v n' → ∃ D k1 k2, v = .ref D ∧ (D, tupO [.int i t1, .bytes d t] k1) ∈ n' ∧ (pc, tupO [.int i t2, .bytes d u'] k2) ∈ n') : Evals c m news (.Compare a [.Eq] [b] pos) (fun r n' => r = .bool true ∧ ∃ v, post v n') := fun h tk q F N hq => by
  refine wpAny_Compare1 (ha _ _ _ F N ?_) hm
  intro v n' h tk hv F N
  refine hb v n' hv _ _ _ F N ?_
  rintro w h tk rfl F N
  obtain ⟨D, k1, k2, rfl, h1, h2⟩ := hp v n' hv
  exact tup_same (s := c.at h tk) ⟨_, (N _ h1).1, rfl, k1, rfl⟩ ⟨_, (N _ h2).1, rfl, k2, rfl⟩ (by have := B.2.2.2.2.2.2; show c.un < cLine; omega) (hq _ _ _ _ ⟨rfl, _, hv⟩ F N)
end
/-- the two parts, where they lie -/
structure Nm where
  x : Addr
  dx : Addr
  y : Addr
  dy : Addr
  ck : CK
  pk : PKs
structure Hn (z : Nm) (G : Led) : Prop where
  hx : (z.x, instObj 108 z.dx) ∈ G
  hy : (z.y, instObj 255 z.dy) ∈ G
  hd : z.dx ≠ z.dy
  nx : ∀ q ∈ G, q.1 ≠ z.dx
  ny : ∀ q ∈ G, q.1 ≠ z.dy
def CI (z : Nm) (G : Led) (dc : Obj) (D : Array UInt8) (S A : Spans) : Prop := ∃ td ld vs n la ws n2, dc = dictOf (cryE z.ck (.bytes D td) (.ref ld) (.ref la)) 3 ∧ (ld, listOf vs.toArray n) ∈ G ∧ (la, listOf ws.toArray n2) ∈ G ∧ SpAll G vs S ∧ SpAll G ws A
def PI (z : Nm) (G : Led) (dp : Obj) (p : PS) : Prop := ∃ v, dp = dictOf (parV z.pk p v) 11 ∧ PIs G G p v
abbrev two (z : Nm) (dc dp : Obj) (G : Led) : Led := (z.dx, dc) :: (z.dy, dp) :: G
theorem CI.mono {z : Nm} {G tl : Led} {dc : Obj} {D : Array UInt8} {S A : Spans} (h : CI z G dc D S A) : CI z (G ++ tl) dc D S A := by
  obtain ⟨td, ld, vs, n, la, ws, n2, h1, h2, h3, h4, h5⟩ := h
  exact ⟨td, ld, vs, n, la, ws, n2, h1, sub_l _ h2, sub_l _ h3, h4.mono sub_l, h5.mono sub_l⟩
theorem PI.mono {z : Nm} {G tl : Led} {dp : Obj} {p : PS} (h : PI z G dp p) : PI z (G ++ tl) dp p := by
  obtain ⟨v, h1, h2, h3, h4, h5⟩ := h
  exact ⟨v, h1, sub_l _ h2, sub_l _ h3, h4.mono sub_l, h5.mono sub_l⟩
theorem Hn.mono {z : Nm} {G tl : Led} (H : Hn z G) (h1 : ∀ q ∈ tl, z.dx < q.1) (h2 : ∀ q ∈ tl, z.dy < q.1) : Hn z (G ++ tl) :=
  ⟨sub_l _ H.hx, sub_l _ H.hy, H.hd, List.forall_mem_append.mpr ⟨H.nx, fun q hq => Nat.ne_of_gt (h1 q hq)⟩, List.forall_mem_append.mpr ⟨H.ny, fun q hq => Nat.ne_of_gt (h2 q hq)⟩⟩
theorem two_swap {a b : Addr × Obj} {G : Led} : ∀ q ∈ a :: b :: G, q ∈ b :: a :: G := by
  intro q hq
  simp only [List.mem_cons] at hq ⊢
  rcases hq with h | h | h
  · exact .inr (.inl h)
  · exact .inl h
  · exact .inr (.inr h)
theorem mem_drop {l a : Addr} {o : Obj} {es : List DictEntry} {k n : Nat} {its : Array Value} {G : Led} (h : (l, listOf its n) ∈ (a, o) :: G) (ho : o = dictOf es k) : (l, listOf its n) ∈ G := by
  rcases List.mem_cons.mp h with h | h
  · rw [ho] at h
    have e : (Data.seq its n) = Data.dict es.toArray k := congrArg (fun p : Addr × Obj => p.2.data) h
    cases e
  · exact h
/-- what both are, and what was made more -/
def Ext (z : Nm) (G : Led) (p : PS) (S : Spans) (A : Spans) (D : Array UInt8) (R : Value → Led → Prop) (r : Value) (n' : Led) : Prop :=
  ∃ dc dp tl, n' = two z dc dp (G ++ tl) ∧ Abv (two z dc dp G) tl ∧ Hn z (G ++ tl) ∧ CI z (G ++ tl) dc D S A ∧ PI z (G ++ tl) dp p ∧ R r tl
theorem cpost_two {z : Nm} {G : Led} {dp : Obj} {p : PS} {D : Array UInt8} {S A : Spans} {R : Value → Led → Prop} {r : Value} {n' : Led} (H : Hn z G) (P : PI z G dp p) (h : CPost G ((z.dy, dp) :: G) z.dx z.ck D S A R r n') :
    Ext z G p S A D R r n' := by
  obtain ⟨d, du, ak, tl, rfl, hab, hdx, ⟨td, ld, vs, n, la, ws, n2, rfl, rfl, rfl, h1, h2, h3, h4⟩, hR⟩ := h
  have P' := P
  obtain ⟨v, hdp, _⟩ := P'
  refine ⟨_, dp, tl, rfl, ?_, H.mono hdx (hab _ (.head _)), ⟨td, ld, vs, n, la, ws, n2, rfl, mem_drop h1 hdp, mem_drop h2 hdp, h3, h4⟩, P.mono, hR⟩
  intro q hq p hp
  rcases List.mem_cons.mp hq with rfl | hq
  · exact hdx p hp
  · exact hab q hq p hp
theorem ppost_two {z : Nm} {G : Led} {dc : Obj} {p : PS} {D : Array UInt8} {S A : Spans} {R : Value → Led → Prop} {r : Value} {n' : Led} (H : Hn z G) (C : CI z G dc D S A) (h : PPost G ((z.dx, dc) :: G) z.dy z.pk p R r n') :
    ∃ n2, (∀ q ∈ n2, q ∈ n') ∧ Ext z G p S A D R r n2 := by
  obtain ⟨v, tl, rfl, hab, hdy, ⟨h1, h2, h3, h4⟩, hR⟩ := h
  have C' := C
  obtain ⟨td, ld, vs, n, la, ws, n2, hdc, _⟩ := C'
  refine ⟨_, two_swap, dc, _, tl, rfl, ?_, H.mono (hab _ (.head _)) hdy, C.mono, ⟨v, rfl, mem_drop h1 hdc, mem_drop h2 hdc, h3, h4⟩, hR⟩
  intro q hq p hp
  rcases List.mem_cons.mp hq with rfl | hq
  · exact hab _ (.head _) p hp
  · rcases List.mem_cons.mp hq with rfl | hq
    · exact hdy p hp
    · exact hab q (.tail _ hq) p hp
theorem two_up {z : Nm} {dc dp dc' dp' : Obj} {G tl : Led} {P : Addr → Prop} (h : ∀ q ∈ two z dc' dp' (G ++ tl), P q.1) : ∀ q ∈ two z dc dp G, P q.1 := by
  intro q hq
  rcases List.mem_cons.mp hq with rfl | hq
  · exact h (z.dx, dc') (.head _)
  · rcases List.mem_cons.mp hq with rfl | hq
    · exact h (z.dy, dp') (.tail _ (.head _))
    · exact h q (.tail _ (.tail _ (sub_l _ hq)))
theorem ext_push {z : Nm} {G tl : Led} {dc dp dc1 dp1 : Obj} {p : PS} {S A : Spans} {D : Array UInt8} {N : Addr} {o : Obj} {R : Value → Led → Prop} {r : Value} (hab : Abv (two z dc1 dp1 G) tl) (H : Hn z (G ++ tl)) (C : CI z (G ++ tl) dc D S A) (P : PI z (G ++ tl) dp p)
    (hD : ∀ q ∈ two z dc dp (G ++ tl), q.1 < N) (hR : R r (tl ++ [(N, o)])) : Ext z G p S A D R r (two z dc dp (G ++ tl) ++ [(N, o)]) := by
  refine ⟨dc, dp, tl ++ [(N, o)], ?_, ?_, ?_, ?_, ?_, hR⟩
  · rw [← List.append_assoc]; rfl
  · refine .append (fun q hq => ?_) (.cons (two_up (P := (· < N)) hD) .nil)
    rcases List.mem_cons.mp hq with rfl | hq
    · exact hab (z.dx, dc1) (.head _)
    · rcases List.mem_cons.mp hq with rfl | hq
      · exact hab (z.dy, dp1) (.tail _ (.head _))
      · exact hab q (.tail _ (.tail _ hq))
  · rw [← List.append_assoc]
    exact H.mono (List.forall_mem_cons.mpr ⟨hD _ (.head _), List.forall_mem_nil _⟩) (List.forall_mem_cons.mpr ⟨hD _ (.tail _ (.head _)), List.forall_mem_nil _⟩)
  · rw [← List.append_assoc]; exact C.mono
  · rw [← List.append_assoc]; exact P.mono
abbrev cO (z : Nm) (D : Array UInt8) (td : Tok) (ld la : Addr) : Obj := dictOf (cryE z.ck (.bytes D td) (.ref ld) (.ref la)) 3
theorem ext_trans {z : Nm} {G tl : Led} {dc1 dp1 : Obj} {p : PS} {S A : Spans} {D : Array UInt8} {R R' : Value → Led → Prop} {r : Value} {n' : Led} (hab : Abv (two z dc1 dp1 G) tl) (h : Ext z (G ++ tl) p S A D R r n') (hR : ∀ t2, R r t2 → R' r (tl ++ t2)) : Ext z G p S A D R' r n' := by
  obtain ⟨dc, dp, t2, rfl, h1, h2, h3, h4, h5⟩ := h
  refine ⟨dc, dp, tl ++ t2, by rw [List.append_assoc], ?_, by rwa [← List.append_assoc], by rwa [← List.append_assoc], by rwa [← List.append_assoc], hR _ h5⟩
  intro q hq
  refine List.forall_mem_append.mpr ⟨?_, ?_⟩
  · rcases List.mem_cons.mp hq with rfl | hq
    · exact hab (z.dx, dc1) (.head _)
    · rcases List.mem_cons.mp hq with rfl | hq
      · exact hab (z.dy, dp1) (.tail _ (.head _))
      · exact hab q (.tail _ (.tail _ hq))
  · rcases List.mem_cons.mp hq with rfl | hq
    · exact h1 (z.dx, dc) (.head _)
    · rcases List.mem_cons.mp hq with rfl | hq
      · exact h1 (z.dy, dp) (.tail _ (.head _))
      · exact h1 q (.tail _ (.tail _ (sub_l _ hq)))

def GonePost (z : Nm) (G : Led) (p : PS) (S : Spans) (g : Gone) (r : Value) (n' : Led) : Prop :=
  (S = [] ∧ Ext z G p S p.A p.D (fun r tl => ∃ D, r = .ref D ∧ (D, tupO [.bool true, .none] 0) ∈ tl) r n') ∨
  ∃ p' S' o d, Inv p' S' (g ++ [(o, d)]) ∧ p'.D = p.D ∧ p'.A = p.A ∧ tot S' < tot S ∧ Ext z G p' S' p'.A p'.D (fun r tl => ∃ D pc t1 t2, r = .ref D ∧ (D, tupO [.bool true, .ref pc] 0) ∈ tl ∧ (pc, tupO [.int o t1, .bytes d t2] 0) ∈ tl) r n'
theorem does_gone {z : Nm} {G : Led} {p : PS} {S : Spans} {g : Gone} {dc dp : Obj} {most : Int} {tm : Tok} (H : Hn z G) (C : CI z G dc p.D S p.A) (P : PI z G dp p) (I : Inv p S g) (hm : 0 < most) :
    Does 273 [.ref z.x, .ref z.y, .int most tm] (two z dc dp G) 3 22 (GonePost z G p S g) := by
  refine' does_ofS [(Str.ofString "crypto", .ref z.x), (Str.ofString "part", .ref z.y), (Str.ofString "most", .int most tm)] ?ho ?hcd ?hbind ?hloc ?hcell ?hco ?hgen ?hk ?h; (case ho => (intro w; k_dflt k_is)); (case hcd => (intro w; k_dflt k_is)); (case hbind => (intro s; exact BindsTo.of_eq rfl)); (case hloc => rfl); (case hcell => decide); (case hco => rfl); (case hgen => rfl); (case hk => rfl); intro c0 c qe m B hlt
  have hz : p.D.size ≤ 1000 := by have := I.w1; omega
  obtain ⟨v, rfl, hP⟩ := P
  refine s_assignE B (ev_meth (f := 210) (o := z.y) (PL := fun vs n => (∃ t1, vs = [.int most t1, .none]) ∧ n = two z dc (dictOf (parV z.pk p v) 11) G) B (by walk_at "EV") (meths_at (n := 11) cls_part B (.tail _ (.tail _ H.hy)) (.tail _ (.head _)) (by k_dflt k_is) (by k_dflt k_is) rfl) (by k_dflt k_is) rfl rfl rfl (el_w (el_cons (P := IsI most) (by walk_at "EV") rfl (el_cons (P := (· = .none)) (by walk_at "EV") rfl el_nil)) ?_) ?_) rfl (by walk_at "RF") ?_
    (post := fun r n' => ∃ lo hi, PnLo p most lo hi ∧ ∃ n2, (∀ q ∈ n2, q ∈ n') ∧ ((lo = hi ∧ Ext z G p S p.A p.D (fun r _ => r = .none) r n2) ∨ (lo ≠ hi ∧ Ext z G ⟨true, p.D, imax p.to hi, p.A, cutSpan p.L lo hi⟩ S p.A p.D (fun r tl => ∃ a t1 t2, r = .ref a ∧
        (a, tupO [.int lo t1, .bytes (KBy.picked p.D (some lo) (some hi)) t2, .bool false] 0) ∈ tl) r n2)))
  · rintro _ _ ⟨_, _, rfl, ⟨t1, rfl⟩, _, _, rfl, rfl, rfl, rfl⟩
    exact ⟨⟨t1, rfl⟩, rfl⟩
  · rintro _ _ ⟨⟨t1, rfl⟩, rfl⟩ h tk q F N hq
    refine c_sub _ two_swap (c_does B (does_pnext (K := G) (G := (z.dx, dc) :: G) (pk := z.pk) (p := p) (v := v) (.tail _ H.hy) (List.forall_mem_cons.mpr ⟨H.hd, H.ny⟩) (fun q hq => .tail _ hq) ⟨.tail _ hP.1, .tail _ hP.2.1, hP.2.2.1, hP.2.2.2⟩ hz I.lL) (by decide) (by decide)) h tk q F N ?_
    rintro r n' h' tk' ⟨lo, hi, hlo, hc⟩ F N
    refine hq r n' h' tk' ⟨lo, hi, hlo, ?_⟩ F N
    rcases hc with ⟨e, hc⟩ | ⟨e, hc⟩
    · obtain ⟨n2, h1, h2⟩ := ppost_two H C hc
      exact ⟨n2, h1, .inl ⟨e, h2⟩⟩
    · obtain ⟨n2, h1, h2⟩ := ppost_two H C hc
      exact ⟨n2, h1, .inr ⟨e, h2⟩⟩
  rintro ch n' ⟨lo, hi, hlo, n2, hsub, hc⟩
  refine s_sub n2 hsub ?_
  rcases hc with ⟨e, dc1, dp1, tl, rfl, hab, H1, C1, P1, hr⟩ | ⟨e, dc1, dp1, tl, rfl, hab, H1, C1, P1, a, t1, t2, rfl, ha⟩
  · have hr : ch = .none := hr
    subst hr
    have hS : S = [] := by
      rcases inv_gone I hm hlo with h | h
      · exact h.2
      · exact absurd h.1 (by omega)
    obtain ⟨td, ld, vs, k0, la, ws, k2, rfl, c1, c2, c3, c4⟩ := C1
    refine s_assignE B (ev_meth (f := 84) (o := z.x) (PL := fun vs' n => (∃ t1, vs' = [.int most t1]) ∧ n = two z (dictOf (cryE z.ck (.bytes p.D td) (.ref ld) (.ref la)) 3) dp1 (G ++ tl)) B (by walk_at "EV") (meths_at (n := 3) cls_cry B (.tail _ (.tail _ H1.hx)) (.head _) (by k_dflt k_is) (by k_dflt k_is) rfl) (by k_dflt k_is) rfl rfl rfl (el_w (el_cons (P := IsI most) (g_ifT (t_isN1 (by walk_at "EV") rfl) (by walk_at "EV")) rfl el_nil) ?_) ?_) rfl (by walk_at "RF") ?_
      (post := fun r n' => r = .none ∧ n' = two z (dictOf (cryE z.ck (.bytes p.D td) (.ref ld) (.ref la)) 3) dp1 (G ++ tl))
    · rintro _ _ ⟨_, _, rfl, ⟨t1, rfl⟩, rfl, rfl⟩
      exact ⟨⟨t1, rfl⟩, rfl⟩
    · rintro _ _ ⟨⟨t1, rfl⟩, rfl⟩ h tk q F N hq
      refine c_does B (does_cnext (K := G ++ tl) (G := (z.dy, dp1) :: (G ++ tl)) (ck := z.ck) (D := p.D) (td := td) (.tail _ H1.hx) (List.forall_mem_cons.mpr ⟨fun e => H1.hd e.symm, H1.nx⟩) (.tail _ c1) (fun q hq => .tail _ hq) c3 (.tail _ c2) c4 (by rw [hS]; exact Nat.zero_le _) hz) (by decide) (by decide) h tk q F N ?_
      rintro r n' h' tk' (⟨rfl, rfl, _⟩ | ⟨i, j, h0, _⟩) F N
      · exact hq _ _ h' tk' ⟨rfl, rfl⟩ F N
      · rw [hS] at h0; cases h0
    rintro _ _ ⟨rfl, rfl⟩
    refine s_if (t_or (t_isN1 (by walk_at "EV") rfl) (fun h => nomatch h) (b' := true)) (fun _ => ?_) fun h => nomatch h
    refine s_retE (ev_tup2E (k := _) (pa := fun r n' => r = .bool true ∧ n' = two z (dictOf (cryE z.ck (.bytes p.D td) (.ref ld) (.ref la)) 3) dp1 (G ++ tl)) (v_and (g_isN1 (by walk_at "EV") rfl) (fun h => nomatch h) fun _ => g_ev (g_isN1 (by walk_at "EV") rfl)) (R := (· = .none)) (by rintro v _ ⟨_, rfl⟩; exact (by walk_at "EV")) rfl rfl) ?_
    rintro r n' ⟨_, _, _, D, ⟨rfl, rfl⟩, rfl, rfl, rfl, hD⟩
    exact h_then (h_ends _ (.inl ⟨hS, ext_push hab H1 ⟨td, ld, vs, k0, la, ws, k2, rfl, c1, c2, c3, c4⟩ P1 hD ⟨D, rfl, sub_r _ (.head _)⟩⟩) fun q hq => hq)
  · obtain ⟨hlt2, hlo0, hhi, ⟨j, T, hS, hj⟩, htot, I2⟩ := (inv_gone I hm hlo).resolve_left (fun h => e h.1)
    obtain ⟨psz, _⟩ := picked_ok (D := p.D) hlo0 (by omega) hhi
    obtain ⟨td, ld, vs, k0, la, ws, k2, rfl, c1, c2, c3, c4⟩ := C1
    have hmn : imin j (lo + ((KBy.picked p.D (some lo) (some hi)).size : Int)) = hi := by rw [psz]; unfold imin; split <;> omega
    refine s_assignE B (ev_meth (f := 84) (o := z.x) (PL := fun vs' n => (∃ t1, vs' = [.int (KBy.picked p.D (some lo) (some hi)).size t1]) ∧ n = two z (cO z p.D td ld la) dp1 (G ++ tl)) B (by walk_at "EV") (meths_at (n := 3) cls_cry B (.tail _ (.tail _ H1.hx)) (.head _) (by k_dflt k_is) (by k_dflt k_is) rfl) (by k_dflt k_is) rfl rfl rfl (el_w (el_cons (P := IsI (KBy.picked p.D (some lo) (some hi)).size) (g_ifF (t_isN2 (by walk_at "EV") rfl) (g_b1 (by walk_at "GB") rfl (g_tupItem (jn := 1) (l := [.int lo t1, .bytes (KBy.picked p.D (some lo) (some hi)) t2, .bool false]) (by walk_at "EV") (.tail _ (.tail _ (sub_r _ ha))) rfl (by decide) (fun _ => rfl)) (c_lenB (by omega)))) rfl el_nil) ?_) ?_) rfl (by walk_at "RF") ?_
      (post := fun r n' => ∃ pc t3 t4, r = .ref pc ∧ Ext z (G ++ tl) ⟨true, p.D, imax p.to hi, p.A, cutSpan p.L lo hi⟩ (cutSpan S lo hi) p.A p.D (fun _ tl => (pc, tupO [.int lo t3, .bytes (KBy.picked p.D (some lo) (some hi)) t4] 0) ∈ tl) r n')
    · rintro _ _ ⟨_, _, rfl, ⟨t1, rfl⟩, rfl, rfl⟩
      exact ⟨⟨t1, rfl⟩, rfl⟩
    · rintro _ _ ⟨⟨t1, rfl⟩, rfl⟩ h tk q F N hq
      refine c_does B (does_cnext (K := G ++ tl) (G := (z.dy, dp1) :: (G ++ tl)) (ck := z.ck) (D := p.D) (td := td) (.tail _ H1.hx) (List.forall_mem_cons.mpr ⟨fun e => H1.hd e.symm, H1.nx⟩) (.tail _ c1) (fun q hq => .tail _ hq) c3 (.tail _ c2) c4 I.lS hz) (by decide) (by decide) h tk q F N ?_
      rintro r n' h' tk' (⟨_, _, hbad⟩ | ⟨i, j', h0, _, hc⟩) F N
      · rcases hbad with hbad | hbad
        · rw [hS] at hbad; cases hbad
        · omega
      · rw [hS] at h0
        have h0 : (lo, j) = (i, j') := Option.some.inj h0
        cases h0
        rw [hmn] at hc
        obtain ⟨dc2, dp2, tl2, e1, e2, e3, e4, e5, pc, t3, t4, rfl, hpc⟩ := cpost_two H1 P1 hc
        exact hq _ _ h' tk' ⟨pc, t3, t4, rfl, dc2, dp2, tl2, e1, e2, e3, e4, e5, hpc⟩ F N
    rintro _ n' ⟨pc, t3, t4, rfl, dc2, dp2, tl2, rfl, hab2, H2, C2, P2, hpc⟩
    refine s_if (t_or (b := false) (t_isN2 (by walk_at "EV") rfl) (fun _ => t_or (b := false) (t_isN2 (by walk_at "EV") rfl) fun _ => t_orN) (b' := false)) (fun h => nomatch h) fun _ => s_end ?_
    refine s_retE (ev_tup2E (k := _) (R := (· = .ref pc)) (pa := fun r n' => r = .bool true ∧ ∃ D, n' = two z dc2 dp2 (G ++ tl ++ tl2) ++ [(D, tupO [.int lo t1, .bytes (KBy.picked p.D (some lo) (some hi)) t2] 0)] ∧ ∀ q ∈ two z dc2 dp2 (G ++ tl ++ tl2), q.1 < D)
      (v_andE (K := fun n' => ∃ D, n' = two z dc2 dp2 (G ++ tl ++ tl2) ++ [(D, tupO [.int lo t1, .bytes (KBy.picked p.D (some lo) (some hi)) t2] 0)] ∧ ∀ q ∈ two z dc2 dp2 (G ++ tl ++ tl2), q.1 < D) (ev_w (ev_eqT (pc := pc) (i := lo) (t1 := t1) (t2 := t3) (d := KBy.picked p.D (some lo) (some hi)) (t := t2) (u' := t4) B (by decide) (ev_slice2 (tp := a) (v1 := .int lo t1) (v2 := .bytes (KBy.picked p.D (some lo) (some hi)) t2) (v3 := .bool false) (by walk_at "EV") (.tail _ (.tail _ (sub_l _ (sub_r _ ha)))) (fun _ => rfl) (fun _ => rfl)) ?_ rfl ?_) ?_) ?_) ?_ rfl rfl) ?_
    · rintro v n' ⟨D, rfl, rfl, _⟩; exact (by walk_at "EV")
    · rintro v n' ⟨D, rfl, rfl, _⟩
      exact ⟨D, 0, 0, rfl, sub_r _ (.head _), sub_l _ (.tail _ (.tail _ (sub_r _ hpc)))⟩
    · rintro r n' ⟨rfl, v, D, rfl, rfl, hD⟩
      exact ⟨rfl, D, rfl, hD⟩
    · rintro n' ⟨D, rfl, hD⟩
      exact ev_w (g_ev (g_not (g_tupItem (jn := 2) (l := [.int lo t1, .bytes (KBy.picked p.D (some lo) (some hi)) t2, .bool false]) (n := 0) (by walk_at "EV") (sub_l _ (.tail _ (.tail _ (sub_l _ (sub_r _ ha))))) rfl (by decide) (fun _ => rfl)))) (by rintro _ _ ⟨rfl, rfl⟩; exact ⟨rfl, D, rfl, hD⟩)
    · rintro v n' ⟨_, D, rfl, _⟩; exact (by walk_at "EV")
    · rintro r n' ⟨_, _, _, D2, ⟨rfl, D, rfl, hD⟩, rfl, rfl, rfl, hD2⟩
      have X1 := ext_push (R := fun _ t => (pc, tupO [.int lo t3, .bytes (KBy.picked p.D (some lo) (some hi)) t4] 0) ∈ t) (r := .none) (o := tupO [.int lo t1, .bytes (KBy.picked p.D (some lo) (some hi)) t2] 0) hab2 H2 C2 P2 hD (sub_l _ hpc)
      obtain ⟨dc3, dp3, tl3, e3, hab3, H3, C3, P3, hpc3⟩ := X1
      rw [e3] at hD2
      have X2 := ext_push (R := fun r t => ∃ D pc t1 t2, r = .ref D ∧ (D, tupO [.bool true, .ref pc] 0) ∈ t ∧ (pc, tupO [.int lo t1, .bytes (KBy.picked p.D (some lo) (some hi)) t2] 0) ∈ t) (r := .ref D2) (o := tupO [.bool true, .ref pc] 0) hab3 H3 C3 P3 hD2 ⟨D2, pc, t3, t4, rfl, sub_r _ (.head _), sub_l _ hpc3⟩
      rw [← e3] at X2
      refine h_ends _ (.inr ⟨_, _, lo, _, I2, rfl, rfl, htot, ext_trans hab X2 ?_⟩) fun q hq => hq
      rintro t ⟨D5, pc5, t5, t6, h1, h2, h3⟩
      exact ⟨D5, pc5, t5, t6, h1, sub_r _ h2, sub_r _ h3⟩

section
variable {c : Cx} {m : Fm} {news : Led} {e a b : PySem.Expr} {i j : Int} {pos px : Pos} {x y : Str} {v u : Value} {Q : Flow → Shared → Prop} {k dn un0 : Nat} {post : Value → Led → Prop} {l l2 : Addr} {us ws : List Value} {n n2 : Nat} {t t2 : Tok} {d : Array UInt8} {S : Spans} {bb : Bool}
theorem t_neSp (B : Bd c dn un0) (hu : 67 ≤ un0) (ha : Gives c m news a (· = .ref l)) (hl : (l, listOf us.toArray n) ∈ news) (hd : SpAll news us S) (hb : Gives c m news b (· = .ref l2)) (hl2 : (l2, listOf ws.toArray n2) ∈ news) (hd2 : SpAll news ws S) (hm : behindInMarks .NotEq b = false) :
    Tests c m news (.Compare a [.NotEq] [b] pos) false := fun h tk q F N hQ => by
  refine wpAny_isTrue_Compare1 (ha _ _ _ F N ?_) hm
  rintro v h tk rfl F N
  refine hb _ _ _ F N ?_
  rintro v h tk rfl F N
  refine kqd_ne (s := c.at h tk) N hl rfl rfl hd (fun _ h => h) hl2 rfl rfl hd2 (fun _ h => h) spd_ok spd_ok (by have := B.2.2.2.2.2.2; show c.un + 64 < cLine; omega) ?_
  have e : ∀ (i : Decidable (S.map spd = S.map spd)), (!@decide _ i) = false := fun i => by rw [@decide_eq_true _ i rfl]; rfl
  rw [e]
  walk1
  exact hQ _ _ F N
theorem t_neB (ha : Gives c m news a (· = .bytes d t)) (hb : Gives c m news b (· = .bytes d t2)) (hm : behindInMarks .NotEq b = false) : Tests c m news (.Compare a [.NotEq] [b] pos) false := fun h tk q F N hQ => by
  refine wpAny_isTrue_Compare1 (ha _ _ _ F N ?_) hm
  rintro v h tk rfl F N
  refine hb _ _ _ F N ?_
  rintro v h tk rfl F N
  refine by_ne ?_
  walk1
  exact hQ _ _ F N
theorem ev_eqB {K K2 : Led → Prop} (ha : Evals c m news a (fun r n' => r = .bool bb ∧ K n')) (hb : ∀ n', K n' → Evals c m n' b (fun r n2 => r = .bool bb ∧ K2 n2)) (hm : behindInMarks .Eq b = false) : Evals c m news (.Compare a [.Eq] [b] pos) (fun r n' => r = .bool true ∧ K2 n') := fun h tk q F N hQ => by
  refine wpAny_Compare1 (ha _ _ _ F N ?_) hm
  rintro v n' h tk ⟨rfl, hK⟩ F N
  refine hb n' hK _ _ _ F N ?_
  rintro v n2 h tk ⟨rfl, hK2⟩ F N
  have := hQ (.bool true) n2 h tk ⟨rfl, hK2⟩ F N
  cases bb <;> (walk1; exact this)
end
theorem does_alike {z : Nm} {G : Led} {p : PS} {S : Spans} {g : Gone} {dc dp : Obj} (H : Hn z G) (C : CI z G dc p.D S p.A) (P : PI z G dp p) (I : Inv p S g) :
    Does 280 [.ref z.x, .ref z.y] (two z dc dp G) 3 73 (Ext z G p S p.A p.D (fun r _ => r = .bool true)) := by
  refine' does_ofS [(Str.ofString "crypto", .ref z.x), (Str.ofString "part", .ref z.y)] ?ho ?hcd ?hbind ?hloc ?hcell ?hco ?hgen ?hk ?h; (case ho => (intro w; k_dflt k_is)); (case hcd => (intro w; k_dflt k_is)); (case hbind => (intro s; exact BindsTo.of_eq rfl)); (case hloc => rfl); (case hcell => decide); (case hco => rfl); (case hgen => rfl); (case hk => rfl); intro c0 c qe m B hlt
  have hz : p.D.size ≤ 1000 := by have := I.w1; omega
  obtain ⟨v, rfl, hP⟩ := P
  refine s_assignE B (ev_call (PL := fun vs n => (∃ t1 t2, vs = [.ref v.ll, .int p.to t1, .int p.D.size t2]) ∧ n = two z dc (dictOf (parV z.pk p v) 11) G) B (by walk_at "GG") (by k_dflt k_is) rfl rfl (el_w (el_cons (g_at (n := 11) cls_part B (by walk_at "EV") (.tail _ (.tail _ H.hy)) (.tail _ (.head _)) (by k_dflt k_is) rfl rfl) rfl (el_cons (g_I (g_at (n := 11) cls_part B (by walk_at "EV") (.tail _ (.tail _ H.hy)) (.tail _ (.head _)) (by k_dflt k_is) rfl rfl)) rfl (el_cons (g_b1 (by walk_at "GB") rfl (g_at (n := 11) cls_part B (by walk_at "EV") (.tail _ (.tail _ H.hy)) (.tail _ (.head _)) (by k_dflt k_is) rfl rfl) (c_lenB hz)) rfl el_nil))) ?_) ?_) rfl (by walk_at "RF") ?_ (post := RetSp G (two z dc (dictOf (parV z.pk p v) 11) G) S)
  · rintro _ _ ⟨_, _, rfl, rfl, _, _, rfl, ⟨t1, rfl⟩, _, _, rfl, ⟨t2, rfl⟩, rfl, rfl⟩
    exact ⟨⟨t1, t2, rfl⟩, rfl⟩
  · rintro _ _ ⟨⟨t1, t2, rfl⟩, rfl⟩
    rw [← I.due]
    exact c_does B (does_add (t1 := t1) (t2 := t2) (lo := p.to) (hi := p.D.size) (K := G) (news := two z dc (dictOf (parV z.pk p v) 11) G) (.tail _ (.tail _ hP.2.1)) (fun q hq => .tail _ (.tail _ hq)) hP.2.2.2 I.lL) (by decide) (by decide)
  rintro _ n' ⟨a, us, k, tl, rfl, rfl, hab, ha, hS⟩
  have H1 : Hn z (G ++ tl) := H.mono (hab _ (.head _)) (hab _ (.tail _ (.head _)))
  have C1 : CI z (G ++ tl) dc p.D S p.A := C.mono
  have P1 : PIs (G ++ tl) (G ++ tl) p v := ⟨sub_l _ hP.1, sub_l _ hP.2.1, hP.2.2.1.mono sub_l, hP.2.2.2.mono sub_l⟩
  obtain ⟨td, ld, vs, k0, la, ws, k2, rfl, c1, c2, c3, c4⟩ := C1
  show RunS c _ (two z (cO z p.D td ld la) (dictOf (parV z.pk p v) 11) (G ++ tl)) _ qe
  have up : ∀ {o o' : Addr × Obj}, ∀ q ∈ G ++ tl, q ∈ o :: o' :: (G ++ tl) := fun q hq => .tail _ (.tail _ hq)
  refine s_if (b := false) (t_or (b := false) (b' := false) (t_neSp (S := S) (l := a) (us := us) (n := k) (l2 := ld) (ws := vs) (n2 := k0) B (by decide) (by walk_at "EV") (up _ (sub_r _ ha)) (hS.mono up) (g_at (n := 3) cls_cry B (by walk_at "EV") (up _ H1.hx) (.head _) (by k_dflt k_is) rfl rfl) (up _ c1) (c3.mono up) rfl) fun _ =>
    t_or (b := false) (b' := false) (t_neSp (S := p.A) (l := v.la) (us := v.ws) (n := v.n2) (l2 := la) (ws := ws) (n2 := k2) B (by decide) (g_at (n := 11) cls_part B (by walk_at "EV") (up _ H1.hy) (.tail _ (.head _)) (by k_dflt k_is) rfl rfl) (up _ P1.1) (P1.2.2.1.mono up) (g_at (n := 3) cls_cry B (by walk_at "EV") (up _ H1.hx) (.head _) (by k_dflt k_is) rfl rfl) (up _ c2) (c4.mono up) rfl) fun _ =>
    t_or (b := false) (b' := false) (t_neB (d := p.D) (t := td) (t2 := v.td) (g_at (n := 3) cls_cry B (by walk_at "EV") (up _ H1.hx) (.head _) (by k_dflt k_is) rfl rfl) (g_at (n := 11) cls_part B (by walk_at "EV") (up _ H1.hy) (.tail _ (.head _)) (by k_dflt k_is) rfl rfl) rfl) fun _ => t_orN) (fun h => nomatch h) fun _ => s_end ?_
  refine s_retE (post := fun r n' => r = .bool true ∧ Ext z (G ++ tl) p S p.A p.D (fun _ _ => True) .none n') (v_andE (K := fun n' => n' = two z (cO z p.D td ld la) (dictOf (parV z.pk p v) 11) (G ++ tl))
    (ev_eqB (bb := !decide (S = [])) (K := fun n' => n' = two z (cO z p.D td ld la) (dictOf (parV z.pk p v) 11) (G ++ tl)) (ev_ws (post := fun r n' => r = .bool (decide (0 < (p.L.length : Int)) || decide (0 < roomOf p)) ∧ n' = (z.dy, dictOf (parV z.pk p v) 11) :: (z.dx, cO z p.D td ld la) :: (G ++ tl)) (ev_meth (f := 203) (o := z.y) (PL := fun vs n => vs = [.none] ∧ n = two z (cO z p.D td ld la) (dictOf (parV z.pk p v) 11) (G ++ tl)) B (by walk_at "EV") (meths_at (n := 11) cls_part B (up _ H1.hy) (.tail _ (.head _)) (by k_dflt k_is) (by k_dflt k_is) rfl) (by k_dflt k_is) rfl rfl rfl (el_w (el_cons (P := (· = .none)) (by walk_at "EV") rfl el_nil) ?a1) ?a2) ?a3)
      ?a4 rfl) ?a5) ?a6
  case a1 => rintro _ _ ⟨_, _, rfl, rfl, rfl, rfl⟩; exact ⟨rfl, rfl⟩
  case a2 =>
    rintro _ _ ⟨rfl, rfl⟩
    exact c_sub _ two_swap (c_does B (does_hasto (K := G ++ tl) (G := (z.dx, cO z p.D td ld la) :: (G ++ tl)) (pk := z.pk) (p := p) (v := v) (.tail _ H1.hy) ⟨.tail _ P1.1, .tail _ P1.2.1, P1.2.2.1, P1.2.2.2⟩ hz (Nat.le_trans I.lL (by decide))) (by decide) (by decide))
  case a3 =>
    rintro r n' ⟨rfl, rfl⟩
    exact ⟨_, two_swap, by rw [I.hasTo], rfl⟩
  case a4 =>
    rintro _ rfl
    refine ev_ws (ev_neSp (S := S) (T := []) (K := two z (cO z p.D td ld la) (dictOf (parV z.pk p v) 11) (G ++ tl)) (l := ld) (us := vs) (n := k0) (post := fun r n' => Made (two z (cO z p.D td ld la) (dictOf (parV z.pk p v) 11) (G ++ tl)) (fun k => listOf [].toArray k) r n') B (by decide) (g_at (n := 3) cls_cry B (by walk_at "EV") (up _ H1.hx) (.head _) (by k_dflt k_is) rfl rfl) (c3.mono up) (ev_w (ev_list (pos := _) el_nil ?_) ?_) rfl ?_) ?_
    · rintro _ _ ⟨rfl, _⟩; exact Nat.zero_le _
    · rintro r n' ⟨_, _, ⟨rfl, rfl⟩, h⟩; exact h
    · rintro r n' ⟨D, k, rfl, rfl, hD⟩
      exact ⟨sub_l, sub_l _ (up _ c1), D, [], k, [], rfl, sub_r _ (.head _), List.forall_mem_nil _, DatAll.nil⟩
    · rintro r n' ⟨rfl, r', D, k, rfl, rfl, hD⟩
      exact ⟨_, sub_l, rfl, rfl⟩
  case a5 =>
    rintro _ rfl
    refine ev_w (ev_eqB (bb := hasSpan p.A 0 p.D.size) (K := fun n' => Ext z (G ++ tl) p S p.A p.D (fun _ _ => True) .none n') (K2 := fun n' => Ext z (G ++ tl) p S p.A p.D (fun _ _ => True) .none n') (ev_w (post := CPost (G ++ tl) ((z.dy, dictOf (parV z.pk p v) 11) :: (G ++ tl)) z.dx z.ck p.D S p.A fun r _ => r = .bool (isDone p.D.size p.A)) (ev_meth0 (f := 105) (o := z.x) B (by walk_at "EV") (meths_at (n := 3) cls_cry B (up _ H1.hx) (.head _) (by k_dflt k_is) (by k_dflt k_is) rfl) (by k_dflt k_is) rfl (c_does B (does_cdone (K := G ++ tl) (G := (z.dy, dictOf (parV z.pk p v) 11) :: (G ++ tl)) (ck := z.ck) (D := p.D) (td := td) (.tail _ H1.hx) (.tail _ c1) (fun q hq => .tail _ hq) c3 (.tail _ c2) c4 hz) (by decide) (by decide))) ?_) ?_ rfl) (fun r n' h => h)
    · intro r n' h
      obtain ⟨dc2, dp2, tl2, e1, e2, e3, e4, e5, hr⟩ := cpost_two H1 ⟨v, rfl, P1⟩ h
      exact ⟨by rw [hr, I.done], dc2, dp2, tl2, e1, e2, e3, e4, e5, trivial⟩
    · rintro n' ⟨dc2, dp2, tl2, rfl, hab2, H2, C2, P2, _⟩
      obtain ⟨v2, rfl, hP2⟩ := P2
      refine ev_w (ev_call (post := fun r n' => r = .bool (hasSpan p.A 0 p.D.size) ∧ n' = two z dc2 (dictOf (parV z.pk p v2) 11) (G ++ tl ++ tl2)) (PL := fun vs n => (∃ t1 t2, vs = [.ref v2.la, .int 0 t1, .int p.D.size t2]) ∧ n = two z dc2 (dictOf (parV z.pk p v2) 11) (G ++ tl ++ tl2)) B (by walk_at "GG") (by k_dflt k_is) rfl rfl (el_w (el_cons (g_at (n := 11) cls_part B (by walk_at "EV") (.tail _ (.tail _ H2.hy)) (.tail _ (.head _)) (by k_dflt k_is) rfl rfl) rfl (el_cons (P := IsI 0) (by walk_at "EV") rfl (el_cons (g_b1 (by walk_at "GB") rfl (g_at (n := 11) cls_part B (by walk_at "EV") (.tail _ (.tail _ H2.hy)) (.tail _ (.head _)) (by k_dflt k_is) rfl rfl) (c_lenB hz)) rfl el_nil))) ?_) ?_) ?_
      · rintro _ _ ⟨_, _, rfl, rfl, _, _, rfl, ⟨t1, rfl⟩, _, _, rfl, ⟨t2, rfl⟩, rfl, rfl⟩
        exact ⟨⟨t1, t2, rfl⟩, rfl⟩
      · rintro _ _ ⟨⟨t1, t2, rfl⟩, rfl⟩
        exact c_does B (does_has (.tail _ (.tail _ hP2.1)) (hP2.2.2.1.mono fun q hq => .tail _ (.tail _ hq))) (by decide) (by decide)
      · rintro r n' ⟨rfl, rfl⟩
        exact ⟨rfl, dc2, _, tl2, rfl, hab2, H2, C2, ⟨v2, rfl, hP2⟩, trivial⟩
  case a6 =>
    rintro r n' ⟨rfl, dc2, dp2, tl2, rfl, e2, e3, e4, e5, _⟩
    exact h_ends _ (ext_trans (R := fun r _ => r = .bool true) hab ⟨dc2, dp2, tl2, rfl, e2, e3, e4, e5, rfl⟩ fun _ h => h) fun q hq => hq

/-- the pieces that went, in the ledger -/
def GAll (G : Led) (vs : List Value) (g : Gone) : Prop := vs.length = g.length ∧ ∀ (i : Nat) v, vs[i]? = some v → ∃ o d a t1 t2 k, g[i]? = some (o, d) ∧ v = .ref a ∧ (a, tupO [.int o t1, .bytes d t2] k) ∈ G
theorem GAll.nil {G : Led} : GAll G [] [] := ⟨rfl, fun _ _ h => by cases h⟩
theorem GAll.mono {G G' : Led} {vs : List Value} {g : Gone} (h : GAll G vs g) (hs : ∀ p ∈ G, p ∈ G') : GAll G' vs g := ⟨h.1, fun i v hv => by
  obtain ⟨o, d, a, t1, t2, k, h1, h2, h3⟩ := h.2 i v hv
  exact ⟨o, d, a, t1, t2, k, h1, h2, hs _ h3⟩⟩
theorem GAll.snoc {G : Led} {vs : List Value} {g : Gone} {a : Addr} {o : Int} {d : Array UInt8} {t1 t2 : Tok} {k : Nat} (h : GAll G vs g) (ha : (a, tupO [.int o t1, .bytes d t2] k) ∈ G) : GAll G (vs ++ [.ref a]) (g ++ [(o, d)]) := by
  refine ⟨by rw [List.length_append, List.length_append, h.1]; rfl, fun i v hv => ?_⟩
  by_cases hi : i < vs.length
  · rw [List.getElem?_append_left hi] at hv
    obtain ⟨o', d', a', u1, u2, k', h1, h2, h3⟩ := h.2 i v hv
    exact ⟨o', d', a', u1, u2, k', by rw [List.getElem?_append_left (by rw [← h.1]; exact hi)]; exact h1, h2, h3⟩
  · have hi' : i = vs.length := by
      have := (List.getElem?_eq_some_iff.mp hv).1
      rw [List.length_append, List.length_singleton] at this; omega
    subst hi'
    rw [List.getElem?_append_right (Nat.le_refl _), Nat.sub_self] at hv
    have hv : Value.ref a = v := Option.some.inj hv
    exact ⟨o, d, a, t1, t2, k, by rw [h.1, List.getElem?_append_right (Nat.le_refl _), Nat.sub_self]; rfl, hv.symm, ha⟩
/-! an entry of another kind taken out -/
theorem SpAll.strip {G G' : Led} {x : Addr × Obj} {vs : List Value} {S : Spans} (h : SpAll G vs S) (hs : ∀ p ∈ G, p = x ∨ p ∈ G') (hx : x.2.cls ≠ .type "tuple") : SpAll G' vs S := by
  unfold SpAll at h ⊢
  induction S generalizing vs with
  | nil => cases h; exact .nil
  | cons p S ih =>
    rw [List.map_cons] at h ⊢
    cases h with
    | cons h1 h2 =>
      obtain ⟨a, t, u, n, rfl, hm⟩ := spd_in h1
      refine .cons (spd_of (n := n) (t := t) (u := u) ?_) (ih h2)
      rcases hs _ hm with e | e
      · exact absurd (by rw [← e]) hx
      · exact e
theorem GAll.strip {G G' : Led} {x : Addr × Obj} {vs : List Value} {g : Gone} (h : GAll G vs g) (hs : ∀ p ∈ G, p = x ∨ p ∈ G') (hx : x.2.cls ≠ .type "tuple") : GAll G' vs g := ⟨h.1, fun i v hv => by
  obtain ⟨o, d, a, t1, t2, k, h1, h2, h3⟩ := h.2 i v hv
  rcases hs _ h3 with e | e
  · exact absurd (by rw [← e]) hx
  · exact ⟨o, d, a, t1, t2, k, h1, h2, e⟩⟩
theorem list_strip {G G' : Led} {x : Addr × Obj} {l : Addr} {vs : Array Value} {n : Nat} (h : (l, listOf vs n) ∈ G) (hs : ∀ p ∈ G, p = x ∨ p ∈ G') (hx : x.2.cls ≠ .type "list") : (l, listOf vs n) ∈ G' := by
  rcases hs _ h with e | e
  · exact absurd (by rw [← e]) hx
  · exact e
theorem CI.sub {z : Nm} {G G' : Led} {dc : Obj} {D : Array UInt8} {S A : Spans} (h : CI z G dc D S A) (hs : ∀ p ∈ G, p ∈ G') : CI z G' dc D S A := by
  obtain ⟨td, ld, vs, n, la, ws, n2, h1, h2, h3, h4, h5⟩ := h
  exact ⟨td, ld, vs, n, la, ws, n2, h1, hs _ h2, hs _ h3, h4.mono hs, h5.mono hs⟩
theorem PI.sub {z : Nm} {G G' : Led} {dp : Obj} {p : PS} (h : PI z G dp p) (hs : ∀ p ∈ G, p ∈ G') : PI z G' dp p := by
  obtain ⟨v, h1, h2, h3, h4, h5⟩ := h
  exact ⟨v, h1, hs _ h2, hs _ h3, h4.mono hs, h5.mono hs⟩
theorem CI.strip {z : Nm} {G G' : Led} {x : Addr × Obj} {dc : Obj} {D : Array UInt8} {S A : Spans} (h : CI z G dc D S A) (hs : ∀ p ∈ G, p = x ∨ p ∈ G') (hx : x.2.cls ≠ .type "tuple") (hy : x.2.cls ≠ .type "list") : CI z G' dc D S A := by
  obtain ⟨td, ld, vs, n, la, ws, n2, h1, h2, h3, h4, h5⟩ := h
  exact ⟨td, ld, vs, n, la, ws, n2, h1, list_strip h2 hs hy, list_strip h3 hs hy, h4.strip hs hx, h5.strip hs hx⟩
theorem PI.strip {z : Nm} {G G' : Led} {x : Addr × Obj} {dp : Obj} {p : PS} (h : PI z G dp p) (hs : ∀ p ∈ G, p = x ∨ p ∈ G') (hx : x.2.cls ≠ .type "tuple") (hy : x.2.cls ≠ .type "list") : PI z G' dp p := by
  obtain ⟨v, h1, h2, h3, h4, h5⟩ := h
  exact ⟨v, h1, list_strip h2 hs hy, list_strip h3 hs hy, h4.strip hs hx, h5.strip hs hx⟩
theorem intd_cls {c : Cx} {o : Obj} {kvs : List (Int × Value)} (h : IntD c o kvs) : o.cls = .type "dict" := by
  obtain ⟨es, ep, hx, _⟩ := h
  exact hx.1
/-! what came -/
def Came (D : Array UInt8) (kvs : List (Int × Value)) : Prop := ∀ x ∈ kvs, 0 ≤ x.1 ∧ ∃ cb t, D[x.1.toNat]? = some cb ∧ x.2 = .int (cb.toNat : Int) t
def Has (kvs : List (Int × Value)) (k : Int) : Prop := ∃ x ∈ kvs, x.1 = k
theorem came_put {D : Array UInt8} {kvs : List (Int × Value)} {k : Int} {cb : UInt8} {t : Tok} (h : Came D kvs) (h0 : 0 ≤ k) (hk : D[k.toNat]? = some cb) : Came D (stored kvs k (.int (cb.toNat : Int) t)) := by
  unfold stored
  split
  · intro x hx
    obtain ⟨y, hy, rfl⟩ := List.mem_map.mp hx
    split
    · rename_i e
      exact ⟨by show 0 ≤ y.1; rw [e]; exact h0, cb, t, by show D[y.1.toNat]? = _; rw [e]; exact hk, rfl⟩
    · exact h y hy
  · intro x hx
    rcases List.mem_append.mp hx with hx | hx
    · exact h x hx
    · rw [List.mem_singleton.mp hx]; exact ⟨h0, cb, t, hk, rfl⟩
theorem has_put {kvs : List (Int × Value)} {k j : Int} {v : Value} (h : Has kvs j ∨ j = k) : Has (stored kvs k v) j := by
  unfold stored
  split
  · rename_i hb
    rcases h with ⟨x, hx, e⟩ | e
    · exact ⟨_, List.mem_map.mpr ⟨x, hx, rfl⟩, by split <;> exact e⟩
    · obtain ⟨x, hx, e'⟩ := List.any_eq_true.mp hb
      have e' : x.1 = k := of_decide_eq_true e'
      exact ⟨_, List.mem_map.mpr ⟨x, hx, rfl⟩, by split <;> (show x.1 = j; rw [e', e])⟩
  · rcases h with ⟨x, hx, e⟩ | e
    · exact ⟨x, List.mem_append_left _ hx, e⟩
    · exact ⟨_, List.mem_append_right _ (.head _), e.symm⟩
theorem intd_nodup {c : Cx} {o : Obj} {kvs : List (Int × Value)} (h : IntD c o kvs) : (kvs.map (·.1)).Nodup := by
  obtain ⟨es, ep, _, _, _, _, hn⟩ := h
  exact hn
theorem came_range {D : Array UInt8} {kvs : List (Int × Value)} (h : Came D kvs) : ∀ k ∈ kvs.map (·.1), k ∈ rangeKs 0 D.size := by
  intro k hk
  obtain ⟨x, hx, rfl⟩ := List.mem_map.mp hk
  obtain ⟨h0, cb, t, hc, _⟩ := h x hx
  have := (Array.getElem?_eq_some_iff.mp hc).1
  exact List.mem_map.mpr ⟨x.1.toNat, List.mem_range.mpr this, by omega⟩
theorem came_len {c : Cx} {o : Obj} {D : Array UInt8} {kvs : List (Int × Value)} (hd : IntD c o kvs) (h : Came D kvs) : kvs.length ≤ D.size := by
  have := List.Nodup.length_le_of_subset (intd_nodup hd) (came_range h)
  rwa [List.length_map, rangeKs_length] at this
theorem range_nodup (n : Nat) : (rangeKs 0 n).Nodup := by
  unfold rangeKs
  rw [List.Nodup, List.pairwise_map]
  exact List.nodup_range.imp fun h e => h (by omega)
theorem came_full {c : Cx} {o : Obj} {D : Array UInt8} {kvs : List (Int × Value)} (hd : IntD c o kvs) (h : Came D kvs) (ha : ∀ k : Int, 0 ≤ k → k < D.size → Has kvs k) : kvs.length = D.size := by
  have h1 := came_len hd h
  have h2 := List.Nodup.length_le_of_subset (l₂ := kvs.map (·.1)) (range_nodup D.size) (fun k hk => by
    obtain ⟨a, b⟩ := mem_rangeKs hk
    obtain ⟨x, hx, e⟩ := ha k a (by omega)
    exact List.mem_map.mpr ⟨x, hx, e⟩)
  rw [rangeKs_length, List.length_map] at h2
  omega
/-- the octet at a place -/
def octAt (D : Array UInt8) (k : Int) : Int := ((D[k.toNat]?.getD 0).toNat : Int)
theorem came_at {c : Cx} {o : Obj} {D : Array UInt8} {kvs : List (Int × Value)} (hd : IntD c o kvs) (h : Came D kvs) {k : Int} (hk : Has kvs k) : ∃ t, valueAt kvs k = some (.int (octAt D k) t) := by
  obtain ⟨x, hx, e⟩ := hk
  obtain ⟨i, hi⟩ := List.mem_iff_getElem?.mp hx
  obtain ⟨h0, cb, t, hc, hv⟩ := h x hx
  refine ⟨t, ?_⟩
  rw [← e, valueAt_of_get (intd_nodup hd) (i := i) (k := x.1) (v := x.2) hi, hv, octAt, hc]; rfl
theorem oct_in (D : Array UInt8) (n : Nat) : KBa.In ((rangeKs 0 n).map (octAt D)) := by
  intro k hk
  obtain ⟨i, _, rfl⟩ := List.mem_map.mp hk
  have := (D[i.toNat]?.getD 0).toNat_lt
  unfold octAt; omega
theorem oct_bytes (D : Array UInt8) : byteArr ((rangeKs 0 D.size).map (octAt D)) = D := by
  unfold byteArr rangeKs
  rw [List.map_map, List.map_map]
  apply Array.ext
  · simp
  · intro i h1 h2
    have hi : i < D.size := h2
    simp only [List.getElem_toArray, List.getElem_map, List.getElem_range, Function.comp, octAt]
    rw [show ((0 : Int) + (i : Int)).toNat = i by omega, Array.getElem?_eq_getElem hi]
    simp
/-- in the end -/
theorem tot_le {S : Spans} {b W : Int} (h : Can b S) (hk : ∀ k, SIn S k → k < W) (hb : b ≤ W) : b + (tot S : Int) ≤ W := by
  induction S generalizing b with
  | nil => simpa [tot] using hb
  | cons p S ih =>
    obtain ⟨h1, h2, h3⟩ := h
    have := hk (p.2 - 1) (sin_cons.mpr (.inl ⟨by omega, by omega⟩))
    have h4 := ih h3 (fun k a => hk k (sin_cons.mpr (.inr a))) (by omega)
    show b + (((p.2 - p.1).toNat + tot S : Nat) : Int) ≤ W
    omega
theorem Inv.tot_le {p : PS} {S : Spans} {g : Gone} (I : Inv p S g) : tot S ≤ 101 := by
  have := Mine.tot_le I.cS (W := p.D.size) (fun k h => I.iSW h) (by omega)
  have := I.w1; omega
theorem Inv.to_of_nil {p : PS} {g : Gone} (I : Inv p [] g) : p.to = p.D.size := by
  have := I.tW
  apply Int.le_antisymm this
  apply Decidable.byContradiction
  intro h
  exact sin_nil.mp ((I.iS p.to).mpr (.inr ⟨Int.le_refl _, by omega⟩))
theorem cut_nil {lo hi : Int} : cutSpan [] lo hi = [] := by unfold cutSpan; split <;> rfl
theorem Inv.all_done {p : PS} {S : Spans} {g : Gone} (I : Inv p S g) (h : ∀ k : Int, 0 ≤ k → k < p.D.size → SIn p.A k) : isDone p.D.size p.A = true := by
  unfold isDone
  by_cases hW : p.D.size = 0
  · rw [decide_eq_true hW]; rfl
  · have : p.A = [(0, (p.D.size : Int))] := can_ext (c := -1) I.cA ⟨by show (-1 : Int) < 0; decide, by show (0 : Int) < p.D.size; omega, trivial⟩ fun k => by
      rw [sin_cons, sin_nil, or_false]
      constructor
      · intro hk
        have := can_lb I.cA hk; have := I.iA k hk; have := I.tW
        exact ⟨by show 0 ≤ k; omega, by show k < (p.D.size : Int); omega⟩
      · rintro ⟨a, b⟩; exact h k a b
    rw [this, decide_eq_true rfl, Bool.or_true]

section
variable {c : Cx} {m : Fm} {news : Led} {e a b : PySem.Expr} {i j : Int} {pos px : Pos} {v u : Value} {q : Value → Shared → Prop} {k dn un0 : Nat} {post : Value → Led → Prop} {t t2 : Tok} {d : Array UInt8}
theorem t_isNot1 (h : Gives c m news e (· = .none)) (hm : behindInMarks .IsNot (.Constant .none k px) = false) : Tests c m news (.Compare e [.IsNot] [.Constant .none k px] pos) false := fun h0 tk q F N hQ => by
  refine wpAny_isTrue_Compare1 (h _ _ _ F N ?_) hm
  rintro v h0 tk rfl F N
  refine g_none (c := c) (m := m) (news := news) _ _ _ F N ?_
  rintro v h0 tk rfl F N
  walk1
  walk1
  exact hQ _ _ F N
theorem t_isNot2 {r : Addr} (h : Gives c m news e (· = .ref r)) (hm : behindInMarks .IsNot (.Constant .none k px) = false) : Tests c m news (.Compare e [.IsNot] [.Constant .none k px] pos) true := fun h0 tk q F N hQ => by
  refine wpAny_isTrue_Compare1 (h _ _ _ F N ?_) hm
  rintro v h0 tk rfl F N
  refine g_none (c := c) (m := m) (news := news) _ _ _ F N ?_
  rintro v h0 tk rfl F N
  walk1
  walk1
  exact hQ _ _ F N
theorem t_ne (ha : Gives c m news a (IsI i)) (hb : Gives c m news b (IsI j)) (hm : behindInMarks .NotEq b = false) : Tests c m news (.Compare a [.NotEq] [b] pos) (!decide (i = j)) := t_cmp ha hb hm fun h tk q t t' hq => by
  walk1
  walk1
  exact hq _
theorem ev_eqBy (ha : Evals c m news a post) (hp : ∀ r n', post r n' → IsB d r) (hb : ∀ r n', post r n' → Gives c m n' b (IsB d)) (hm : behindInMarks .Eq b = false) : Evals c m news (.Compare a [.Eq] [b] pos) (fun r n' => r = .bool true) := fun h tk q F N hQ => by
  refine wpAny_Compare1 (ha _ _ _ F N ?_) hm
  intro v n' h tk hv F N
  obtain ⟨t, rfl⟩ := hp v n' hv
  refine hb _ n' hv _ _ _ F N ?_
  rintro w h tk ⟨t2, rfl⟩ F N
  exact by_eq (hQ _ _ _ _ rfl F N)
end
theorem rot3 {a b c : Addr × Obj} {G : Led} : ∀ q ∈ a :: b :: c :: G, q ∈ c :: b :: a :: G := by
  intro q hq
  simp only [List.mem_cons] at hq ⊢
  rcases hq with h | h | h | h
  · exact .inr (.inr (.inl h))
  · exact .inr (.inl h)
  · exact .inl h
  · exact .inr (.inr (.inr h))
/-- the drain's state -/
structure Ws where
  dc : Obj
  dp : Obj
  p : PS
  S : Spans
  g : Gone
  T : Led
  lg : Addr
  gs : List Value
  kg : Nat
  pv : Value
  nx : Option (Int × Array UInt8)
def wrest (s : Ws) : Nat := match s.nx with | none => 0 | some _ => tot s.S + 1
def wled (z : Nm) (G1 : Led) (s : Ws) : Led := two z s.dc s.dp (G1 ++ s.T)
def WNx (z : Nm) (G : Led) (s : Ws) : Prop := match s.nx with
  | none => s.pv = .none ∧ s.S = [] ∧ Inv s.p s.S s.g
  | some q => (∃ pc t1 t2, s.pv = .ref pc ∧ (pc, tupO [.int q.1 t1, .bytes q.2 t2] 0) ∈ G) ∧ Inv s.p s.S (s.g ++ [q])
structure WJ (z : Nm) (G1 : Led) (D : Array UInt8) (s : Ws) : Prop where
  H : Hn z (G1 ++ s.T)
  C : CI z (G1 ++ s.T) s.dc s.p.D s.S s.p.A
  P : PI z (G1 ++ s.T) s.dp s.p
  hl : (s.lg, listOf s.gs.toArray s.kg) ∈ G1 ++ s.T
  hg : GAll (G1 ++ s.T) s.gs s.g
  hb : s.g.length + wrest s ≤ 300
  hD : s.p.D = D
  ab : Abv G1 s.T
  nx : WNx z (G1 ++ s.T) s
theorem gone_ws {z : Nm} {G1 T : Led} {p : PS} {S : Spans} {g : Gone} {r : Value} {n' : Led} {lg : Addr} {gs : List Value} {kg : Nat} (h : GonePost z (G1 ++ T) p S g r n') (I : Inv p S g) (hl : (lg, listOf gs.toArray kg) ∈ G1 ++ T) (hg : GAll (G1 ++ T) gs g) (hb : g.length + tot S ≤ 300) (ab : Abv G1 T) :
    ∃ D dc dp p' S' T' pv nx, r = .ref D ∧ n' = wled z G1 ⟨dc, dp, p', S', g, T', lg, gs, kg, pv, nx⟩ ∧ (D, tupO [.bool true, pv] 0) ∈ n' ∧ WJ z G1 p.D ⟨dc, dp, p', S', g, T', lg, gs, kg, pv, nx⟩ ∧ wrest ⟨dc, dp, p', S', g, T', lg, gs, kg, pv, nx⟩ < tot S + 1 := by
  rcases h with ⟨hS, dc, dp, tl, rfl, hab, H, C, P, D, rfl, hm⟩ | ⟨p', S', o, d, I', hD, hA, htot, dc, dp, tl, rfl, hab, H, C, P, D, pc, t1, t2, rfl, hm, hpc⟩
  · refine ⟨D, dc, dp, p, S, T ++ tl, .none, none, rfl, by rw [wled, List.append_assoc], .tail _ (.tail _ (sub_r _ hm)), ?_, Nat.succ_pos _⟩
    rw [List.append_assoc] at H C P
    exact ⟨H, C, P, by rw [← List.append_assoc]; exact sub_l _ hl, by rw [← List.append_assoc]; exact hg.mono sub_l, by show g.length + 0 ≤ 300; omega, rfl, .append ab fun q hq => hab q (.tail _ (.tail _ (sub_l _ hq))), rfl, hS, I⟩
  · refine ⟨D, dc, dp, p', S', T ++ tl, .ref pc, some (o, d), rfl, by rw [wled, List.append_assoc], .tail _ (.tail _ (sub_r _ hm)), ?_, Nat.succ_lt_succ htot⟩
    rw [List.append_assoc] at H C P
    exact ⟨H, C, P, by rw [← List.append_assoc]; exact sub_l _ hl, by rw [← List.append_assoc]; exact hg.mono sub_l, by show g.length + (tot S' + 1) ≤ 300; omega, hD, .append ab fun q hq => hab q (.tail _ (.tail _ (sub_l _ hq))), ⟨pc, t1, t2, rfl, by rw [← List.append_assoc]; exact sub_r _ hpc⟩, I'⟩
/-- the acknowledging loop's state -/
structure Fs where
  dc : Obj
  dp : Obj
  p : PS
  T : Led
  od : Obj
  kvs : List (Int × Value)
def fled (z : Nm) (Dm : Addr) (G2 : Led) (s : Fs) : Led := (Dm, s.od) :: two z s.dc s.dp (G2 ++ s.T)
structure FJ (c : Cx) (z : Nm) (Dm : Addr) (G2 : Led) (D : Array UInt8) (g : Gone) (i : Nat) (s : Fs) : Prop where
  H : Hn z (G2 ++ s.T)
  C : CI z (G2 ++ s.T) s.dc s.p.D [] s.p.A
  P : PI z (G2 ++ s.T) s.dp s.p
  I : Inv s.p [] g
  hD : s.p.D = D
  ab : ∀ q ∈ s.T, Dm < q.1
  id : IntD c s.od s.kvs
  ca : Came D s.kvs
  ha : ∀ j o d, j < i → g[j]? = some (o, d) → ∀ k : Int, o ≤ k → k < o + d.size → Has s.kvs k ∧ SIn s.p.A k
theorem does_rest {z : Nm} {G : Led} {p : PS} {S : Spans} {g : Gone} {dc dp : Obj} {lg : Addr} {gs : List Value} {kg : Nat} (H : Hn z G) (C : CI z G dc p.D S p.A) (P : PI z G dp p) (I : Inv p S g) (hl : (lg, listOf gs.toArray kg) ∈ G) (hg : GAll G gs g) (hb : g.length ≤ 100) :
    Does 285 [.ref z.x, .ref z.y, .ref lg] (two z dc dp G) 4 76 (fun r _ => r = .bool true) := by
  refine' does_ofC [(Str.ofString "crypto", .ref z.x), (Str.ofString "part", .ref z.y), (Str.ofString "gone", .ref lg)] (Str.ofString "came") ?ho ?hcd ?hbind ?hloc ?hcells ?hfr ?hcm ?hco ?hgen ?hk ?h; (case ho => (intro w; k_dflt k_is)); (case hcd => (intro w; k_dflt k_is)); (case hbind => (intro s; exact BindsTo.of_eq rfl)); (case hloc => rfl); (case hcells => (intro n; rfl)); (case hfr => (intro L'; (repeat (first | exact List.forall_mem_nil _ | refine List.forall_mem_cons.mpr ⟨by with_unfolding_all rfl, ?_⟩)))); (case hcm => (intro L'; rfl)); (case hco => rfl); (case hgen => rfl); (case hk => rfl); intro c0 cc oc0 u0 c qe m B hlt hoc
  have hz : p.D.size ≤ 1000 := by have := I.w1; omega
  refine s_assignC B (ev_dict0 B) rfl (by walk_at "RF") (cc := cc) rfl ?_
  rintro _ n' ⟨Dm, od, rfl, rfl, hDm, lo, hd⟩
  refine ⟨oc0, none, two z dc dp G ++ [(Dm, od)], rfl, ?_, hoc, fun oc hocv => ?_⟩
  · exact List.forall_mem_append.mpr ⟨fun q hq => Nat.ne_of_lt (hlt q hq), List.forall_mem_cons.mpr ⟨Nat.ne_of_gt (hDm _ (.head _)), List.forall_mem_nil _⟩⟩
  have hcD : cc < Dm := hDm _ (.head _)
  have hGD : ∀ q ∈ two z dc dp G, q.1 < Dm := fun q hq => hDm q (.tail _ hq)
  let G1 : Led := G ++ [(cc, oc), (Dm, od)]
  have H1 : Hn z (G1 ++ []) := by
    rw [List.append_nil]
    exact H.mono (List.forall_mem_cons.mpr ⟨hlt _ (.head _), List.forall_mem_cons.mpr ⟨hGD _ (.head _), List.forall_mem_nil _⟩⟩) (List.forall_mem_cons.mpr ⟨hlt _ (.tail _ (.head _)), List.forall_mem_cons.mpr ⟨hGD _ (.tail _ (.head _)), List.forall_mem_nil _⟩⟩)
  have up1 : ∀ q ∈ G, q ∈ G1 ++ [] := fun q hq => sub_l q (sub_l q hq)
  have C1 := C.sub up1
  have P1 := P.sub up1
  refine s_sub (two z dc dp (G1 ++ [])) (fun q hq => ?_) ?_
  · rw [List.append_nil] at hq
    simp only [G1, List.mem_cons, List.mem_append, List.not_mem_nil, or_false] at hq ⊢
    rcases hq with h | h | h | h | h
    · exact .inr (.inl (.inl h))
    · exact .inr (.inl (.inr (.inl h)))
    · exact .inr (.inl (.inr (.inr h)))
    · exact .inl h
    · exact .inr (.inr h)
  refine s_unp2 (post := GonePost z (G1 ++ []) p S g) B (ev_call (f := 273) (PL := fun vs n => (∃ t1, vs = [.ref z.x, .ref z.y, .int 4 t1]) ∧ n = two z dc dp (G1 ++ [])) B (by walk_at "GG") (by k_dflt k_is) rfl rfl (el_w (el_cons (P := (· = .ref z.x)) (by walk_at "EV") rfl (el_cons (P := (· = .ref z.y)) (by walk_at "EV") rfl (el_cons (P := IsI 4) g_int rfl el_nil))) ?_) ?_) (by walk_at "RF") (by walk_at "RF") (by walk_at "RF") (by walk_at "RF") ?_
  · rintro _ _ ⟨_, _, rfl, rfl, _, _, rfl, rfl, _, _, rfl, ⟨t1, rfl⟩, rfl, rfl⟩; exact ⟨⟨t1, rfl⟩, rfl⟩
  · rintro _ _ ⟨⟨t1, rfl⟩, rfl⟩
    exact c_does B (does_gone H1 C1 P1 I (by decide)) (by decide) (by decide)
  intro r n' hr
  obtain ⟨D, dc1, dp1, p1, S1, T1, pv1, nx1, rfl, hn', hmem, hJ, _⟩ := gone_ws hr I (up1 _ hl) (hg.mono up1) (by have := I.tot_le; omega) (fun _ _ _ h => nomatch h)
  subst hn'
  refine ⟨D, .bool true, pv1, 0, rfl, hmem, ?_⟩
  refine s_whileS (σ := Ws) (fun s => [(Str.ofString "crypto", .ref z.x), (Str.ofString "part", .ref z.y), (Str.ofString "gone", .ref s.lg), (Str.ofString "is_alike", .bool true), (Str.ofString "piece", s.pv)]) (wled z G1) (WJ z G1 p.D) wrest ⟨dc1, dp1, p1, S1, g, T1, lg, gs, kg, pv1, nx1⟩ B (by (repeat (first | exact List.forall_mem_nil _ | refine List.forall_mem_cons.mpr ⟨by with_unfolding_all rfl, ?_⟩))) hJ ?_
  rintro ⟨dc2, dp2, p2, S2, g2, T2, lg2, gs2, kg2, pv2, nx2⟩ u2 ⟨H2, C2, P2, hl2, hg2, hb2, hD2, ab2, hnx2⟩ mt nt qw
  cases nx2 with
  | some q2 =>
    obtain ⟨⟨pc, t1, t2, hpv, hpc⟩, I2⟩ := hnx2
    have hpv : pv2 = .ref pc := hpv
    subst hpv
    refine ⟨true, ?_, fun _ => ?_, (fun h => nomatch h)⟩
    · exact t_and (b := true) (b' := true) (t_val (by walk_at "EV") rfl) fun _ => t_and (b := true) (b' := true) (t_isNot2 (by walk_at "EV") rfl) fun _ => t_andN
    · have hb3 : g2.length + (tot S2 + 1) ≤ 300 := hb2
      refine s_assignE B (ev_cat (l := lg2) (us := gs2) (n := kg2) (pw := fun r ws n' => ws = [.ref pc] ∧ Made nt (fun k => listOf [Value.ref pc].toArray k) r n') (by walk_at "EV") (ev_w (ev_list (pos := _) (el_cons (P := (· = .ref pc)) (by walk_at "EV") rfl el_nil) ?_) ?_) ?_) rfl (by walk_at "RF") ?_
      · rintro _ _ ⟨_, _, rfl, rfl, rfl, rfl⟩; exact (by decide : 1 ≤ 1000)
      · rintro r n' ⟨_, _, ⟨_, _, rfl, rfl, rfl, rfl⟩, hm⟩; exact ⟨_, rfl, hm⟩
      · rintro r ws n' ⟨rfl, D1, k1, rfl, rfl, hD1⟩
        exact ⟨sub_l _ (.tail _ (.tail _ hl2)), by rw [hg2.1]; show g2.length + 1 ≤ 1000; omega, D1, k1, rfl, sub_r _ (.head _)⟩
      rintro _ _ ⟨_, _, _, ⟨rfl, D1, k1, rfl, rfl, hD1⟩, D3, k3, rfl, rfl, hD3⟩
      have hD4 : ∀ q ∈ two z dc2 dp2 (G1 ++ T2), q.1 < D3 := fun q hq => hD3 q (sub_l q hq)
      let T3 : Led := T2 ++ [(D3, listOf (gs2 ++ [Value.ref pc]).toArray k3)]
      have e3 : G1 ++ T3 = (G1 ++ T2) ++ [(D3, listOf (gs2 ++ [Value.ref pc]).toArray k3)] := (List.append_assoc ..).symm
      have H3 : Hn z (G1 ++ T3) := by
        rw [e3]
        exact H2.mono (List.forall_mem_cons.mpr ⟨hD4 _ (.head _), List.forall_mem_nil _⟩) (List.forall_mem_cons.mpr ⟨hD4 _ (.tail _ (.head _)), List.forall_mem_nil _⟩)
      have up3 : ∀ q ∈ G1 ++ T2, q ∈ G1 ++ T3 := fun q hq => by rw [e3]; exact sub_l q hq
      have C3 := C2.sub up3
      have P3 := P2.sub up3
      have hl3 : (D3, listOf (gs2 ++ [Value.ref pc]).toArray k3) ∈ G1 ++ T3 := sub_r _ (sub_r _ (.head _))
      have hg3 : GAll (G1 ++ T3) (gs2 ++ [.ref pc]) (g2 ++ [q2]) := (hg2.mono up3).snoc (up3 _ hpc)
      refine s_sub (two z dc2 dp2 (G1 ++ T3)) (fun q hq => ?_) ?_
      · rcases List.mem_cons.mp hq with rfl | hq
        · exact .head _
        · rcases List.mem_cons.mp hq with rfl | hq
          · exact .tail _ (.head _)
          · rw [e3] at hq
            rcases List.mem_append.mp hq with hq | hq
            · exact sub_l _ (sub_l _ (.tail _ (.tail _ hq)))
            · exact sub_r _ hq
      refine s_unp2 (post := GonePost z (G1 ++ T3) p2 S2 (g2 ++ [q2])) B (ev_call (f := 273) (PL := fun vs n => (∃ t1, vs = [.ref z.x, .ref z.y, .int 4 t1]) ∧ n = two z dc2 dp2 (G1 ++ T3)) B (by walk_at "GG") (by k_dflt k_is) rfl rfl (el_w (el_cons (P := (· = .ref z.x)) (by walk_at "EV") rfl (el_cons (P := (· = .ref z.y)) (by walk_at "EV") rfl (el_cons (P := IsI 4) g_int rfl el_nil))) ?_) ?_) (by walk_at "RF") (by walk_at "RF") (by walk_at "RF") (by walk_at "RF") ?_
      · rintro _ _ ⟨_, _, rfl, rfl, _, _, rfl, rfl, _, _, rfl, ⟨t1, rfl⟩, rfl, rfl⟩; exact ⟨⟨t1, rfl⟩, rfl⟩
      · rintro _ _ ⟨⟨t1, rfl⟩, rfl⟩
        exact c_does B (does_gone H3 C3 P3 I2 (by decide)) (by decide) (by decide)
      intro r n' hr
      obtain ⟨D5, dc5, dp5, p5, S5, T5, pv5, nx5, rfl, hn', hmem, hJ, hμ⟩ := gone_ws hr I2 hl3 hg3 (by rw [List.length_append, List.length_singleton]; omega) (.append ab2 (.cons (fun q hq => hD4 q (.tail _ (.tail _ (sub_l q hq)))) .nil))
      subst hn'
      refine ⟨D5, .bool true, pv5, 0, rfl, hmem, ?_⟩
      have hD2 : p2.D = p.D := hD2
      rw [hD2] at hJ
      exact s_wend (σ := Ws) ⟨dc5, dp5, p5, S5, g2 ++ [q2], T5, D3, gs2 ++ [.ref pc], k3, pv5, nx5⟩ (fun _ h => h) (by (repeat (first | exact List.forall_mem_nil _ | refine List.forall_mem_cons.mpr ⟨by with_unfolding_all rfl, ?_⟩))) hJ hμ
  | none =>
    obtain ⟨hpv, hS2, I2⟩ := hnx2
    have hpv : pv2 = .none := hpv
    have hS2 : S2 = [] := hS2
    subst hpv hS2
    refine ⟨false, ?_, (fun h => nomatch h), fun _ => ?_⟩
    · exact t_and (b := true) (b' := false) (t_val (by walk_at "EV") rfl) fun _ => t_and (b := false) (b' := true) (t_isNot1 (by walk_at "EV") rfl) fun h => nomatch h
    · have I2 : Inv p2 [] g2 := I2
      have hD2 : p2.D = p.D := hD2
      have hcls := intd_cls hd
      have hx1 : ((Dm, od) : Addr × Obj).2.cls ≠ .type "tuple" := by show od.cls ≠ _; rw [hcls]; decide
      have hx2 : ((Dm, od) : Addr × Obj).2.cls ≠ .type "list" := by show od.cls ≠ _; rw [hcls]; decide
      let G2 : Led := (G ++ [(cc, oc)]) ++ T2
      have hstr : ∀ q ∈ G1 ++ T2, q = (Dm, od) ∨ q ∈ G2 := by
        intro q hq
        simp only [G1, G2, List.mem_append, List.mem_cons, List.not_mem_nil, or_false] at hq ⊢
        rcases hq with (h | h | h) | h
        · exact .inr (.inl (.inl h))
        · exact .inr (.inl (.inr h))
        · exact .inl h
        · exact .inr (.inr h)
      have hsub2 : ∀ q ∈ G2, q ∈ G1 ++ T2 := by
        intro q hq
        simp only [G1, G2, List.mem_append, List.mem_cons, List.not_mem_nil, or_false] at hq ⊢
        rcases hq with (h | h) | h
        · exact .inl (.inl h)
        · exact .inl (.inr (.inl h))
        · exact .inr h
      have hDm1 : (Dm, od) ∈ G1 := sub_r _ (.tail _ (.head _))
      have hTD : ∀ q ∈ T2, Dm < q.1 := ab2 _ hDm1
      have hDm2 : ∀ q ∈ G2, q.1 ≠ Dm := List.forall_mem_append.mpr ⟨List.forall_mem_append.mpr ⟨fun q hq => Nat.ne_of_lt (hGD q (.tail _ (.tail _ hq))), List.forall_mem_cons.mpr ⟨Nat.ne_of_lt hcD, List.forall_mem_nil _⟩⟩, fun q hq => Nat.ne_of_gt (hTD q hq)⟩
      have dxD : z.dx ≠ Dm := Nat.ne_of_lt (hGD _ (.head _))
      have dyD : z.dy ≠ Dm := Nat.ne_of_lt (hGD _ (.tail _ (.head _)))
      have H4 : Hn z (G2 ++ []) := by
        rw [List.append_nil]
        exact ⟨sub_l _ (sub_l _ H.hx), sub_l _ (sub_l _ H.hy), H.hd, fun q hq => H2.nx q (hsub2 q hq), fun q hq => H2.ny q (hsub2 q hq)⟩
      have C4 : CI z (G2 ++ []) dc2 p2.D [] p2.A := by rw [List.append_nil]; exact C2.strip hstr hx1 hx2
      have P4 : PI z (G2 ++ []) dp2 p2 := by rw [List.append_nil]; exact P2.strip hstr hx1 hx2
      have hl4 := list_strip hl2 hstr hx2
      have hg4 := hg2.strip hstr hx1
      refine s_sub (fled z Dm G2 ⟨dc2, dp2, p2, [], od, []⟩) (fun q hq => ?_) ?_
      · have hq : q ∈ (Dm, od) :: two z dc2 dp2 (G2 ++ []) := hq
        rw [List.append_nil] at hq
        rcases List.mem_cons.mp hq with rfl | hq
        · exact .tail _ (.tail _ (sub_l _ hDm1))
        · rcases List.mem_cons.mp hq with rfl | hq
          · exact .head _
          · rcases List.mem_cons.mp hq with rfl | hq
            · exact .tail _ (.head _)
            · exact .tail _ (.tail _ (hsub2 q hq))
      refine s_forI (post := fun r n' => r = .ref lg2 ∧ n' = fled z Dm G2 ⟨dc2, dp2, p2, [], od, []⟩) B (g_ev (by walk_at "EV")) (fun _ => rfl) ?_
      rintro _ _ ⟨rfl, rfl⟩
      refine it_pairsS (σ := Fs) (keep := G2) (vs := gs2) (nn := kg2) (fun s => [(Str.ofString "crypto", .ref z.x), (Str.ofString "part", .ref z.y), (Str.ofString "is_alike", .bool true)]) (fled z Dm G2) (FJ c z Dm G2 p.D g2) (fun i u w => ∃ o d t1 t2, g2[i]? = some (o, d) ∧ u = .int o t1 ∧ w = .bytes d t2) _ B hl4 ?_ (fun s q hq => .tail _ (.tail _ (.tail _ (sub_l q hq)))) (by (repeat (first | exact List.forall_mem_nil _ | refine List.forall_mem_cons.mpr ⟨by with_unfolding_all rfl, ?_⟩))) ⟨H4, C4, P4, I2, hD2, (fun _ h => nomatch h), hd, (fun _ h => nomatch h), fun j o d hj => absurd hj (Nat.not_lt_zero _)⟩ (by walk_at "RF") (by walk_at "RF") ?_ ?_
      · intro i v hv
        obtain ⟨o, d, a, t1, t2, k, h1, h2, h3⟩ := hg4.2 i v hv
        exact ⟨a, _, _, k, h2, h3, o, d, t1, t2, h1, rfl, rfl⟩
      · rintro i ⟨dc3, dp3, p3, T3, od3, kv3⟩ u3 I ob _ _ hob ⟨o, d, t1, t2, hgi, rfl, rfl⟩ ⟨H3, C3, P3, I3, hD3, ab3, id3, ca3, ha3⟩ hnx qt mt nt
        have H3 : Hn z (G2 ++ T3) := H3
        have I3 : Inv p3 [] g2 := I3
        have hD3 : p3.D = p.D := hD3
        have id3 : IntD c od3 kv3 := id3
        have ca3 : Came p.D kv3 := ca3
        obtain ⟨q0, qz, qto, qd⟩ := I3.pc (o, d) (List.mem_of_getElem? hgi)
        have q0 : 0 ≤ o := q0
        have qz : 0 < d.size := qz
        have qto : o + d.size ≤ p3.to := qto
        have w3 := I3.w1
        have tW3 := I3.tW
        have hds : d.size ≤ 1000 := by omega
        have P3' : PI z (G2 ++ T3) dp3 p3 := P3
        clear P3
        have C3' : CI z (G2 ++ T3) dc3 p3.D [] p3.A := C3
        clear C3
        obtain ⟨v3, rfl, hP3⟩ := P3'
        obtain ⟨td, ld, vs, n, la, ws, n2, rfl, c1, c2, c3, c4⟩ := C3'
        have hdc := intd_cls id3
        have hI4 : ∀ q ∈ G2 ++ T3, q.1 ≠ I := fun q hq => hnx q (.tail _ (.tail _ (.tail _ hq)))
        have hDI : Dm ≠ I := hnx (Dm, od3) (.head _)
        have hxI : z.dx ≠ I := hnx (z.dx, cO z p3.D td ld la) (.tail _ (.head _))
        have hyI : z.dy ≠ I := hnx (z.dy, dictOf (parV z.pk p3 v3) 11) (.tail _ (.tail _ (.head _)))
        let G4 : Led := (G2 ++ T3) ++ [(I, ob)]
        have up4 : ∀ q ∈ G2 ++ T3, q ∈ G4 := sub_l
        have hx4 : ∀ q ∈ G4, q.1 ≠ z.dx := List.forall_mem_append.mpr ⟨H3.nx, List.forall_mem_cons.mpr ⟨fun e => hxI e.symm, List.forall_mem_nil _⟩⟩
        have hy4 : ∀ q ∈ G4, q.1 ≠ z.dy := List.forall_mem_append.mpr ⟨H3.ny, List.forall_mem_cons.mpr ⟨fun e => hyI e.symm, List.forall_mem_nil _⟩⟩
        show RunS c mt ((Dm, od3) :: two z (cO z p3.D td ld la) (dictOf (parV z.pk p3 v3) 11) G4) _ qt
        refine s_expr (post := CPost (G2 ++ T3) ((Dm, od3) :: (z.dy, dictOf (parV z.pk p3 v3) 11) :: G4) z.dx z.ck p3.D (cutSpan [] o (o + d.size)) (addSpan p3.A o (o + d.size)) fun r _ => r = .none) (ev_meth (f := 98) (o := z.x) (PL := fun vs' n' => (∃ t1 t2, vs' = [.int o t1, .int d.size t2]) ∧ n' = (Dm, od3) :: two z (cO z p3.D td ld la) (dictOf (parV z.pk p3 v3) 11) G4) B (by walk_at "EV") (meths_at (n := 3) cls_cry B (.tail _ (.tail _ (.tail _ (up4 _ H3.hx)))) (.tail _ (.head _)) (by k_dflt k_is) (by k_dflt k_is) rfl) (by k_dflt k_is) rfl rfl rfl (el_w (el_cons (P := IsI o) (by walk_at "EV") rfl (el_cons (g_b1 (by walk_at "GB") rfl (u := .bytes d t2) (by walk_at "EV") (c_lenB hds)) rfl el_nil)) ?_) ?_) rfl rfl ?_
        · rintro _ _ ⟨_, _, rfl, ⟨a1, rfl⟩, _, _, rfl, ⟨a2, rfl⟩, rfl, rfl⟩; exact ⟨⟨a1, a2, rfl⟩, rfl⟩
        · rintro _ _ ⟨⟨a1, a2, rfl⟩, rfl⟩
          exact c_sub _ two_swap (c_does B (does_cack (K := G2 ++ T3) (G := (Dm, od3) :: (z.dy, dictOf (parV z.pk p3 v3) 11) :: G4) (ck := z.ck) (D := p3.D) (td := td) (off := o) (sz := d.size) (.tail _ (.tail _ (up4 _ H3.hx))) (List.forall_mem_cons.mpr ⟨fun e => dxD e.symm, List.forall_mem_cons.mpr ⟨fun e => H.hd e.symm, hx4⟩⟩) (.tail _ (.tail _ (up4 _ c1))) (fun q hq => .tail _ (.tail _ (up4 _ hq))) c3 (.tail _ (.tail _ (up4 _ c2))) c4 (Nat.zero_le _) I3.lA) (by decide) (by decide))
        rintro r n' ⟨_, _, _, tl, rfl, hab, hdx, ⟨td', ld', vs', n', la', ws', n2', rfl, rfl, rfl, e1, e2, e3, e4⟩, _⟩
        have hdy : ∀ q ∈ tl, z.dy < q.1 := hab _ (.tail _ (.head _))
        have hDt : ∀ q ∈ tl, Dm < q.1 := hab _ (.head _)
        have hIt : ∀ q ∈ tl, I < q.1 := hab _ (.tail _ (.tail _ (sub_r _ (.head _))))
        have hs5 : ∀ q ∈ ((Dm, od3) :: (z.dy, dictOf (parV z.pk p3 v3) 11) :: G4) ++ tl, q.2.cls = .type "list" → q ∈ (G2 ++ T3) ++ tl := by
          intro q hq hc
          rcases List.mem_append.mp hq with hq | hq
          · rcases List.mem_cons.mp hq with rfl | hq
            · exact absurd hc (by show od3.cls ≠ _; rw [hdc]; decide)
            · rcases List.mem_cons.mp hq with rfl | hq
              · exact absurd hc (by show (.type "dict" : Value) ≠ _; decide)
              · rcases List.mem_append.mp hq with hq | hq
                · exact sub_l _ hq
                · rw [List.mem_singleton.mp hq] at hc
                  exact absurd hc (by show ob.cls ≠ _; rw [hob]; decide)
          · exact sub_r _ hq
        let G5 : Led := (Dm, od3) :: (z.dx, cO z p3.D td' ld' la') :: (G4 ++ tl)
        have h45 : ∀ q ∈ G2 ++ T3, q ∈ G5 := fun q hq => .tail _ (.tail _ (sub_l _ (up4 _ hq)))
        show RunS c mt ((z.dx, cO z p3.D td' ld' la') :: (Dm, od3) :: (z.dy, dictOf (parV z.pk p3 v3) 11) :: (G4 ++ tl)) _ qt
        refine s_expr (post := PPost ((G2 ++ T3) ++ tl) G5 z.dy z.pk { p3 with A := addSpan p3.A o (o + d.size), L := cutSpan p3.L o (o + d.size) } fun r _ => r = .none) (ev_meth (f := 224) (o := z.y) (PL := fun vs' n' => (∃ t1 t2, vs' = [.int o t1, .int d.size t2, .bool false]) ∧ n' = (z.dx, cO z p3.D td' ld' la') :: (Dm, od3) :: (z.dy, dictOf (parV z.pk p3 v3) 11) :: (G4 ++ tl)) B (by walk_at "EV") (meths_at (n := 11) cls_part B (.tail _ (.tail _ (.tail _ (sub_l _ (up4 _ H3.hy))))) (.tail _ (.tail _ (.head _))) (by k_dflt k_is) (by k_dflt k_is) rfl) (by k_dflt k_is) rfl rfl rfl (el_w (el_cons (P := IsI o) (by walk_at "EV") rfl (el_cons (g_b1 (by walk_at "GB") rfl (u := .bytes d t2) (by walk_at "EV") (c_lenB hds)) rfl (el_cons g_bool rfl el_nil))) ?_) ?_) rfl rfl ?_
        · rintro _ _ ⟨_, _, rfl, ⟨a1, rfl⟩, _, _, rfl, ⟨a2, rfl⟩, _, _, rfl, rfl, rfl, rfl⟩; exact ⟨⟨a1, a2, rfl⟩, rfl⟩
        · rintro _ _ ⟨⟨a1, a2, rfl⟩, rfl⟩
          exact c_sub _ rot3 (c_does B (does_pack (K := (G2 ++ T3) ++ tl) (G := G5) (pk := z.pk) (p := p3) (v := v3) (off := o) (sz := d.size) (h45 _ H3.hy) (List.forall_mem_cons.mpr ⟨fun e => dyD e.symm, List.forall_mem_cons.mpr ⟨H.hd, List.forall_mem_append.mpr ⟨hy4, fun q hq => Nat.ne_of_gt (hdy q hq)⟩⟩⟩) (fun q hq => .tail _ (.tail _ ((List.mem_append.mp hq).elim (fun h => sub_l _ (up4 _ h)) (sub_r q)))) ⟨h45 _ hP3.1, h45 _ hP3.2.1, hP3.2.2.1.mono sub_l, hP3.2.2.2.mono sub_l⟩ I3.lL I3.lA) (by decide) (by decide))
        rintro r n' ⟨v4, tl2, rfl, hab2, hdy2, ⟨f1, f2, f3, f4⟩, _⟩
        have hdx2 : ∀ q ∈ tl2, z.dx < q.1 := hab2 _ (.tail _ (.head _))
        have hDt2 : ∀ q ∈ tl2, Dm < q.1 := hab2 _ (.head _)
        have hIt2 : ∀ q ∈ tl2, I < q.1 := hab2 _ (.tail _ (.tail _ (sub_l _ (sub_r _ (.head _)))))
        have hs6 : ∀ q ∈ G5 ++ tl2, q.2.cls = .type "list" → q ∈ ((G2 ++ T3) ++ tl) ++ tl2 := by
          intro q hq hc
          rcases List.mem_append.mp hq with hq | hq
          · rcases List.mem_cons.mp hq with rfl | hq
            · exact absurd hc (by show od3.cls ≠ _; rw [hdc]; decide)
            · rcases List.mem_cons.mp hq with rfl | hq
              · exact absurd hc (by show (.type "dict" : Value) ≠ _; decide)
              · rcases List.mem_append.mp hq with hq | hq
                · rcases List.mem_append.mp hq with hq | hq
                  · exact sub_l _ (sub_l _ hq)
                  · rw [List.mem_singleton.mp hq] at hc
                    exact absurd hc (by show ob.cls ≠ _; rw [hob]; decide)
                · exact sub_l _ (sub_r _ hq)
          · exact sub_r _ hq
        let T4 : Led := T3 ++ (tl ++ tl2)
        have eT : G2 ++ T4 = ((G2 ++ T3) ++ tl) ++ tl2 := by simp only [T4, List.append_assoc]
        let p4 : PS := { p3 with A := addSpan p3.A o (o + d.size), L := cutSpan p3.L o (o + d.size) }
        have H5 : Hn z (G2 ++ T4) := by rw [eT]; exact (H3.mono hdx hdy).mono hdx2 hdy2
        have C5 : CI z (G2 ++ T4) (cO z p3.D td' ld' la') p4.D [] p4.A := by
          rw [eT]
          rw [cut_nil] at e3
          exact ⟨td', ld', vs', n', la', ws', n2', rfl, sub_l _ (hs5 _ e1 rfl), sub_l _ (hs5 _ e2 rfl), e3.mono sub_l, e4.mono sub_l⟩
        have P5 : PI z (G2 ++ T4) (dictOf (parV z.pk p4 v4) 11) p4 := by
          rw [eT]
          exact ⟨v4, rfl, hs6 _ f1 rfl, hs6 _ f2 rfl, f3, f4⟩
        have I5 : Inv p4 [] g2 := by have := inv_acked I3 q0 qto; rwa [cut_nil] at this
        have hD4 : p4.D = p.D := hD3
        have ab4 : ∀ q ∈ T4, Dm < q.1 := List.forall_mem_append.mpr ⟨ab3, List.forall_mem_append.mpr ⟨hDt, hDt2⟩⟩
        have hT4I : ∀ q ∈ G2 ++ T4, q.1 ≠ I := by
          rw [eT]
          exact List.forall_mem_append.mpr ⟨List.forall_mem_append.mpr ⟨hI4, fun q hq => Nat.ne_of_gt (hIt q hq)⟩, fun q hq => Nat.ne_of_gt (hIt2 q hq)⟩
        let M6 : Led := two z (cO z p3.D td' ld' la') (dictOf (parV z.pk p4 v4) 11) ((G2 ++ T4) ++ [(I, ob)])
        have hM6 : ∀ q ∈ M6, q.1 ≠ Dm := List.forall_mem_cons.mpr ⟨dxD, List.forall_mem_cons.mpr ⟨dyD, List.forall_mem_append.mpr ⟨List.forall_mem_append.mpr ⟨hDm2, fun q hq => Nat.ne_of_gt (ab4 q hq)⟩, List.forall_mem_cons.mpr ⟨fun e => hDI e.symm, List.forall_mem_nil _⟩⟩⟩⟩
        refine s_sub ((Dm, od3) :: M6) (fun q hq => ?_) ?_
        · rcases List.mem_cons.mp hq with rfl | hq
          · exact .tail _ (.head _)
          · rcases List.mem_cons.mp hq with rfl | hq
            · exact .tail _ (.tail _ (.head _))
            · rcases List.mem_cons.mp hq with rfl | hq
              · exact .head _
              · rw [eT] at hq
                rcases List.mem_append.mp hq with hq | hq
                · rcases List.mem_append.mp hq with hq | hq
                  · rcases List.mem_append.mp hq with hq | hq
                    · exact .tail _ (.tail _ (.tail _ (sub_l _ (sub_l _ (sub_l _ hq)))))
                    · exact .tail _ (.tail _ (.tail _ (sub_l _ (sub_r _ hq))))
                  · exact .tail _ (.tail _ (.tail _ (sub_r _ hq)))
                · exact .tail _ (.tail _ (.tail _ (sub_l _ (sub_l _ (sub_r _ hq)))))
        have hcc6 : (cc, oc) ∈ M6 := .tail _ (.tail _ (sub_l _ (sub_l _ (sub_l _ (sub_r _ (.head _))))))
        refine s_forI (post := fun r n' => ∃ I1 E1, r = .ref E1 ∧ n' = ((Dm, od3) :: M6) ++ [(I1, byIter d t2), (E1, enumObj I1)] ∧ (∀ q ∈ (Dm, od3) :: M6, q.1 < I1) ∧ I1 < E1) B (ev_t1 (by walk_at "GB") rfl (u := .bytes d t2) (by walk_at "EV") c_enumB) (fun _ => rfl) ?_
        rintro _ n' ⟨I1, E1, rfl, rfl, hI1, hE1⟩
        refine it_enumBS (σ := Obj × List (Int × Value)) (fun _ => [(Str.ofString "crypto", .ref z.x), (Str.ofString "part", .ref z.y), (Str.ofString "is_alike", .bool true), (Str.ofString "offset", .int o t1)]) (fun s => (Dm, s.1) :: M6) (fun j s => IntD c s.1 s.2 ∧ Came p.D s.2 ∧ (∀ k, Has kv3 k → Has s.2 k) ∧ ∀ k : Int, o ≤ k → k < o + (j : Nat) → Has s.2 k) (od3, kv3) B hI1 hE1 (by (repeat (first | exact List.forall_mem_nil _ | refine List.forall_mem_cons.mpr ⟨by with_unfolding_all rfl, ?_⟩))) ⟨id3, ca3, fun _ h => h, fun k h1 h2 => by omega⟩ (by walk_at "RF") (by walk_at "RF") ?_ ?_
        · rintro j ⟨od4, kv4⟩ u4 own cb a1 a2 hcb ⟨id4, ca4, hk4, hj4⟩ hown qt4 mt4 nt4
          have hjd : j < d.size := (Array.getElem?_eq_some_iff.mp hcb).1
          have hcp : p.D[(o + (j : Int)).toNat]? = some cb := by
            rw [← hD3, show (o + (j : Int)).toNat = o.toNat + j by omega, ← qd j hjd]; exact hcb
          have hlen := came_len id4 ca4
          refine s_setD (P := IsI (cb.toNat : Int)) (i := o + (j : Int)) (kvs := kv4) (od := od4) (D := Dm) (G := M6 ++ own) (by walk_at "EV") (g_cell B rfl (.tail _ (sub_l _ hcc6)) hocv (by walk_at "RF") (by decide)) (g_add (by walk_at "EV") (by walk_at "EV")) (List.forall_mem_append.mpr ⟨hM6, fun q hq e => hown (Dm, od4) (.head _) q hq e.symm⟩) id4 (Nat.le_trans hlen hz) rfl ?_
          rintro v od5 ⟨a3, rfl⟩ id5
          refine s_turnL (σ := Obj × List (Int × Value)) (od5, stored kv4 (o + (j : Int)) (.int (cb.toNat : Int) a3)) (fun q hq => ?_) (fun q hq => .tail _ (sub_r _ hq)) (fun q hq => ?_) (by (repeat (first | exact List.forall_mem_nil _ | refine List.forall_mem_cons.mpr ⟨by with_unfolding_all rfl, ?_⟩))) ⟨id5, came_put ca4 (by omega) hcp, fun k hk => has_put (.inl (hk4 k hk)), fun k h1 h2 => ?_⟩
          · rcases List.mem_cons.mp hq with rfl | hq
            · exact .head _
            · exact .tail _ (sub_l _ hq)
          · rcases List.mem_cons.mp hq with rfl | hq
            · exact hown (Dm, od4) (.head _)
            · exact hown q (.tail _ hq)
          · by_cases hkj : k = o + (j : Int)
            · exact has_put (.inr hkj)
            · exact has_put (.inl (hj4 k h1 (by omega)))
        · rintro ⟨od4, kv4⟩ u4 ⟨id4, ca4, hk4, hj4⟩ mt4 nt4
          refine s_turnS (σ := Fs) ⟨cO z p3.D td' ld' la', dictOf (parV z.pk p4 v4) 11, p4, T4, od4, kv4⟩ (fun q hq => ?_) (.tail _ (.tail _ (.tail _ (sub_r _ (.head _))))) (List.forall_mem_cons.mpr ⟨hDI, List.forall_mem_cons.mpr ⟨hxI, List.forall_mem_cons.mpr ⟨hyI, hT4I⟩⟩⟩) (by (repeat (first | exact List.forall_mem_nil _ | refine List.forall_mem_cons.mpr ⟨by with_unfolding_all rfl, ?_⟩))) ⟨H5, C5, P5, I5, hD4, ab4, id4, ca4, ?_⟩
          · rcases List.mem_cons.mp hq with rfl | hq
            · exact .head _
            · rcases List.mem_cons.mp hq with rfl | hq
              · exact .tail _ (.head _)
              · rcases List.mem_cons.mp hq with rfl | hq
                · exact .tail _ (.tail _ (.head _))
                · exact .tail _ (.tail _ (.tail _ (sub_l _ hq)))
          · intro j o' d' hj hgj k h1 h2
            by_cases hji : j = i
            · subst hji
              rw [hgi] at hgj
              cases hgj
              exact ⟨hj4 k h1 h2, (add_in I3.cA).mpr (.inr ⟨h1, h2⟩)⟩
            · obtain ⟨a, b⟩ := ha3 j o' d' (by omega) hgj k h1 h2
              exact ⟨hk4 k a, (add_in I3.cA).mpr (.inl b)⟩
      · rintro ⟨dc3, dp3, p3, T3, od3, kv3⟩ u3 ⟨H3, C3, P3, I3, hD3, ab3, id3, ca3, ha3⟩ mt nt
        have H3 : Hn z (G2 ++ T3) := H3
        have C3 : CI z (G2 ++ T3) dc3 p3.D [] p3.A := C3
        have P3 : PI z (G2 ++ T3) dp3 p3 := P3
        have I3 : Inv p3 [] g2 := I3
        have hD3 : p3.D = p.D := hD3
        have id3 : IntD c od3 kv3 := id3
        have ca3 : Came p3.D kv3 := by rw [hD3]; exact ca3
        have hto := I3.to_of_nil
        have hall : ∀ k : Int, 0 ≤ k → k < p3.D.size → Has kv3 k ∧ SIn p3.A k := by
          intro k h1 h2
          obtain ⟨q, hq, a, b⟩ := I3.cov k h1 (by omega)
          obtain ⟨j, hj⟩ := List.mem_iff_getElem?.mp hq
          have hjl : j < g2.length := (List.getElem?_eq_some_iff.mp hj).1
          exact ha3 j q.1 q.2 (by rw [hg4.1]; exact hjl) hj k a b
        have hdone : isDone p3.D.size p3.A = true := I3.all_done fun k a b => (hall k a b).2
        have hkl : kv3.length = p3.D.size := came_full id3 ca3 fun k a b => (hall k a b).1
        have hz3 : p3.D.size ≤ 1000 := by rw [hD3]; exact hz
        let G7 : Led := (Dm, od3) :: (G2 ++ T3)
        have H7 : Hn z G7 := ⟨.tail _ H3.hx, .tail _ H3.hy, H3.hd, List.forall_mem_cons.mpr ⟨fun e => dxD e.symm, H3.nx⟩, List.forall_mem_cons.mpr ⟨fun e => dyD e.symm, H3.ny⟩⟩
        have C7 : CI z G7 dc3 p3.D [] p3.A := C3.sub fun q hq => .tail _ hq
        have P7 : PI z G7 dp3 p3 := P3.sub fun q hq => .tail _ hq
        have hcc7 : (cc, oc) ∈ G7 := .tail _ (sub_l _ (sub_l _ (sub_r _ (.head _))))
        have hDm7 : (Dm, od3) ∈ G7 := .head _
        refine s_sub (two z dc3 dp3 G7) (fun q hq => ?_) ?_
        · rcases List.mem_cons.mp hq with rfl | hq
          · exact .tail _ (.head _)
          · rcases List.mem_cons.mp hq with rfl | hq
            · exact .tail _ (.tail _ (.head _))
            · rcases List.mem_cons.mp hq with rfl | hq
              · exact .head _
              · exact .tail _ (.tail _ (.tail _ hq))
        refine s_ifE (tp := fun b n' => b = false ∧ Ext z G7 p3 [] p3.A p3.D (fun _ _ => True) .none n')
          (te_or (ta := fun b n' => b = false ∧ n' = two z dc3 dp3 G7) (te_t (t_not (t_val (b := true) (by walk_at "EV") rfl)) ⟨rfl, rfl⟩) (fun n' h => nomatch h.1) fun n' h =>
            te_or (ta := fun b n' => b = false ∧ Ext z G7 p3 [] p3.A p3.D (fun _ _ => True) .none n') (te_not (te_val (ev_w (ev_call (f := 280) (post := Ext z G7 p3 [] p3.A p3.D (fun r _ => r = .bool true)) (PL := fun vs n => vs = [.ref z.x, .ref z.y] ∧ n = two z dc3 dp3 G7) B (by walk_at "GG") (by k_dflt k_is) rfl rfl (by rw [h.2]; exact el_w (el_cons (P := (· = .ref z.x)) (by walk_at "EV") rfl (el_cons (P := (· = .ref z.y)) (by walk_at "EV") rfl el_nil)) (by rintro _ _ ⟨_, _, rfl, rfl, _, _, rfl, rfl, rfl, rfl⟩; exact ⟨rfl, rfl⟩)) ?w1) ?w2) rfl)) (fun n' h => nomatch h.1) fun n' h2 =>
            te_or (ta := fun b n' => b = false ∧ Ext z G7 p3 [] p3.A p3.D (fun _ _ => True) .none n') ?w3 (fun n' h => nomatch h.1) fun n' h3 =>
            te_or (ta := fun b n' => b = false ∧ Ext z G7 p3 [] p3.A p3.D (fun _ _ => True) .none n') ?w4 (fun n' h => nomatch h.1) fun n' h4 => te_orN h4) (fun n' h => nomatch h.1) ?w5
        case w1 =>
          rintro _ _ ⟨rfl, rfl⟩
          exact c_does B (does_alike H7 C7 P7 I3) (by decide) (by decide)
        case w2 =>
          rintro v n' ⟨dc8, dp8, tl8, e1, e2, e3, e4, e5, e6⟩
          exact ⟨true, e6, rfl, dc8, dp8, tl8, e1, e2, e3, e4, e5, trivial⟩
        case w3 =>
          obtain ⟨_, dc8, dp8, tl8, rfl, e2, H8, C8, P8, _⟩ := h2
          obtain ⟨td, ld, vs, n, la, ws, n2, rfl, c1, c2, c3, c4⟩ := C8
          refine te_not (te_val (ev_w (post := CPost (G7 ++ tl8) ((z.dy, dp8) :: (G7 ++ tl8)) z.dx z.ck p3.D [] p3.A fun r _ => r = .bool (isDone p3.D.size p3.A)) (ev_meth0 (f := 105) (o := z.x) B (by walk_at "EV") (meths_at (n := 3) cls_cry B (.tail _ (.tail _ H8.hx)) (.head _) (by k_dflt k_is) (by k_dflt k_is) rfl) (by k_dflt k_is) rfl (c_does B (does_cdone (K := G7 ++ tl8) (G := (z.dy, dp8) :: (G7 ++ tl8)) (ck := z.ck) (D := p3.D) (td := td) (.tail _ H8.hx) (.tail _ c1) (fun q hq => .tail _ hq) c3 (.tail _ c2) c4 hz3) (by decide) (by decide))) ?_) rfl)
          intro v n' hv
          obtain ⟨dc9, dp9, tl9, f1, f2, f3, f4, f5, f6⟩ := cpost_two H8 P8 hv
          refine ⟨true, by rw [f6, hdone], rfl, ext_trans (R := fun _ _ => True) e2 ⟨dc9, dp9, tl9, f1, f2, f3, f4, f5, trivial⟩ fun _ h => h⟩
        case w4 =>
          obtain ⟨_, dc8, dp8, tl8, rfl, e2, H8, C8, P8, _⟩ := h3
          have P8' := P8
          obtain ⟨v8, rfl, hP8⟩ := P8'
          refine te_t (t_ne (i := kv3.length) (j := p3.D.size) (g_b1 (by walk_at "GB") rfl (g_cell B rfl (.tail _ (.tail _ (sub_l _ hcc7))) hocv (by walk_at "RF") (by decide)) (c_lenD (.tail _ (.tail _ (sub_l _ hDm7))) id3 lo (by omega))) (g_b1 (by walk_at "GB") rfl (g_at (n := 11) cls_part B (by walk_at "EV") (.tail _ (.tail _ H8.hy)) (.tail _ (.head _)) (by k_dflt k_is) rfl rfl) (c_lenB hz3)) rfl) ⟨by rw [decide_eq_true (by rw [hkl])]; rfl, dc8, _, tl8, rfl, e2, H8, C8, P8, trivial⟩
        case w5 =>
          rintro n' ⟨_, dc8, dp8, tl8, rfl, e2, H8, C8, P8, _⟩
          obtain ⟨v8, rfl, hP8⟩ := P8
          refine s_end ?_
          let L8 : Led := two z dc8 (dictOf (parV z.pk p3 v8) 11) (G7 ++ tl8)
          have hcc8 : (cc, oc) ∈ L8 := .tail _ (.tail _ (sub_l _ hcc7))
          have hDm8 : (Dm, od3) ∈ L8 := .tail _ (.tail _ (sub_l _ hDm7))
          refine s_retE (ev_eqBy (d := p3.D) (post := fun r n' => IsB p3.D r ∧ ∃ D ys k, n' = (D, listOf ys k) :: L8) (ev_type (PL := fun vs n => ∃ D ys, vs = [.ref D] ∧ n = (D, listOf ys.toArray ys.length) :: L8 ∧ IntsAre ys ((rangeKs 0 kv3.length).map (octAt p3.D))) (by walk_at "GB") rfl rfl (el_w (el_consE (PL := fun v vs n => ∃ D ys, v = .ref D ∧ vs = [] ∧ n = (D, listOf ys.toArray ys.length) :: L8 ∧ IntsAre ys ((rangeKs 0 kv3.length).map (octAt p3.D)))
            (ev_compD (cc := cc) (oc := oc) (Dm := Dm) (od := od3) (kvs := kv3) (N := kv3.length) (cl := [(Str.ofString "came", cc)]) (octAt p3.D) (ev_w (ev_type (PL := fun vs n => (∃ t, vs = [.int kv3.length t]) ∧ n = L8) (post := fun r n' => ∃ D u v w, r = .ref D ∧ n' = L8 ++ [(D, rangeO kv3.length u v w)] ∧ ∀ p ∈ L8, p.1 < D) (by walk_at "GB") rfl rfl (el_w (el_cons (P := IsI kv3.length) (g_b1 (by walk_at "GB") rfl (g_cell B rfl hcc8 hocv (by walk_at "RF") (by decide)) (c_lenD hDm8 id3 lo (by omega))) rfl el_nil) ?x1) ?x2) fun _ _ h => h) (by omega) rfl (by decide) rfl (by decide) rfl (fun _ => rfl) (fun _ => rfl) (by decide) (by decide) rfl hcc8 hocv hDm8 id3 ?x3 (fun _ => rfl) (fun _ _ _ => rfl) (fun _ => rfl)) rfl ?x4) ?x5) ?x6) ?x7 ?x8 rfl) fun v n' hv => h_ends [] hv (List.forall_mem_nil _)
          case x1 => rintro _ _ ⟨_, _, rfl, ⟨t, rfl⟩, rfl, rfl⟩; exact ⟨⟨t, rfl⟩, rfl⟩
          case x2 =>
            rintro _ _ ⟨⟨t, rfl⟩, rfl⟩ h tk q F N hq
            exact c_range1 h tk q F N fun r n' h' tk' ⟨D, u, v, e1, e2, e3⟩ => hq r n' h' tk' ⟨D, u, t, v, e1, e2, e3⟩
          case x3 =>
            intro k h1 h2
            exact came_at id3 ca3 (hall k h1 (by omega)).1
          case x4 =>
            rintro v n' ⟨D, ys, rfl, rfl, hys⟩
            exact el_w el_nil (by rintro _ _ ⟨rfl, rfl⟩; exact ⟨D, ys, rfl, rfl, rfl, hys⟩)
          case x5 =>
            rintro _ n' ⟨v, _, rfl, D, ys, rfl, rfl, rfl, hys⟩
            exact ⟨D, ys, rfl, rfl, hys⟩
          case x6 =>
            rintro _ _ ⟨D, ys, rfl, rfl, hys⟩ h tk q F N hq
            refine c_bytesL (.head _) hys (oct_in _ _) (by rw [List.length_map, rangeKs_length]; omega) h tk q F N ?_
            rintro r n' h' tk' ⟨⟨t, rfl⟩, rfl⟩ F N
            refine hq _ _ h' tk' ⟨⟨t, ?_⟩, D, _, _, rfl⟩ F N
            rw [hkl, oct_bytes]
          case x7 => rintro r n' ⟨h, _⟩; exact h
          case x8 =>
            rintro r n' ⟨_, D, ys, k, rfl⟩
            exact g_B (g_at (n := 11) cls_part B (by walk_at "EV") (.tail _ (.tail _ (.tail _ H8.hy))) (.tail _ (.tail _ (.head _))) (by k_dflt k_is) rfl rfl)

theorem putL_new {x : Str} {hsh : Int} {key v : Value} : ∀ es : List DictEntry, es.any (·.key.isStr x) = false → putL x hsh key v es = es ++ [⟨hsh, key, v⟩]
  | [], _ => rfl
  | a :: es, h => by
    rw [List.any_cons, Bool.or_eq_false_iff] at h
    unfold putL
    rw [if_neg (by rw [h.1]; decide), putL_new es h.2]; rfl
section
variable {c : Cx} {m : Fm} {news : Led} {e : PySem.Expr} {pos px : Pos} {x y : Str} {v : Value} {Q : Flow → Shared → Prop} {rest : List Stmt} {dn un0 : Nat} {post : Value → Led → Prop} {o C dx : Addr}
/-- an attribute stored for the first time -/
theorem s_setnew {yp ap : Pos} (es : List DictEntry) (n : Nat) (hC : Cls C) (B : Bd c dn un0) (hg : Evals c m news e post) (hn : ∀ n', Gives c m n' (.Name y yp) (· = .ref o)) (ht : takerIn (Mine.K c.w.params) C x = some none)
    (hs : swapsWith e (some (.Attribute (.Name y yp) x ap)) pos.line c.env = pure false)
    (h : ∀ v n', post v n' → ∃ G, n' = (dx, dictOf es n) :: G ∧ (o, instObj C dx) ∈ G ∧ (∀ p ∈ G, p.1 ≠ dx) ∧ (getL x es).isSome = true ∧ es.any (·.key.isStr x) = false ∧ es.length ≤ 100 ∧ ∀ k : Int × Tok, RunS c m ((dx, dictOf (es ++ [ent k x v]) (n + 1)) :: G) rest Q) :
    RunS c m news (.Assign [.Attribute (.Name y yp) x ap] e pos :: rest) Q := fun h0 tk F N => by
  refine wpAny_execs_cons (plainObj_wpAny_Assign_Attribute (hg _ _ _ F N ?_) hs)
  intro v n' h0 tk hp F N
  refine hn n' _ _ _ F N ?_
  rintro _ h0 tk rfl F N
  obtain ⟨G, rfl, hi, hne, hl, hany, hz, hr⟩ := h v n' hp
  have hputA : ∀ hsh key, putL x hsh key v es = es ++ [⟨hsh, key, v⟩] := fun hsh key => putL_new es hany
  have hN : putN x es n = n + 1 := by unfold putN; rw [hany]; rfl
  exact set_dict (s := c.at h0 tk) (es' := es ++ [⟨PyData.keyHash c.w.params x, .str x (tk + 1), v⟩]) (n' := n + 1) F B.2.1 N (InstAt.of_news N (.tail _ hi) (.head _)) rfl (hC c.w).2.2.1 (hC c.w).2.2.2 ht (hC c.w).2.1 hl (by rw [hputA, hN]) (Upd.head hne) (by rw [List.length_append, List.length_singleton]; omega) fun h' F' N' => hr (PyData.keyHash c.w.params x, tk + 1) h' _ F' N'
end
theorem makes_cry {c : Cx} {m : Fm} {news : Led} {dn un0 : Nat} (B0 : Bd c dn un0) (l1 : 3 ≤ dn) (l2 : 20 ≤ un0) :
    Calls c m news (.ref 108) [] (fun r n' => ∃ x dx ck td ld la tl, r = .ref x ∧ n' = (dx, dictOf (cryE ck (.bytes #[] td) (.ref ld) (.ref la)) 3) :: (news ++ tl) ∧ (∀ p ∈ news, p.1 < dx) ∧ (∀ p ∈ tl, dx < p.1) ∧ (x, instObj 108 dx) ∈ tl ∧ (∃ k, (ld, listOf [].toArray k) ∈ tl) ∧ ∃ k, (la, listOf [].toArray k) ∈ tl) := by
  refine' makes_ofS (f := 70) (dn := 1) (un0 := 16) (fun x => [(Str.ofString "self", .ref x)]) ?hm ?hi ?hf ?ho ?hcd ?hbind ?hloc ?hcell ?hco ?hgen ?hk ?h B0 l1 l2
  case hm => (intro w; k_dflt k_is)
  case hi => (intro w; k_dflt k_is)
  case hf => (intro w; k_dflt k_is)
  case ho => (intro w; k_dflt k_is)
  case hcd => (intro w; k_dflt k_is)
  case hbind => (intro s x; exact BindsTo.of_eq rfl)
  case hloc => intro x; rfl
  case hcell => decide
  case hco => rfl
  case hgen => rfl
  case hk => rfl
  case h =>
    intro c0 x dx c qe m B hdx hx
    have hne : ∀ tl : Led, (∀ p ∈ tl, dx < p.1) → ∀ p ∈ news ++ ((x, instObj 108 dx) :: tl), p.1 ≠ dx := fun tl h => List.forall_mem_append.mpr ⟨fun p hp => Nat.ne_of_lt (hdx p hp), List.forall_mem_cons.mpr ⟨Nat.ne_of_gt hx, fun p hp => Nat.ne_of_gt (h p hp)⟩⟩
    refine s_sub ((dx, dictOf [] 0) :: (news ++ [(x, instObj 108 dx)])) (fun p hp => ?_) ?_
    · rcases List.mem_cons.mp hp with rfl | hp
      · exact .tail _ (.head _)
      · rcases List.mem_append.mp hp with hp | hp
        · exact .tail _ (.tail _ hp)
        · rw [List.mem_singleton.mp hp]; exact .head _
    refine s_setnew (o := x) (dx := dx) [] 0 cls_cry B (g_ev g_byc) (fun n' => (by walk_at "EV")) (by k_dflt k_is) rfl ?_
    rintro _ _ ⟨⟨td, rfl⟩, rfl⟩
    refine ⟨news ++ [(x, instObj 108 dx)], rfl, sub_r _ (.head _), hne [] (List.forall_mem_nil _), rfl, rfl, by decide, fun k1 => ?_⟩
    refine s_setnew (o := x) (dx := dx) [ent k1 (Str.ofString "data") (.bytes #[] td)] 1 cls_cry B (ev_list (pos := _) el_nil (by rintro _ _ ⟨rfl, _⟩; exact Nat.zero_le _)) (fun n' => (by walk_at "EV")) (by k_dflt k_is) rfl ?_
    rintro _ _ ⟨_, _, ⟨rfl, rfl⟩, ld, k2, rfl, rfl, hld⟩
    have hl1 : dx < ld := hld _ (.head _)
    refine ⟨news ++ ((x, instObj 108 dx) :: [(ld, listOf [].toArray k2)]), by simp only [List.append_assoc, List.cons_append, List.nil_append], sub_r _ (.head _), hne _ (List.forall_mem_cons.mpr ⟨hl1, List.forall_mem_nil _⟩), rfl, rfl, (by decide : 1 ≤ 100), fun k3 => ?_⟩
    refine s_setnew (o := x) (dx := dx) [ent k1 (Str.ofString "data") (.bytes #[] td), ent k3 (Str.ofString "due") (.ref ld)] 2 cls_cry B (ev_list (pos := _) el_nil (by rintro _ _ ⟨rfl, _⟩; exact Nat.zero_le _)) (fun n' => (by walk_at "EV")) (by k_dflt k_is) rfl ?_
    rintro _ _ ⟨_, _, ⟨rfl, rfl⟩, la, k4, rfl, rfl, hla⟩
    have hl2 : dx < la := hla _ (.head _)
    refine ⟨news ++ ((x, instObj 108 dx) :: [(ld, listOf [].toArray k2), (la, listOf [].toArray k4)]), by simp only [List.append_assoc, List.cons_append, List.nil_append], sub_r _ (.head _), hne _ (List.forall_mem_cons.mpr ⟨hl1, List.forall_mem_cons.mpr ⟨hl2, List.forall_mem_nil _⟩⟩), rfl, rfl, (by decide : 2 ≤ 100), fun k5 => ?_⟩
    exact s_nil (h_endsN _ ⟨rfl, x, dx, (k1, k3, k5), td, ld, la, _, rfl, rfl, hdx, List.forall_mem_cons.mpr ⟨hx, List.forall_mem_cons.mpr ⟨hl1, List.forall_mem_cons.mpr ⟨hl2, List.forall_mem_nil _⟩⟩⟩, .head _, ⟨k2, .tail _ (.head _)⟩, k4, .tail _ (.tail _ (.head _))⟩ fun _ h => h)

theorem makes_part {c : Cx} {m : Fm} {news : Led} {dn un0 : Nat} {lm : Tok} (B0 : Bd c dn un0) (l1 : 3 ≤ dn) (l2 : 20 ≤ un0) :
    Calls c m news (.ref 255) [.int 1099511627776 lm] (fun r n' => ∃ y dy pk v tl, r = .ref y ∧ n' = (dy, dictOf (parV pk ⟨false, #[], 0, [], []⟩ v) 11) :: (news ++ tl) ∧ (∀ p ∈ news, p.1 < dy) ∧ (∀ p ∈ tl, dy < p.1) ∧ (y, instObj 255 dy) ∈ tl ∧ (v.la, listOf v.ws.toArray v.n2) ∈ tl ∧ (v.ll, listOf v.us.toArray v.n) ∈ tl ∧ v.ws = [] ∧ v.us = []) := by
  refine' makes_ofS (f := 147) (dn := 1) (un0 := 16) (fun y => [(Str.ofString "self", .ref y), (Str.ofString "limit", .int 1099511627776 lm)]) ?hm ?hi ?hf ?ho ?hcd ?hbind ?hloc ?hcell ?hco ?hgen ?hk ?h B0 l1 l2
  case hm => (intro w; k_dflt k_is)
  case hi => (intro w; k_dflt k_is)
  case hf => (intro w; k_dflt k_is)
  case ho => (intro w; k_dflt k_is)
  case hcd => (intro w; k_dflt k_is)
  case hbind => (intro s x; exact BindsTo.of_eq rfl)
  case hloc => intro x; rfl
  case hcell => decide
  case hco => rfl
  case hgen => rfl
  case hk => rfl
  case h =>
    intro c0 y dy c qe m B hdy hy
    have hne : ∀ tl : Led, (∀ p ∈ tl, dy < p.1) → ∀ p ∈ news ++ ((y, instObj 255 dy) :: tl), p.1 ≠ dy := fun tl h => List.forall_mem_append.mpr ⟨fun p hp => Nat.ne_of_lt (hdy p hp), List.forall_mem_cons.mpr ⟨Nat.ne_of_gt hy, fun p hp => Nat.ne_of_gt (h p hp)⟩⟩
    refine s_sub ((dy, dictOf [] 0) :: (news ++ [(y, instObj 255 dy)])) (fun p hp => ?_) ?_
    · rcases List.mem_cons.mp hp with rfl | hp
      · exact .tail _ (.head _)
      · rcases List.mem_append.mp hp with hp | hp
        · exact .tail _ (.tail _ hp)
        · rw [List.mem_singleton.mp hp]; exact .head _
    refine s_setnew (o := y) (dx := dy) [] 0 cls_part B (g_ev (P := IsI 1099511627776) (by walk_at "EV")) (fun n' => (by walk_at "EV")) (by k_dflt k_is) rfl ?_
    rintro _ _ ⟨⟨lm2, rfl⟩, rfl⟩
    refine ⟨news ++ ((y, instObj 255 dy) :: []), rfl, sub_r _ (.head _), hne _ (List.forall_mem_nil _), rfl, rfl, (by decide : 0 ≤ 100), fun k0 => ?_⟩
    refine s_setnew (o := y) (dx := dy) [ent k0 (Str.ofString "limit") (.int 1099511627776 lm2)] 1 cls_part B (g_ev (P := (· = .str (Str.ofString "ready") 368)) (by walk_at "GG")) (fun n' => (by walk_at "EV")) (by k_dflt k_is) rfl ?_
    rintro _ _ ⟨rfl, rfl⟩
    refine ⟨news ++ ((y, instObj 255 dy) :: []), rfl, sub_r _ (.head _), hne _ (List.forall_mem_nil _), rfl, rfl, (by decide : 1 ≤ 100), fun k1 => ?_⟩
    refine s_setnew (o := y) (dx := dy) [ent k0 (Str.ofString "limit") (.int 1099511627776 lm2), ent k1 (Str.ofString "state") (.str (Str.ofString "ready") 368)] 2 cls_part B (g_ev g_byc) (fun n' => (by walk_at "EV")) (by k_dflt k_is) rfl ?_
    rintro _ _ ⟨⟨td, rfl⟩, rfl⟩
    refine ⟨news ++ ((y, instObj 255 dy) :: []), rfl, sub_r _ (.head _), hne _ (List.forall_mem_nil _), rfl, rfl, (by decide : 2 ≤ 100), fun k2 => ?_⟩
    refine s_setnew (o := y) (dx := dy) [ent k0 (Str.ofString "limit") (.int 1099511627776 lm2), ent k1 (Str.ofString "state") (.str (Str.ofString "ready") 368), ent k2 (Str.ofString "written") (.bytes #[] td)] 3 cls_part B (g_ev g_int) (fun n' => (by walk_at "EV")) (by k_dflt k_is) rfl ?_
    rintro _ _ ⟨⟨tw, rfl⟩, rfl⟩
    refine ⟨news ++ ((y, instObj 255 dy) :: []), rfl, sub_r _ (.head _), hne _ (List.forall_mem_nil _), rfl, rfl, (by decide : 3 ≤ 100), fun k3 => ?_⟩
    refine s_setnew (o := y) (dx := dy) [ent k0 (Str.ofString "limit") (.int 1099511627776 lm2), ent k1 (Str.ofString "state") (.str (Str.ofString "ready") 368), ent k2 (Str.ofString "written") (.bytes #[] td), ent k3 (Str.ofString "sent_to") (.int 0 tw)] 4 cls_part B (ev_list (pos := _) el_nil (by rintro _ _ ⟨rfl, _⟩; exact Nat.zero_le _)) (fun n' => (by walk_at "EV")) (by k_dflt k_is) rfl ?_
    rintro _ _ ⟨_, _, ⟨rfl, rfl⟩, l4, j4, rfl, rfl, hl4⟩
    have gl4 : dy < l4 := hl4 _ (.head _)
    refine ⟨news ++ ((y, instObj 255 dy) :: [(l4, listOf [].toArray j4)]), by simp only [List.append_assoc, List.cons_append, List.nil_append], sub_r _ (.head _), hne _ (List.forall_mem_cons.mpr ⟨gl4, (List.forall_mem_nil _)⟩), rfl, rfl, (by decide : 4 ≤ 100), fun k4 => ?_⟩
    refine s_setnew (o := y) (dx := dy) [ent k0 (Str.ofString "limit") (.int 1099511627776 lm2), ent k1 (Str.ofString "state") (.str (Str.ofString "ready") 368), ent k2 (Str.ofString "written") (.bytes #[] td), ent k3 (Str.ofString "sent_to") (.int 0 tw), ent k4 (Str.ofString "acked") (.ref l4)] 5 cls_part B (ev_list (pos := _) el_nil (by rintro _ _ ⟨rfl, _⟩; exact Nat.zero_le _)) (fun n' => (by walk_at "EV")) (by k_dflt k_is) rfl ?_
    rintro _ _ ⟨_, _, ⟨rfl, rfl⟩, l5, j5, rfl, rfl, hl5⟩
    have gl5 : dy < l5 := hl5 _ (.head _)
    refine ⟨news ++ ((y, instObj 255 dy) :: [(l4, listOf [].toArray j4), (l5, listOf [].toArray j5)]), by simp only [List.append_assoc, List.cons_append, List.nil_append], sub_r _ (.head _), hne _ (List.forall_mem_cons.mpr ⟨gl4, (List.forall_mem_cons.mpr ⟨gl5, (List.forall_mem_nil _)⟩)⟩), rfl, rfl, (by decide : 5 ≤ 100), fun k5 => ?_⟩
    refine s_setnew (o := y) (dx := dy) [ent k0 (Str.ofString "limit") (.int 1099511627776 lm2), ent k1 (Str.ofString "state") (.str (Str.ofString "ready") 368), ent k2 (Str.ofString "written") (.bytes #[] td), ent k3 (Str.ofString "sent_to") (.int 0 tw), ent k4 (Str.ofString "acked") (.ref l4), ent k5 (Str.ofString "lost") (.ref l5)] 6 cls_part B (g_ev g_bool) (fun n' => (by walk_at "EV")) (by k_dflt k_is) rfl ?_
    rintro _ _ ⟨rfl, rfl⟩
    refine ⟨news ++ ((y, instObj 255 dy) :: [(l4, listOf [].toArray j4), (l5, listOf [].toArray j5)]), rfl, sub_r _ (.head _), hne _ (List.forall_mem_cons.mpr ⟨gl4, (List.forall_mem_cons.mpr ⟨gl5, (List.forall_mem_nil _)⟩)⟩), rfl, rfl, (by decide : 6 ≤ 100), fun k6 => ?_⟩
    refine s_setnew (o := y) (dx := dy) [ent k0 (Str.ofString "limit") (.int 1099511627776 lm2), ent k1 (Str.ofString "state") (.str (Str.ofString "ready") 368), ent k2 (Str.ofString "written") (.bytes #[] td), ent k3 (Str.ofString "sent_to") (.int 0 tw), ent k4 (Str.ofString "acked") (.ref l4), ent k5 (Str.ofString "lost") (.ref l5), ent k6 (Str.ofString "is_finished") (.bool false)] 7 cls_part B (g_ev g_bool) (fun n' => (by walk_at "EV")) (by k_dflt k_is) rfl ?_
    rintro _ _ ⟨rfl, rfl⟩
    refine ⟨news ++ ((y, instObj 255 dy) :: [(l4, listOf [].toArray j4), (l5, listOf [].toArray j5)]), rfl, sub_r _ (.head _), hne _ (List.forall_mem_cons.mpr ⟨gl4, (List.forall_mem_cons.mpr ⟨gl5, (List.forall_mem_nil _)⟩)⟩), rfl, rfl, (by decide : 7 ≤ 100), fun k7 => ?_⟩
    refine s_setnew (o := y) (dx := dy) [ent k0 (Str.ofString "limit") (.int 1099511627776 lm2), ent k1 (Str.ofString "state") (.str (Str.ofString "ready") 368), ent k2 (Str.ofString "written") (.bytes #[] td), ent k3 (Str.ofString "sent_to") (.int 0 tw), ent k4 (Str.ofString "acked") (.ref l4), ent k5 (Str.ofString "lost") (.ref l5), ent k6 (Str.ofString "is_finished") (.bool false), ent k7 (Str.ofString "owes_end") (.bool false)] 8 cls_part B (g_ev g_bool) (fun n' => (by walk_at "EV")) (by k_dflt k_is) rfl ?_
    rintro _ _ ⟨rfl, rfl⟩
    refine ⟨news ++ ((y, instObj 255 dy) :: [(l4, listOf [].toArray j4), (l5, listOf [].toArray j5)]), rfl, sub_r _ (.head _), hne _ (List.forall_mem_cons.mpr ⟨gl4, (List.forall_mem_cons.mpr ⟨gl5, (List.forall_mem_nil _)⟩)⟩), rfl, rfl, (by decide : 8 ≤ 100), fun k8 => ?_⟩
    refine s_setnew (o := y) (dx := dy) [ent k0 (Str.ofString "limit") (.int 1099511627776 lm2), ent k1 (Str.ofString "state") (.str (Str.ofString "ready") 368), ent k2 (Str.ofString "written") (.bytes #[] td), ent k3 (Str.ofString "sent_to") (.int 0 tw), ent k4 (Str.ofString "acked") (.ref l4), ent k5 (Str.ofString "lost") (.ref l5), ent k6 (Str.ofString "is_finished") (.bool false), ent k7 (Str.ofString "owes_end") (.bool false), ent k8 (Str.ofString "is_end_acked") (.bool false)] 9 cls_part B (g_ev g_none) (fun n' => (by walk_at "EV")) (by k_dflt k_is) rfl ?_
    rintro _ _ ⟨rfl, rfl⟩
    refine ⟨news ++ ((y, instObj 255 dy) :: [(l4, listOf [].toArray j4), (l5, listOf [].toArray j5)]), rfl, sub_r _ (.head _), hne _ (List.forall_mem_cons.mpr ⟨gl4, (List.forall_mem_cons.mpr ⟨gl5, (List.forall_mem_nil _)⟩)⟩), rfl, rfl, (by decide : 9 ≤ 100), fun k9 => ?_⟩
    refine s_setnew (o := y) (dx := dy) [ent k0 (Str.ofString "limit") (.int 1099511627776 lm2), ent k1 (Str.ofString "state") (.str (Str.ofString "ready") 368), ent k2 (Str.ofString "written") (.bytes #[] td), ent k3 (Str.ofString "sent_to") (.int 0 tw), ent k4 (Str.ofString "acked") (.ref l4), ent k5 (Str.ofString "lost") (.ref l5), ent k6 (Str.ofString "is_finished") (.bool false), ent k7 (Str.ofString "owes_end") (.bool false), ent k8 (Str.ofString "is_end_acked") (.bool false), ent k9 (Str.ofString "reset_code") .none] 10 cls_part B (g_ev g_bool) (fun n' => (by walk_at "EV")) (by k_dflt k_is) rfl ?_
    rintro _ _ ⟨rfl, rfl⟩
    refine ⟨news ++ ((y, instObj 255 dy) :: [(l4, listOf [].toArray j4), (l5, listOf [].toArray j5)]), rfl, sub_r _ (.head _), hne _ (List.forall_mem_cons.mpr ⟨gl4, (List.forall_mem_cons.mpr ⟨gl5, (List.forall_mem_nil _)⟩)⟩), rfl, rfl, (by decide : 10 ≤ 100), fun k10 => ?_⟩
    exact s_nil (h_endsN _ ⟨rfl, y, dy, (fun i => match i with | 0 => k0 | 1 => k1 | 2 => k2 | 3 => k3 | 4 => k4 | 5 => k5 | 6 => k6 | 7 => k7 | 8 => k8 | 9 => k9 | _ => k10), ⟨lm2, 368, td, tw, l4, [], j4, l5, [], j5⟩, (y, instObj 255 dy) :: [(l4, listOf [].toArray j4), (l5, listOf [].toArray j5)], rfl, rfl, hdy, List.forall_mem_cons.mpr ⟨hy, (List.forall_mem_cons.mpr ⟨gl4, (List.forall_mem_cons.mpr ⟨gl5, (List.forall_mem_nil _)⟩)⟩)⟩, .head _, .tail _ (.head _), .tail _ (.tail _ (.head _)), rfl, rfl⟩ fun _ h => h)

/-! entries that bear no spans -/
def NoSp (q : Addr × Obj) : Prop := q.2.cls ≠ .type "tuple" ∧ ∀ (vs : List Value) (n : Nat), q.2 = listOf vs.toArray n → ∃ (i : Nat) (j : Int) (t : Tok), vs[i]? = some (.int j t)
theorem noSp_cls {q : Addr × Obj} (h1 : q.2.cls ≠ .type "tuple") (h2 : q.2.cls ≠ .type "list") : NoSp q := ⟨h1, fun vs n e => absurd (by rw [e]) h2⟩
abbrev boxO (sc : Addr) (n : Int) (t : Tok) (kb : Nat) : Obj := listOf [Value.ref sc, .int n t].toArray kb
theorem noSp_box {bx sc : Addr} {n : Int} {t : Tok} {kb : Nat} : NoSp (bx, boxO sc n t kb) := by
  refine ⟨by show (.type "list" : Value) ≠ _; decide, fun vs k e => ?_⟩
  have e1 : Data.seq [Value.ref sc, .int n t].toArray kb = Data.seq vs.toArray k := congrArg Obj.data e
  have e2 : [Value.ref sc, .int n t].toArray = vs.toArray := (Data.seq.inj e1).1
  have e3 : [Value.ref sc, .int n t] = vs := by simpa using congrArg Array.toList e2
  exact ⟨1, n, t, by rw [← e3]; rfl⟩
theorem SpAll.strip2 {G G' : Led} {vs : List Value} {S : Spans} (h : SpAll G vs S) (hs : ∀ q ∈ G, q ∈ G' ∨ NoSp q) : SpAll G' vs S := by
  unfold SpAll at h ⊢
  induction S generalizing vs with
  | nil => cases h; exact .nil
  | cons p S ih =>
    rw [List.map_cons] at h ⊢
    cases h with
    | cons h1 h2 =>
      obtain ⟨a, t, u, n, rfl, hm⟩ := spd_in h1
      refine .cons (spd_of (n := n) (t := t) (u := u) ?_) (ih h2)
      rcases hs _ hm with e | e
      · exact e
      · exact absurd rfl e.1
theorem sp_list {G G' K : Led} {l : Addr} {vs : List Value} {n : Nat} {S : Spans} (h : (l, listOf vs.toArray n) ∈ G) (hS : SpAll K vs S) (hs : ∀ q ∈ G, q ∈ G' ∨ NoSp q) : (l, listOf vs.toArray n) ∈ G' := by
  rcases hs _ h with e | e
  · exact e
  · obtain ⟨i, j, t, hi⟩ := e.2 vs n rfl
    obtain ⟨_, _, a, _, _, _, _, hv, _⟩ := hS.get hi
    cases hv
theorem CI.strip2 {z : Nm} {G G' : Led} {dc : Obj} {D : Array UInt8} {S A : Spans} (h : CI z G dc D S A) (hs : ∀ q ∈ G, q ∈ G' ∨ NoSp q) : CI z G' dc D S A := by
  obtain ⟨td, ld, vs, n, la, ws, n2, h1, h2, h3, h4, h5⟩ := h
  exact ⟨td, ld, vs, n, la, ws, n2, h1, sp_list h2 h4 hs, sp_list h3 h5 hs, h4.strip2 hs, h5.strip2 hs⟩
theorem PI.strip2 {z : Nm} {G G' : Led} {dp : Obj} {p : PS} (h : PI z G dp p) (hs : ∀ q ∈ G, q ∈ G' ∨ NoSp q) : PI z G' dp p := by
  obtain ⟨v, h1, h2, h3, h4, h5⟩ := h
  exact ⟨v, h1, sp_list h2 h4 hs, sp_list h3 h5 hs, h4.strip2 hs, h5.strip2 hs⟩
theorem GAll.strip2 {G G' : Led} {vs : List Value} {g : Gone} (h : GAll G vs g) (hs : ∀ q ∈ G, q ∈ G' ∨ NoSp q) : GAll G' vs g := ⟨h.1, fun i v hv => by
  obtain ⟨o, d, a, t1, t2, k, h1, h2, h3⟩ := h.2 i v hv
  rcases hs _ h3 with e | e
  · exact ⟨o, d, a, t1, t2, k, h1, h2, e⟩
  · exact absurd rfl e.1⟩
theorem g_list2 {G G' K : Led} {l : Addr} {vs : List Value} {n : Nat} {g : Gone} (h : (l, listOf vs.toArray n) ∈ G) (hg : GAll K vs g) (hs : ∀ q ∈ G, q ∈ G' ∨ NoSp q) : (l, listOf vs.toArray n) ∈ G' := by
  rcases hs _ h with e | e
  · exact e
  · obtain ⟨i, j, t, hi⟩ := e.2 vs n rfl
    obtain ⟨_, _, a, _, _, _, _, hv, _⟩ := hg.2 i _ hi
    cases hv
def LawFor (f : Addr) (post : Value → Led → Prop) : Prop := ∀ w : World, match (Mine.K w.params).lookup f with
  | some ⟨_, _, .func fd, _⟩ => (match fd.body with
    | .stmts b => ∀ (c0 : Cx) (qual : Str) (fa : Addr) (cd : Value) (sl : Addr) (us : List Value) (ns : List Int) (u : Fm), let c : Cx := { c0 with cn := qual, cs := fd.scope, a := fa, ccd := cd, cl := [] }
      Bd c 6 80 → c.g.IsList sl us.toArray → IntsAre us ns → ns.length ≤ 63 → RunS c (ov [(Str.ofString "script", .ref sl)] u) [] b (Ends c post)
    | _ => False)
  | _ => False
theorem lawFor_of {f : Addr} {post : Value → Led → Prop} {name qual : Str} {params : Arguments} {body : List Stmt} {scope : Scope} {dV kV doc pm cdv ct oc : Value} {an od : Option Addr} {osl : Array (Option Value)}
    (ho : ∀ w : World, (Mine.K w.params).lookup f = some ⟨oc, od, .func (fnOf name qual params body scope dV kV doc pm an cdv ct), osl⟩)
    (hw : ∀ (c0 : Cx) (qual : Str) (fa : Addr) (cd : Value) (sl : Addr) (us : List Value) (ns : List Int) (u : Fm), let c : Cx := { c0 with cn := qual, cs := scope, a := fa, ccd := cd, cl := [] }
      let qe : Flow → Shared → Prop := Ends c post
      Bd c 6 80 → c.g.IsList sl us.toArray → IntsAre us ns → ns.length ≤ 63 → RunS c (ov [(Str.ofString "script", .ref sl)] u) [] body qe) : LawFor f post := by
  intro w
  rw [ho w]
  exact hw
section
variable {c : Cx} {m : Fm} {news R : Led} {e a b ea eb : PySem.Expr} {i j many n : Int} {pos px : Pos} {x y : Str} {v u : Value} {k dn un0 : Nat} {post : Value → Led → Prop} {t t2 tn : Tok} {bx sc : Addr} {us : List Value} {ks kb : Nat} {ns : List Int}
theorem ev_call0 {C : Addr} (B : Bd c dn un0) (hn : Gives c m news (.Name x px) (· = .ref C)) (hkeep : keepIn (Mine.K c.w.params) (.ref C) = true) (hQ : Calls c m news (.ref C) [] post) : Evals c m news (.Call (.Name x px) [] [] pos) post := fun h tk q F N hq => by
  walk1
  refine hn _ _ _ F N ?_
  rintro v h tk' rfl F N
  exact callWith_K0 (B.2.1.keeps F.keep) hkeep (hQ _ _ _ F N hq)
def TakeP (R : Led) (bx sc : Addr) (kb : Nat) (n many : Int) (r : Value) (n' : Led) : Prop := ∃ (t : Tok) (j : Int), 0 ≤ j ∧ j < many ∧ IsI j r ∧ n' = (bx, boxO sc (n + 1) t kb) :: R
theorem ev_take (B : Bd c dn un0) (h1 : 2 ≤ dn) (h2 : 19 ≤ un0) (hn : Gives c m ((bx, boxO sc n tn kb) :: R) (.Name x px) (· = .ref 266)) (hkeep : keepIn (Mine.K c.w.params) (.ref 266) = true) (hb : Gives c m ((bx, boxO sc n tn kb) :: R) eb (· = .ref bx)) (ha : Gives c m ((bx, boxO sc n tn kb) :: R) ea (IsI many))
    (hs : starEach [eb, ea] c.env = (false, eval eb c.env) :: starEach [ea] c.env) (hs2 : starEach [ea] c.env = (false, eval ea c.env) :: starEach [] c.env) (hpl : (backTo pos (starEach [ea] c.env)).any (·.1) = false)
    (hsc : (sc, listOf us.toArray ks) ∈ R) (hne : ∀ p ∈ R, p.1 ≠ bx) (hi : IntsAre us ns) (hu : us.length ≤ 1000) (h0 : 0 ≤ n) (h3 : n ≤ 1000) (hm : 0 < many) :
    Evals c m ((bx, boxO sc n tn kb) :: R) (.Call (.Name x px) [eb, ea] [] pos) (TakeP R bx sc kb n many) := by
  refine ev_call (PL := fun vs n' => (∃ t, vs = [.ref bx, .int many t]) ∧ n' = (bx, boxO sc n tn kb) :: R) B hn hkeep hs hpl (el_w (el_cons hb hs (el_cons ha hs2 el_nil)) ?_) ?_
  · rintro _ _ ⟨_, _, rfl, rfl, _, _, rfl, ⟨t1, rfl⟩, rfl, rfl⟩; exact ⟨⟨t1, rfl⟩, rfl⟩
  · rintro _ _ ⟨⟨t1, rfl⟩, rfl⟩
    refine c_w (c_does B (does_take hsc hne hi hu h0 h3 hm) (by omega) (by omega)) ?_
    rintro r n' ⟨t2, ⟨j, a, b, hr⟩, rfl⟩
    exact ⟨t2, j, a, b, hr, rfl⟩
theorem ev_addE {K : Int → Led → Prop} (ha : Gives c m news a (IsI i)) (hb : Evals c m news b (fun r n' => ∃ j, IsI j r ∧ K j n')) : Evals c m news (.BinOp a .Add b pos) (fun r n' => ∃ j, IsI (i + j) r ∧ K j n') := fun h tk q F N hQ => by
  refine wpAny_BinOp (ha _ _ _ F N ?_)
  rintro v h tk ⟨t, rfl⟩ F N
  refine hb _ _ _ F N ?_
  rintro v n' h tk ⟨j, ⟨t', rfl⟩, hK⟩ F N
  walk1
  exact hQ _ _ _ _ ⟨j, ⟨_, rfl⟩, hK⟩ F N
end

/-- the law's loop's state -/
structure Ls where
  dc : Obj
  dp : Obj
  p : PS
  S : Spans
  g : Gone
  T : Led
  lg : Addr
  gs : List Value
  kg : Nat
  n : Int
  tn : Tok
def lled (z : Nm) (bx sc : Addr) (kb : Nat) (G0 : Led) (s : Ls) : Led := (bx, boxO sc s.n s.tn kb) :: two z s.dc s.dp (G0 ++ s.T)
structure LJ (z : Nm) (bx : Addr) (G0 : Led) (i : Nat) (s : Ls) : Prop where
  H : Hn z (G0 ++ s.T)
  C : CI z (G0 ++ s.T) s.dc s.p.D s.S s.p.A
  P : PI z (G0 ++ s.T) s.dp s.p
  I : Inv s.p s.S s.g
  hl : (s.lg, listOf s.gs.toArray s.kg) ∈ G0 ++ s.T
  hg : GAll (G0 ++ s.T) s.gs s.g
  hb : s.g.length ≤ i
  hD : s.p.D.size ≤ 8 * i
  n0 : 0 ≤ s.n
  n1 : s.n ≤ 1 + 2 * (i : Int)
  nb : ∀ q ∈ G0 ++ s.T, q.1 ≠ bx
theorem rot4 {a b c : Addr × Obj} {G : Led} : ∀ q ∈ a :: b :: c :: G, q ∈ c :: a :: b :: G := by
  intro q hq
  simp only [List.mem_cons] at hq ⊢
  rcases hq with h | h | h | h
  · exact .inr (.inl h)
  · exact .inr (.inr (.inl h))
  · exact .inl h
  · exact .inr (.inr (.inr h))
theorem law_run : LawFor 292 (fun r _ => r = .bool true) := by
  refine' lawFor_of ?ho ?h
  case ho => (intro w; k_dflt k_is)
  intro c0 qual fa cd sl us ns u0 c qe B hsl hns h63
  refine s_two (PL := fun u v n => ∃ D1 sc bx lg vs k2 k3 k4 t0, u = .ref bx ∧ v = .ref lg ∧ IntsAre vs (ns.take 40) ∧ D1 < sc ∧ sc < bx ∧ bx < lg ∧ n = [(D1, listOf vs.toArray 0), (sc, listOf vs.toArray k2), (bx, boxO sc 0 t0 k3), (lg, listOf [].toArray k4)]) B (el_w (el_consE (PL := fun v vs' n => ∃ D1 sc bx lg vs k2 k3 k4 t0, v = .ref bx ∧ vs' = [.ref lg] ∧ IntsAre vs (ns.take 40) ∧ D1 < sc ∧ sc < bx ∧ bx < lg ∧ n = [(D1, listOf vs.toArray 0), (sc, listOf vs.toArray k2), (bx, boxO sc 0 t0 k3), (lg, listOf [].toArray k4)])
    (ev_list (PL := fun vs' n => ∃ D1 sc vs k2 t0, vs' = [.ref sc, .int 0 t0] ∧ IntsAre vs (ns.take 40) ∧ D1 < sc ∧ n = [(D1, listOf vs.toArray 0), (sc, listOf vs.toArray k2)]) (el_w (el_consE (PL := fun v vs' n => ∃ D1 sc vs k2 t0, v = .ref sc ∧ vs' = [.int 0 t0] ∧ IntsAre vs (ns.take 40) ∧ D1 < sc ∧ n = [(D1, listOf vs.toArray 0), (sc, listOf vs.toArray k2)])
      (ev_type (PL := fun vs' n => ∃ D1 vs, vs' = [.ref D1] ∧ IntsAre vs (ns.take 40) ∧ n = [(D1, listOf vs.toArray 0)]) (post := fun r n' => ∃ D1 sc vs k2, r = .ref sc ∧ IntsAre vs (ns.take 40) ∧ D1 < sc ∧ n' = [(D1, listOf vs.toArray 0), (sc, listOf vs.toArray k2)]) (by walk_at "GB") rfl rfl (el_w (el_consE (PL := fun v vs' n => ∃ D1 vs, v = .ref D1 ∧ vs' = [] ∧ IntsAre vs (ns.take 40) ∧ n = [(D1, listOf vs.toArray 0)]) (ev_cut40 (sl := sl) (us := us) (ns := ns) (by walk_at "EV") hsl hns (by omega) (fun _ => rfl) (fun _ => rfl)) rfl ?a1) ?a2) ?a3) rfl ?a4) ?a5) ?a6) rfl ?a7) ?a8) rfl rfl (by walk_at "RF") (by walk_at "RF") ?_
  case a1 =>
    rintro v n ⟨D, vs, rfl, rfl, hv, _⟩
    exact el_w el_nil (by rintro _ _ ⟨rfl, rfl⟩; exact ⟨D, vs, rfl, rfl, hv, rfl⟩)
  case a2 =>
    rintro _ n ⟨v, _, rfl, D1, vs, rfl, rfl, hv, rfl⟩; exact ⟨D1, vs, rfl, hv, rfl⟩
  case a3 =>
    rintro _ _ ⟨D1, vs, rfl, hv, rfl⟩
    refine c_w (c_copy (.head _) (by rw [hv.length, List.length_take]; omega)) ?_
    rintro r n' ⟨D, k, rfl, rfl, hD⟩
    exact ⟨D1, D, vs, k, rfl, hv, hD _ (.head _), rfl⟩
  case a4 =>
    rintro v n ⟨D1, sc, vs, k2, rfl, hv, h1, rfl⟩
    exact el_w (el_cons (P := IsI 0) g_int rfl el_nil) (by rintro _ _ ⟨_, _, rfl, ⟨t0, rfl⟩, rfl, rfl⟩; exact ⟨D1, sc, vs, k2, t0, rfl, rfl, hv, h1, rfl⟩)
  case a5 =>
    rintro _ n ⟨v, _, rfl, D1, sc, vs, k2, t0, rfl, rfl, hv, h1, rfl⟩; exact ⟨D1, sc, vs, k2, t0, rfl, hv, h1, rfl⟩
  case a6 =>
    rintro _ _ ⟨D1, sc, vs, k2, t0, rfl, _⟩; exact (by decide : 2 ≤ 1000)
  case a7 =>
    rintro v n ⟨_, _, ⟨D1, sc, vs, k2, t0, rfl, hv, h1, rfl⟩, bx, k3, rfl, rfl, hbx⟩
    refine el_w (el_consE (PL := fun v' vs' n => ∃ lg k4, v' = .ref lg ∧ vs' = [] ∧ bx < lg ∧ n = [(D1, listOf vs.toArray 0), (sc, listOf vs.toArray k2), (bx, boxO sc 0 t0 k3), (lg, listOf [].toArray k4)]) (ev_list (pos := _) el_nil (by rintro _ _ ⟨rfl, _⟩; exact Nat.zero_le _)) rfl ?_) ?_
    · rintro v n ⟨_, _, ⟨rfl, rfl⟩, lg, k4, rfl, rfl, hlg⟩
      exact el_w el_nil (by rintro _ _ ⟨rfl, rfl⟩; exact ⟨lg, k4, rfl, rfl, hlg _ (.tail _ (.tail _ (.head _))), rfl⟩)
    · rintro _ n ⟨v, _, rfl, lg, k4, rfl, rfl, hlg, rfl⟩
      exact ⟨D1, sc, bx, lg, vs, k2, k3, k4, t0, rfl, rfl, hv, h1, hbx _ (.tail _ (.head _)), hlg, rfl⟩
  case a8 =>
    rintro _ n ⟨v, _, rfl, D1, sc, bx, lg, vs, k2, k3, k4, t0, rfl, rfl, h⟩
    exact ⟨_, _, rfl, D1, sc, bx, lg, vs, k2, k3, k4, t0, rfl, rfl, h⟩
  rintro _ _ _ ⟨D1, sc, bx, lg, vs, k2, k3, k4, t0, rfl, rfl, hv, h1, h2, h3, rfl⟩
  have hvl : vs.length ≤ 40 := by rw [hv.length, List.length_take]; omega
  refine s_two (PL := fun u v n => ∃ x dx ck td ld la tl y dy pk v2 tl2, u = .ref x ∧ v = .ref y ∧ n = (dy, dictOf (parV pk ⟨false, #[], 0, [], []⟩ v2) 11) :: (((dx, dictOf (cryE ck (.bytes #[] td) (.ref ld) (.ref la)) 3) :: ([(D1, listOf vs.toArray 0), (sc, listOf vs.toArray k2), (bx, boxO sc 0 t0 k3), (lg, listOf [].toArray k4)] ++ tl)) ++ tl2) ∧ (∀ p ∈ ([(D1, listOf vs.toArray 0), (sc, listOf vs.toArray k2), (bx, boxO sc 0 t0 k3), (lg, listOf [].toArray k4)] : Led), p.1 < dx) ∧ (∀ p ∈ tl, dx < p.1) ∧ (x, instObj 108 dx) ∈ tl ∧ (∃ k, (ld, listOf [].toArray k) ∈ tl) ∧ (∃ k, (la, listOf [].toArray k) ∈ tl) ∧
      (∀ p ∈ (dx, dictOf (cryE ck (.bytes #[] td) (.ref ld) (.ref la)) 3) :: (([(D1, listOf vs.toArray 0), (sc, listOf vs.toArray k2), (bx, boxO sc 0 t0 k3), (lg, listOf [].toArray k4)] : Led) ++ tl), p.1 < dy) ∧ (∀ p ∈ tl2, dy < p.1) ∧ (y, instObj 255 dy) ∈ tl2 ∧ (v2.la, listOf v2.ws.toArray v2.n2) ∈ tl2 ∧ (v2.ll, listOf v2.us.toArray v2.n) ∈ tl2 ∧ v2.ws = [] ∧ v2.us = []) B
    (el_w (el_consE (PL := fun u vs' n => ∃ x dx ck td ld la tl y dy pk v2 tl2, u = .ref x ∧ vs' = [.ref y] ∧ n = (dy, dictOf (parV pk ⟨false, #[], 0, [], []⟩ v2) 11) :: (((dx, dictOf (cryE ck (.bytes #[] td) (.ref ld) (.ref la)) 3) :: ([(D1, listOf vs.toArray 0), (sc, listOf vs.toArray k2), (bx, boxO sc 0 t0 k3), (lg, listOf [].toArray k4)] ++ tl)) ++ tl2) ∧ (∀ p ∈ ([(D1, listOf vs.toArray 0), (sc, listOf vs.toArray k2), (bx, boxO sc 0 t0 k3), (lg, listOf [].toArray k4)] : Led), p.1 < dx) ∧ (∀ p ∈ tl, dx < p.1) ∧ (x, instObj 108 dx) ∈ tl ∧ (∃ k, (ld, listOf [].toArray k) ∈ tl) ∧ (∃ k, (la, listOf [].toArray k) ∈ tl) ∧
      (∀ p ∈ (dx, dictOf (cryE ck (.bytes #[] td) (.ref ld) (.ref la)) 3) :: (([(D1, listOf vs.toArray 0), (sc, listOf vs.toArray k2), (bx, boxO sc 0 t0 k3), (lg, listOf [].toArray k4)] : Led) ++ tl), p.1 < dy) ∧ (∀ p ∈ tl2, dy < p.1) ∧ (y, instObj 255 dy) ∈ tl2 ∧ (v2.la, listOf v2.ws.toArray v2.n2) ∈ tl2 ∧ (v2.ll, listOf v2.us.toArray v2.n) ∈ tl2 ∧ v2.ws = [] ∧ v2.us = [])
      (ev_call0 B (by walk_at "GG") (by k_dflt k_is) (makes_cry B (by decide) (by decide))) rfl ?b1) ?b2) rfl rfl (by walk_at "RF") (by walk_at "RF") ?_
  case b1 =>
    rintro _ _ ⟨x, dx, ck, td, ld, la, tl, rfl, rfl, e1, e2, e3, e4, e5⟩
    refine el_w (el_consE (PL := fun u vs' n => vs' = [] ∧ ∃ y dy pk v2 tl2, u = .ref y ∧ n = (dy, dictOf (parV pk ⟨false, #[], 0, [], []⟩ v2) 11) :: (((dx, dictOf (cryE ck (.bytes #[] td) (.ref ld) (.ref la)) 3) :: ([(D1, listOf vs.toArray 0), (sc, listOf vs.toArray k2), (bx, boxO sc 0 t0 k3), (lg, listOf [].toArray k4)] ++ tl)) ++ tl2) ∧ (∀ p ∈ (dx, dictOf (cryE ck (.bytes #[] td) (.ref ld) (.ref la)) 3) :: (([(D1, listOf vs.toArray 0), (sc, listOf vs.toArray k2), (bx, boxO sc 0 t0 k3), (lg, listOf [].toArray k4)] : Led) ++ tl), p.1 < dy) ∧ (∀ p ∈ tl2, dy < p.1) ∧ (y, instObj 255 dy) ∈ tl2 ∧ (v2.la, listOf v2.ws.toArray v2.n2) ∈ tl2 ∧ (v2.ll, listOf v2.us.toArray v2.n) ∈ tl2 ∧ v2.ws = [] ∧ v2.us = []) (ev_call (f := 255) (PL := fun vs' n => (∃ t, vs' = [.int 1099511627776 t]) ∧ n = (dx, dictOf (cryE ck (.bytes #[] td) (.ref ld) (.ref la)) 3) :: ([(D1, listOf vs.toArray 0), (sc, listOf vs.toArray k2), (bx, boxO sc 0 t0 k3), (lg, listOf [].toArray k4)] ++ tl)) B (by walk_at "GG") (by k_dflt k_is) rfl rfl (el_w (el_cons g_pow40 rfl el_nil) (by rintro _ _ ⟨_, _, rfl, ⟨t, rfl⟩, rfl, rfl⟩; exact ⟨⟨t, rfl⟩, rfl⟩)) (by rintro _ _ ⟨⟨t, rfl⟩, rfl⟩; exact makes_part B (by decide) (by decide))) rfl ?_) ?_
    · rintro _ _ ⟨y, dy, pk, v2, tl2, rfl, rfl, f1, f2, f3, f4, f5, f6, f7⟩
      exact el_w el_nil (by rintro _ _ ⟨rfl, rfl⟩; exact ⟨rfl, y, dy, pk, v2, tl2, rfl, rfl, f1, f2, f3, f4, f5, f6, f7⟩)
    · rintro _ _ ⟨_, _, rfl, rfl, y, dy, pk, v2, tl2, rfl, rfl, f1, f2, f3, f4, f5, f6, f7⟩
      exact ⟨x, dx, ck, td, ld, la, tl, y, dy, pk, v2, tl2, rfl, rfl, rfl, e1, e2, e3, e4, e5, f1, f2, f3, f4, f5, f6, f7⟩
  case b2 =>
    rintro _ n ⟨u, _, rfl, x, dx, ck, td, ld, la, tl, y, dy, pk, v2, tl2, rfl, rfl, h⟩
    exact ⟨_, _, rfl, x, dx, ck, td, ld, la, tl, y, dy, pk, v2, tl2, rfl, rfl, h⟩
  rintro _ _ _ ⟨x, dx, ck, td, ld, la, tl, y, dy, pk, v2, tl2, rfl, rfl, rfl, e1, e2, e3, ⟨ke4, e4⟩, ⟨ke5, e5⟩, f1, f2, f3, f4, f5, f6, f7⟩
  let z : Nm := ⟨x, dx, y, dy, ck, pk⟩
  let G0 : Led := [(D1, listOf vs.toArray 0), (sc, listOf vs.toArray k2), (lg, listOf [].toArray k4)] ++ (tl ++ tl2)
  let p0 : PS := ⟨false, #[], 0, [], []⟩
  let dc0 : Obj := cO z #[] td ld la
  let dp0 : Obj := dictOf (parV pk p0 v2) 11
  have hD1x : D1 < dx := e1 (D1, listOf vs.toArray 0) (.head _)
  have hscx : sc < dx := e1 (sc, listOf vs.toArray k2) (.tail _ (.head _))
  have hbxx : bx < dx := e1 (bx, boxO sc 0 t0 k3) (.tail _ (.tail _ (.head _)))
  have hlgx : lg < dx := e1 (lg, listOf [].toArray k4) (.tail _ (.tail _ (.tail _ (.head _))))
  have hxy : dx < dy := f1 (dx, _) (.head _)
  have hty : ∀ q ∈ tl, q.1 < dy := fun q hq => f1 q (.tail _ (sub_r _ hq))
  have hsc0 : (sc, listOf vs.toArray k2) ∈ G0 := .tail _ (.head _)
  have H0 : Hn z (G0 ++ []) := by
    rw [List.append_nil]
    refine ⟨sub_r _ (sub_l _ e3), sub_r _ (sub_r _ f3), Nat.ne_of_lt hxy, ?_, ?_⟩
    · exact List.forall_mem_append.mpr ⟨List.forall_mem_cons.mpr ⟨Nat.ne_of_lt hD1x, List.forall_mem_cons.mpr ⟨Nat.ne_of_lt hscx, List.forall_mem_cons.mpr ⟨Nat.ne_of_lt hlgx, List.forall_mem_nil _⟩⟩⟩, List.forall_mem_append.mpr ⟨fun q hq => Nat.ne_of_gt (e2 q hq), fun q hq => Nat.ne_of_gt (Nat.lt_trans hxy (f2 q hq))⟩⟩
    · exact List.forall_mem_append.mpr ⟨List.forall_mem_cons.mpr ⟨Nat.ne_of_lt (Nat.lt_trans hD1x hxy), List.forall_mem_cons.mpr ⟨Nat.ne_of_lt (Nat.lt_trans hscx hxy), List.forall_mem_cons.mpr ⟨Nat.ne_of_lt (Nat.lt_trans hlgx hxy), List.forall_mem_nil _⟩⟩⟩, List.forall_mem_append.mpr ⟨fun q hq => Nat.ne_of_lt (hty q hq), fun q hq => Nat.ne_of_gt (f2 q hq)⟩⟩
  have C0 : CI z (G0 ++ []) dc0 p0.D [] p0.A := by
    rw [List.append_nil]
    exact ⟨td, ld, [], ke4, la, [], ke5, rfl, sub_r _ (sub_l _ e4), sub_r _ (sub_l _ e5), DatAll.nil, DatAll.nil⟩
  have P0 : PI z (G0 ++ []) dp0 p0 := by
    rw [List.append_nil]
    exact ⟨v2, rfl, sub_r _ (sub_r _ f4), sub_r _ (sub_r _ f5), by rw [f6]; exact DatAll.nil, by rw [f7]; exact DatAll.nil⟩
  have I0 : Inv p0 [] [] := inv_start rfl
  have nb0 : ∀ q ∈ G0, q.1 ≠ bx := List.forall_mem_append.mpr ⟨List.forall_mem_cons.mpr ⟨Nat.ne_of_lt (Nat.lt_trans h1 h2), List.forall_mem_cons.mpr ⟨Nat.ne_of_lt h2, List.forall_mem_cons.mpr ⟨Nat.ne_of_gt h3, List.forall_mem_nil _⟩⟩⟩, List.forall_mem_append.mpr ⟨fun q hq => Nat.ne_of_gt (Nat.lt_trans hbxx (e2 q hq)), fun q hq => Nat.ne_of_gt (Nat.lt_trans hbxx (Nat.lt_trans hxy (f2 q hq)))⟩⟩
  have dxb : z.dx ≠ bx := Nat.ne_of_gt hbxx
  have dyb : z.dy ≠ bx := Nat.ne_of_gt (Nat.lt_trans hbxx hxy)
  refine s_sub (lled z bx sc k3 G0 ⟨dc0, dp0, p0, [], [], [], lg, [], k4, 0, t0⟩) (fun q hq => ?_) ?_
  · have hq : q ∈ (bx, boxO sc 0 t0 k3) :: two z dc0 dp0 (G0 ++ []) := hq
    rw [List.append_nil] at hq
    simp only [G0, List.mem_cons, List.mem_append, List.not_mem_nil, or_false] at hq ⊢
    rcases hq with h | h | h | (h | h | h) | h | h
    · exact .inr (.inl (.inr (.inl (.inr (.inr (.inl h))))))
    · exact .inr (.inl (.inl h))
    · exact .inl h
    · exact .inr (.inl (.inr (.inl (.inl h))))
    · exact .inr (.inl (.inr (.inl (.inr (.inl h)))))
    · exact .inr (.inl (.inr (.inl (.inr (.inr (.inr h))))))
    · exact .inr (.inl (.inr (.inr h)))
    · exact .inr (.inr h)
  refine s_forI (post := fun r n' => ∃ (N : Nat) (t1 : Tok) (R : Addr) (u v w : Tok), N ≤ 12 ∧ r = .ref R ∧ n' = lled z bx sc k3 G0 ⟨dc0, dp0, p0, [], [], [], lg, [], k4, 1, t1⟩ ++ [(R, rangeO N u v w)]) B (ev_type (PL := fun vs' n => ∃ (N : Nat) (t t1 : Tok), N ≤ 12 ∧ vs' = [.int N t] ∧ n = lled z bx sc k3 G0 ⟨dc0, dp0, p0, [], [], [], lg, [], k4, 1, t1⟩) (by walk_at "GB") rfl rfl (el_w (el_consE (PL := fun v vs' n => vs' = [] ∧ ∃ (N : Nat) (t t1 : Tok), N ≤ 12 ∧ v = .int N t ∧ n = lled z bx sc k3 G0 ⟨dc0, dp0, p0, [], [], [], lg, [], k4, 1, t1⟩)
    (ev_addE (i := 3) (K := fun j n' => 0 ≤ j ∧ j < 10 ∧ ∃ t1, n' = lled z bx sc k3 G0 ⟨dc0, dp0, p0, [], [], [], lg, [], k4, 1, t1⟩) g_int (ev_w (ev_take (R := two z dc0 dp0 (G0 ++ [])) (bx := bx) (sc := sc) (kb := k3) (n := 0) (tn := t0) (many := 10) (us := vs) (ks := k2) B (by decide) (by decide) (by walk_at "GG") (by k_dflt k_is) (by walk_at "EV") g_int rfl rfl rfl (.tail _ (.tail _ (sub_l _ hsc0))) (List.forall_mem_cons.mpr ⟨dxb, List.forall_mem_cons.mpr ⟨dyb, by rw [List.append_nil]; exact nb0⟩⟩) hv (by omega) (by decide) (by decide) (by decide)) ?c1)) rfl ?c2) ?c3) ?c4) (fun _ => rfl) ?_
  case c1 =>
    rintro r n' ⟨t1, j, a, b, hr, rfl⟩
    exact ⟨j, hr, a, b, t1, rfl⟩
  case c2 =>
    rintro v n ⟨j, ⟨t, rfl⟩, a, b, t1, rfl⟩
    exact el_w el_nil (by rintro _ _ ⟨rfl, rfl⟩; exact ⟨rfl, (3 + j).toNat, t, t1, by omega, by rw [Int.toNat_of_nonneg (by omega)], rfl⟩)
  case c3 =>
    rintro _ n ⟨v, _, rfl, rfl, N, t, t1, hN, rfl, rfl⟩; exact ⟨N, t, t1, hN, rfl, rfl⟩
  case c4 =>
    rintro _ _ ⟨N, t, t1, hN, rfl, rfl⟩
    refine c_w c_range1 ?_
    rintro r n' ⟨R, u, v, rfl, rfl, _⟩
    exact ⟨N, t1, R, u, t, v, hN, rfl, rfl⟩
  rintro _ _ ⟨N, t1, R, ru, rv, rw', hN, rfl, rfl⟩
  refine it_rangeS (keep := []) (σ := Ls) (fun s => [(Str.ofString "box", .ref bx), (Str.ofString "crypto", .ref z.x), (Str.ofString "part", .ref z.y), (Str.ofString "gone", .ref s.lg)]) (lled z bx sc k3 G0) (LJ z bx G0) ⟨dc0, dp0, p0, [], [], [], lg, [], k4, 1, t1⟩ B (by omega) (sub_r _ (.head _)) sub_l (by (repeat (first | exact List.forall_mem_nil _ | refine List.forall_mem_cons.mpr ⟨by with_unfolding_all rfl, ?_⟩))) ⟨H0, C0, P0, I0, sub_l _ (.tail _ (.tail _ (.head _))), .nil, Nat.le_refl _, Nat.le_refl _, (by decide : (0 : Int) ≤ 1), (by decide : (1 : Int) ≤ 1 + 2 * ((0 : Nat) : Int)), by rw [List.append_nil]; exact nb0⟩ (by walk_at "RF") ?_ ?_
  · rintro i ⟨dc, dp, p, S, g, T, lg1, gs, kg, n, tn⟩ u I ob t hi hob ⟨H, C, P, I1, hl, hg, hb, hD, n0, n1, nb⟩ hnx qt mt nt
    have H : Hn z (G0 ++ T) := H
    have C : CI z (G0 ++ T) dc p.D S p.A := C
    have P : PI z (G0 ++ T) dp p := P
    have I1 : Inv p S g := I1
    have hl : (lg1, listOf gs.toArray kg) ∈ G0 ++ T := hl
    have hg : GAll (G0 ++ T) gs g := hg
    have hb : g.length ≤ i := hb
    have hD : p.D.size ≤ 8 * i := hD
    have n0 : 0 ≤ n := n0
    have n1 : n ≤ 1 + 2 * (i : Int) := n1
    have nb : ∀ q ∈ G0 ++ T, q.1 ≠ bx := nb
    have hiN : i < 12 := by omega
    have hbI : bx ≠ I := hnx (bx, boxO sc n tn k3) (.head _)
    have hxI : z.dx ≠ I := hnx (z.dx, dc) (.tail _ (.head _))
    have hyI : z.dy ≠ I := hnx (z.dy, dp) (.tail _ (.tail _ (.head _)))
    have hGI : ∀ q ∈ G0 ++ T, q.1 ≠ I := fun q hq => hnx q (.tail _ (.tail _ (.tail _ hq)))
    let G4 : Led := (G0 ++ T) ++ [(I, ob)]
    let GX : Int → Tok → Led := fun n' t' => (bx, boxO sc n' t' k3) :: G4
    have up4 : ∀ q ∈ G0 ++ T, q ∈ G4 := sub_l
    have upX : ∀ n' t', ∀ q ∈ G0 ++ T, q ∈ GX n' t' := fun n' t' q hq => .tail _ (up4 q hq)
    have b4 : ∀ q ∈ G4, q.1 ≠ bx := List.forall_mem_append.mpr ⟨nb, List.forall_mem_cons.mpr ⟨fun e => hbI e.symm, List.forall_mem_nil _⟩⟩
    have x4 : ∀ q ∈ G4, q.1 ≠ z.dx := List.forall_mem_append.mpr ⟨H.nx, List.forall_mem_cons.mpr ⟨fun e => hxI e.symm, List.forall_mem_nil _⟩⟩
    have y4 : ∀ q ∈ G4, q.1 ≠ z.dy := List.forall_mem_append.mpr ⟨H.ny, List.forall_mem_cons.mpr ⟨fun e => hyI e.symm, List.forall_mem_nil _⟩⟩
    have bR : ∀ q ∈ two z dc dp G4, q.1 ≠ bx := List.forall_mem_cons.mpr ⟨dxb, List.forall_mem_cons.mpr ⟨dyb, b4⟩⟩
    have HX : ∀ n' t', Hn z (GX n' t') := fun n' t' => ⟨upX _ _ _ H.hx, upX _ _ _ H.hy, H.hd, List.forall_mem_cons.mpr ⟨fun e => dxb e.symm, x4⟩, List.forall_mem_cons.mpr ⟨fun e => dyb e.symm, y4⟩⟩
    have CX : ∀ n' t', CI z (GX n' t') dc p.D S p.A := fun n' t' => C.sub (upX n' t')
    have PX : ∀ n' t', PI z (GX n' t') dp p := fun n' t' => P.sub (upX n' t')
    have hscR : (sc, listOf vs.toArray k2) ∈ two z dc dp G4 := .tail _ (.tail _ (up4 _ (sub_l _ hsc0)))
    have hvk : vs.length ≤ 1000 := by omega
    refine s_assignE (post := fun r n' => ∃ (f n1 : Int) (t1 : Tok), IsI f r ∧ 0 ≤ f ∧ n ≤ n1 ∧ n1 ≤ n + 1 ∧ n' = (bx, boxO sc n1 t1 k3) :: two z dc dp G4) B (ev_if (t_gt (i := (i : Int)) (j := 0) (by walk_at "EV") g_int rfl) (fun _ => ev_w (ev_take (R := two z dc dp G4) (bx := bx) (sc := sc) (kb := k3) (n := n) (tn := tn) (many := 5) (us := vs) (ks := k2) B (by decide) (by decide) (by walk_at "GG") (by k_dflt k_is) (by walk_at "EV") g_int rfl rfl rfl hscR bR hv hvk n0 (by omega) (by decide)) ?d1) (fun _ => ev_w (g_ev (P := IsI 0) g_int) ?d2)) rfl (by walk_at "RF") ?_
    case d1 =>
      rintro r n' ⟨t2, j, a, b, hr, rfl⟩
      exact ⟨j, n + 1, t2, hr, a, by omega, by omega, rfl⟩
    case d2 =>
      rintro r n' ⟨hr, rfl⟩
      exact ⟨0, n, tn, hr, by decide, by omega, by omega, rfl⟩
    rintro _ _ ⟨f, n1', tk1, ⟨tf, rfl⟩, hf0, hm1, hm2, rfl⟩
    refine s_cutM (fun m' n' => ∃ (u' : Fm) (dc' dp' : Obj) (p' : PS) (S' : Spans) (g' : Gone) (tl : Led) (lg' : Addr) (gs' : List Value) (kg' : Nat) (n2 : Int) (t2 : Tok), m' = ov [(Str.ofString "box", .ref bx), (Str.ofString "crypto", .ref z.x), (Str.ofString "part", .ref z.y), (Str.ofString "gone", .ref lg')] u' ∧ n' = two z dc' dp' (GX n2 t2 ++ tl) ∧ Hn z (GX n2 t2 ++ tl) ∧ CI z (GX n2 t2 ++ tl) dc' p'.D S' p'.A ∧ PI z (GX n2 t2 ++ tl) dp' p' ∧ Inv p' S' g' ∧
      (lg', listOf gs'.toArray kg') ∈ GX n2 t2 ++ tl ∧ GAll (GX n2 t2 ++ tl) gs' g' ∧ g'.length ≤ i + 1 ∧ p'.D.size ≤ 8 * (i + 1) ∧ 0 ≤ n2 ∧ n2 ≤ n + 2 ∧ (∀ q ∈ tl, bx < q.1) ∧ ∀ q ∈ tl, I < q.1) ?tail ?_
    case tail =>
      rintro _ _ ⟨u', dc', dp', p', S', g', tl', lg', gs', kg', n2, t2, rfl, rfl, H2, C2, P2, I2, hl2, hg2, hb2, hD2, hn0, hn2, htb, htI⟩
      refine s_ifE (tp := fun b n' => b = false ∧ Ext z (GX n2 t2 ++ tl') p' S' p'.A p'.D (fun _ _ => True) .none n') (te_not (te_val (ev_w (ev_call (f := 280) (post := Ext z (GX n2 t2 ++ tl') p' S' p'.A p'.D (fun r _ => r = .bool true)) (PL := fun vs n' => vs = [.ref z.x, .ref z.y] ∧ n' = two z dc' dp' (GX n2 t2 ++ tl')) B (by walk_at "GG") (by k_dflt k_is) rfl rfl (el_w (el_cons (P := (· = .ref z.x)) (by walk_at "EV") rfl (el_cons (P := (· = .ref z.y)) (by walk_at "EV") rfl el_nil)) ?e1) ?e2) ?e3) rfl)) (fun n' h => nomatch h.1) ?_
      case e1 => rintro _ _ ⟨_, _, rfl, rfl, _, _, rfl, rfl, rfl, rfl⟩; exact ⟨rfl, rfl⟩
      case e2 =>
        rintro _ _ ⟨rfl, rfl⟩
        exact c_does B (does_alike H2 C2 P2 I2) (by decide) (by decide)
      case e3 =>
        rintro v n' ⟨dc8, dp8, tl8, e1, e2, e3, e4, e5, e6⟩
        exact ⟨true, e6, rfl, dc8, dp8, tl8, e1, e2, e3, e4, e5, trivial⟩
      rintro n' ⟨_, dc3, dp3, tl3, rfl, hab3, H3, C3, P3, _⟩
      refine s_end ?_
      have htb3 : ∀ q ∈ tl3, bx < q.1 := hab3 (bx, boxO sc n2 t2 k3) (.tail _ (.tail _ (.head _)))
      have htI3 : ∀ q ∈ tl3, I < q.1 := hab3 (I, ob) (.tail _ (.tail _ (.tail _ (sub_l _ (sub_r _ (.head _))))))
      have hs : ∀ q ∈ (GX n2 t2 ++ tl') ++ tl3, q ∈ G0 ++ (T ++ (tl' ++ tl3)) ∨ NoSp q := by
        intro q hq
        rcases List.mem_append.mp hq with hq | hq
        · rcases List.mem_cons.mp hq with rfl | hq
          · exact .inr noSp_box
          · rcases List.mem_append.mp hq with hq | hq
            · rcases List.mem_append.mp hq with hq | hq
              · rcases List.mem_append.mp hq with hq | hq
                · exact .inl (sub_l _ hq)
                · exact .inl (sub_r _ (sub_l _ hq))
              · rw [List.mem_singleton.mp hq]
                exact .inr (noSp_cls (by show ob.cls ≠ _; rw [hob]; decide) (by show ob.cls ≠ _; rw [hob]; decide))
            · exact .inl (sub_r _ (sub_r _ (sub_l _ hq)))
        · exact .inl (sub_r _ (sub_r _ (sub_r _ hq)))
      have hs' : ∀ q ∈ G0 ++ (T ++ (tl' ++ tl3)), q ∈ (GX n2 t2 ++ tl') ++ tl3 := by
        intro q hq
        rcases List.mem_append.mp hq with hq | hq
        · exact sub_l _ (.tail _ (sub_l _ (sub_l _ (sub_l _ hq))))
        · rcases List.mem_append.mp hq with hq | hq
          · exact sub_l _ (.tail _ (sub_l _ (sub_l _ (sub_r _ hq))))
          · rcases List.mem_append.mp hq with hq | hq
            · exact sub_l _ (.tail _ (sub_r _ hq))
            · exact sub_r _ hq
      have hTT : ∀ {Q : Addr × Obj → Prop}, (∀ q ∈ G0 ++ T, Q q) → (∀ q ∈ tl', Q q) → (∀ q ∈ tl3, Q q) → ∀ q ∈ G0 ++ (T ++ (tl' ++ tl3)), Q q := by
        intro Q h1 h2 h3
        rw [← List.append_assoc]
        exact List.forall_mem_append.mpr ⟨h1, List.forall_mem_append.mpr ⟨h2, h3⟩⟩
      refine s_turnS (σ := Ls) ⟨dc3, dp3, p', S', g', T ++ (tl' ++ tl3), lg', gs', kg', n2, t2⟩ (fun q hq => ?_) (.tail _ (.tail _ (.tail _ (sub_l _ (sub_l _ (sub_r _ (.head _))))))) (List.forall_mem_cons.mpr ⟨hbI, List.forall_mem_cons.mpr ⟨hxI, List.forall_mem_cons.mpr ⟨hyI, hTT (Q := fun q => q.1 ≠ I) hGI (fun q hq => Nat.ne_of_gt (htI q hq)) fun q hq => Nat.ne_of_gt (htI3 q hq)⟩⟩⟩) (by (repeat (first | exact List.forall_mem_nil _ | refine List.forall_mem_cons.mpr ⟨by with_unfolding_all rfl, ?_⟩)))
        ⟨⟨by rw [← List.append_assoc]; exact sub_l _ H.hx, by rw [← List.append_assoc]; exact sub_l _ H.hy, H.hd, fun q hq => H3.nx q (hs' q hq), fun q hq => H3.ny q (hs' q hq)⟩, C3.strip2 hs, P3.strip2 hs, I2, g_list2 (sub_l _ hl2) hg2 hs, (hg2.mono sub_l).strip2 hs, hb2, hD2, hn0, by show n2 ≤ 1 + 2 * ((i + 1 : Nat) : Int); omega, hTT (Q := fun q => q.1 ≠ bx) nb (fun q hq => Nat.ne_of_gt (htb q hq)) fun q hq => Nat.ne_of_gt (htb3 q hq)⟩
      rcases List.mem_cons.mp hq with rfl | hq
      · exact .tail _ (.tail _ (.head _))
      · rcases List.mem_cons.mp hq with rfl | hq
        · exact .head _
        · rcases List.mem_cons.mp hq with rfl | hq
          · exact .tail _ (.head _)
          · exact .tail _ (.tail _ (hs' q hq))
    intro tail
    have hz : p.D.size ≤ 1000 := by have := I1.w1; omega
    have fin : ∀ {m' : Fm} {n' : Led} {dc' dp' : Obj} {p' : PS} {S' : Spans} {g' : Gone} {tl : Led} {lg' : Addr} {gs' : List Value} {kg' : Nat} {n2 : Int} {t2 : Tok}, FrIs m' [(Str.ofString "box", .ref bx), (Str.ofString "crypto", .ref z.x), (Str.ofString "part", .ref z.y), (Str.ofString "gone", .ref lg')] → n' = two z dc' dp' (GX n2 t2 ++ tl) → Abv (two z dc' dp' (GX n2 t2)) tl → Hn z (GX n2 t2 ++ tl) → CI z (GX n2 t2 ++ tl) dc' p'.D S' p'.A → PI z (GX n2 t2 ++ tl) dp' p' → Inv p' S' g' →
        (lg', listOf gs'.toArray kg') ∈ GX n2 t2 ++ tl → GAll (GX n2 t2 ++ tl) gs' g' → g'.length ≤ i + 1 → p'.D.size ≤ 8 * (i + 1) → 0 ≤ n2 → n2 ≤ n + 2 → RunS c m' n' _ qt := fun hm hn hab h1 h2 h3 h4 h5 h6 h7 h8 h9 h10 => tail _ _ ⟨_, _, _, _, _, _, _, _, _, _, _, _, ov_eq hm, hn, h1, h2, h3, h4, h5, h6, h7, h8, h9, h10, hab (bx, boxO sc _ _ k3) (.tail _ (.tail _ (.head _))), hab (I, ob) (.tail _ (.tail _ (.tail _ (sub_r _ (.head _)))))⟩
    refine s_if (t_eq (i := f) (j := 0) (by walk_at "EV") g_int rfl) (fun _ => ?_) fun _ => ?_
    · refine s_assignE (post := fun r n' => ∃ (d : Array UInt8) (t2 : Tok), IsB d r ∧ d.size ≤ 8 ∧ n' = (bx, boxO sc (n1' + 1) t2 k3) :: two z dc dp G4) B (ev_w (g_sliceB0 (post := fun r n' => ∃ j, IsI (1 + j) r ∧ ∃ t2, n' = (bx, boxO sc (n1' + 1) t2 k3) :: two z dc dp G4) g_byc (ev_addE (i := 1) (K := fun j n' => ∃ t2, n' = (bx, boxO sc (n1' + 1) t2 k3) :: two z dc dp G4) g_int (ev_w (ev_take (R := two z dc dp G4) (bx := bx) (sc := sc) (kb := k3) (n := n1') (tn := tk1) (many := 8) (us := vs) (ks := k2) B (by decide) (by decide) (by walk_at "GG") (by k_dflt k_is) (by walk_at "EV") g_int rfl rfl rfl hscR bR hv hvk (by omega) (by omega) (by decide)) ?f1)) (fun r n' h => by obtain ⟨j, h, _⟩ := h; exact ⟨_, h⟩) (by decide) (fun _ _ => rfl) (fun _ _ => rfl)) ?f2) rfl (by walk_at "RF") ?_
      case f1 =>
        rintro r n' ⟨t2, j, a, b, hr, rfl⟩
        exact ⟨j, hr, t2, rfl⟩
      case f2 =>
        rintro r n' ⟨d, r', hr, hd, ⟨j, _, t2, rfl⟩, _⟩
        exact ⟨d, t2, hr, hd, rfl⟩
      rintro _ _ ⟨d, t2, ⟨td2, rfl⟩, hd8, rfl⟩
      have hDd : p.D.size + d.size ≤ 100 := by omega
      let p1 : PS := { p with D := p.D ++ d }
      obtain ⟨v3, hdp3, hP3⟩ := PX (n1' + 1) t2
      refine s_expr (post := fun _ n' => ∃ n2, (∀ q ∈ n2, q ∈ n') ∧ Ext z (GX (n1' + 1) t2) p1 S p.A p.D (fun _ _ => True) .none n2) (ev_meth (f := 154) (o := z.y) (PL := fun vs' n' => vs' = [.bytes d td2] ∧ n' = (bx, boxO sc (n1' + 1) t2 k3) :: two z dc dp G4) B (by walk_at "EV") (by rw [hdp3]; exact meths_at (n := 11) cls_part B (.tail _ (.tail _ (.tail _ (up4 _ H.hy)))) (.tail _ (.tail _ (.head _))) (by k_dflt k_is) (by k_dflt k_is) rfl) (by k_dflt k_is) rfl rfl rfl (el_w (el_cons (P := (· = .bytes d td2)) (by walk_at "EV") rfl el_nil) ?g1) ?g2) rfl rfl ?_
      case g1 => rintro _ _ ⟨_, _, rfl, rfl, rfl, rfl⟩; exact ⟨rfl, rfl⟩
      case g2 =>
        rintro _ _ ⟨rfl, rfl⟩
        rw [hdp3]
        refine c_w (c_sub _ rot3 (c_does B (does_write (K := GX (n1' + 1) t2) (G := (z.dx, dc) :: GX (n1' + 1) t2) (pk := z.pk) (p := p) (v := v3) (b := d) (tb := td2) (.tail _ (HX _ _).hy) (List.forall_mem_cons.mpr ⟨H.hd, (HX _ _).ny⟩) ⟨.tail _ hP3.1, .tail _ hP3.2.1, hP3.2.2.1, hP3.2.2.2⟩ (by omega)) (by decide) (by decide))) ?_
        intro r n' h
        obtain ⟨n2, e1, dc1, dp1, tl1, e2, e3, e4, e5, e6, _⟩ := ppost_two (HX _ _) (CX _ _) h
        exact ⟨n2, e1, dc1, dp1, tl1, e2, e3, e4, e5, e6, trivial⟩
      rintro _ n' ⟨n2, hsub, dc1, dp1, tl1, rfl, hab1, H1, C1, P1, _⟩
      refine s_sub _ hsub ?_
      obtain ⟨td, ld, us1, m1, la, ws, m2, rfl, c1, c2, c3, c4⟩ := C1
      refine s_expr (post := fun _ n' => Ext z (GX (n1' + 1) t2 ++ tl1) p1 (addSpan S p.D.size (p.D.size + d.size)) p.A (p.D ++ d) (fun _ _ => True) .none n') (ev_meth (f := 77) (o := z.x) (PL := fun vs' n' => vs' = [.bytes d td2] ∧ n' = two z (cO z p.D td ld la) dp1 (GX (n1' + 1) t2 ++ tl1)) B (by walk_at "EV") (meths_at (n := 3) cls_cry B (.tail _ (.tail _ H1.hx)) (.head _) (by k_dflt k_is) (by k_dflt k_is) rfl) (by k_dflt k_is) rfl rfl rfl (el_w (el_cons (P := (· = .bytes d td2)) (by walk_at "EV") rfl el_nil) ?g3) ?g4) rfl rfl ?_
      case g3 => rintro _ _ ⟨_, _, rfl, rfl, rfl, rfl⟩; exact ⟨rfl, rfl⟩
      case g4 =>
        rintro _ _ ⟨rfl, rfl⟩
        refine c_w (c_does B (does_put (K := GX (n1' + 1) t2 ++ tl1) (G := (z.dy, dp1) :: (GX (n1' + 1) t2 ++ tl1)) (ck := z.ck) (D := p.D) (td := td) (b := d) (tb := td2) (.tail _ H1.hx) (List.forall_mem_cons.mpr ⟨fun e => H.hd e.symm, H1.nx⟩) (.tail _ c1) (fun q hq => .tail _ hq) c3 (.tail _ c2) c4 I1.lS (by omega)) (by decide) (by decide)) ?_
        intro r n' h
        obtain ⟨dc2, dp2, tl2, e2, e3, e4, e5, e6, _⟩ := cpost_two H1 P1 h
        exact ⟨dc2, dp2, tl2, e2, e3, e4, e5, e6, trivial⟩
      intro _ n' hE
      obtain ⟨dc2, dp2, tl2, rfl, hab2, H2, C2, P2, _⟩ := ext_trans (R' := fun _ _ => True) hab1 hE fun _ _ => trivial
      exact s_end (fin (p' := p1) (by (repeat (first | exact List.forall_mem_nil _ | refine List.forall_mem_cons.mpr ⟨by with_unfolding_all rfl, ?_⟩))) rfl hab2 H2 C2 P2 (inv_write I1 hDd) (sub_l _ (upX _ _ _ hl)) (hg.mono fun q hq => sub_l _ (upX _ _ _ hq)) (by omega) (by show (p.D ++ d).size ≤ _; rw [Array.size_append]; omega) (by omega) (by omega))
    · refine s_if (t_lt (i := f) (j := 3) (by walk_at "EV") g_int rfl) (fun _ => ?_) fun _ => ?_
      · refine s_unp2 (post := fun r n' => ∃ t2, GonePost z (GX (n1' + 1) t2) p S g r n') B (ev_call (f := 273) (PL := fun vs' n' => ∃ most t t2, vs' = [.ref z.x, .ref z.y, .int most t] ∧ 0 < most ∧ n' = (bx, boxO sc (n1' + 1) t2 k3) :: two z dc dp G4) B (by walk_at "GG") (by k_dflt k_is) rfl rfl (el_w (el_cons (P := (· = .ref z.x)) (by walk_at "EV") rfl (el_cons (P := (· = .ref z.y)) (by walk_at "EV") rfl (el_consE (PL := fun v vs' n' => vs' = [] ∧ ∃ most t t2, v = .int most t ∧ 0 < most ∧ n' = (bx, boxO sc (n1' + 1) t2 k3) :: two z dc dp G4)
          (ev_addE (i := 1) (K := fun j n' => 0 ≤ j ∧ ∃ t2, n' = (bx, boxO sc (n1' + 1) t2 k3) :: two z dc dp G4) g_int (ev_w (ev_take (R := two z dc dp G4) (bx := bx) (sc := sc) (kb := k3) (n := n1') (tn := tk1) (many := 5) (us := vs) (ks := k2) B (by decide) (by decide) (by walk_at "GG") (by k_dflt k_is) (by walk_at "EV") g_int rfl rfl rfl hscR bR hv hvk (by omega) (by omega) (by decide)) ?p1)) rfl ?p2))) ?p3) ?p4) (by walk_at "RF") (by walk_at "RF") (by walk_at "RF") (by walk_at "RF") ?_
        case p1 =>
          rintro r n' ⟨t2, j, a, b, hr, rfl⟩
          exact ⟨j, hr, a, t2, rfl⟩
        case p2 =>
          rintro v n' ⟨j, ⟨t, rfl⟩, a, t2, rfl⟩
          exact el_w el_nil (by rintro _ _ ⟨rfl, rfl⟩; exact ⟨rfl, 1 + j, t, t2, rfl, by omega, rfl⟩)
        case p3 =>
          rintro _ n' ⟨_, _, rfl, rfl, _, _, rfl, rfl, v, _, rfl, rfl, most, t, t2, rfl, h, rfl⟩
          exact ⟨most, t, t2, rfl, h, rfl⟩
        case p4 =>
          rintro _ _ ⟨most, t, t2, rfl, hmost, rfl⟩
          exact c_w (c_sub _ (fun q hq => rot4 q hq) (c_does B (does_gone (HX (n1' + 1) t2) (CX _ _) (PX _ _) I1 hmost) (by decide) (by decide))) fun r n' h => ⟨t2, h⟩
        rintro r n' ⟨t2, hr⟩
        rcases hr with ⟨hS, dc1, dp1, tl1, rfl, hab1, H1, C1, P1, D, rfl, hm⟩ | ⟨p1, S1, o, d, I2, hD2, hA2, htot, dc1, dp1, tl1, rfl, hab1, H1, C1, P1, D, pc, t5, t6, rfl, hm, hpc⟩
        · refine ⟨D, .bool true, .none, 0, rfl, .tail _ (.tail _ (sub_r _ hm)), ?_⟩
          refine s_if (t_not (t_val (b := true) (by walk_at "EV") rfl)) (fun h => nomatch h) fun _ => s_end ?_
          refine s_assignE B (ev_cat (l := lg1) (us := gs) (n := kg) (pw := fun r ws n' => ws = [] ∧ Made (two z dc1 dp1 (GX (n1' + 1) t2 ++ tl1)) (fun k => listOf [].toArray k) r n') (by walk_at "EV") (ev_if (t_isNot1 (by walk_at "EV") rfl) (fun h => nomatch h) fun _ => ev_w (ev_list (pos := _) el_nil ?q1) ?q2) ?q3) rfl (by walk_at "RF") ?_
          case q1 => rintro _ _ ⟨rfl, _⟩; exact Nat.zero_le _
          case q2 => rintro r n' ⟨_, _, ⟨rfl, rfl⟩, hm⟩; exact ⟨_, rfl, hm⟩
          case q3 =>
            rintro r ws n' ⟨rfl, Da, ka, rfl, rfl, hDa⟩
            exact ⟨sub_l _ (.tail _ (.tail _ (sub_l _ (upX _ _ _ hl)))), by rw [hg.1]; show g.length + 0 ≤ 1000; omega, Da, ka, rfl, sub_r _ (.head _)⟩
          rintro _ _ ⟨_, _, _, ⟨rfl, Da, ka, rfl, rfl, hDa⟩, Db, kb', rfl, rfl, hDb⟩
          obtain ⟨dc2, dp2, tl2, e2, hab2, H2, C2, P2, _⟩ := ext_push (R := fun _ _ => True) (r := .none) hab1 H1 C1 P1 hDa trivial
          rw [e2] at hDb ⊢
          obtain ⟨dc3, dp3, tl3, e3, hab3, H3, C3, P3, hlb⟩ := ext_push (R := fun _ t => (Db, listOf (gs ++ []).toArray kb') ∈ t) (r := .none) hab2 H2 C2 P2 hDb (sub_r _ (.head _))
          rw [e3]
          refine s_end (s_end ?_)
          exact (fin (p' := p) (lg' := Db) (gs' := gs ++ []) (by (repeat (first | exact List.forall_mem_nil _ | refine List.forall_mem_cons.mpr ⟨by with_unfolding_all rfl, ?_⟩))) rfl hab3 H3 C3 P3 I1 (sub_r _ hlb) (by rw [List.append_nil]; exact hg.mono fun q hq => sub_l _ (upX _ _ _ hq)) (by omega) (by omega) (by omega) (by omega))
        · refine ⟨D, .bool true, .ref pc, 0, rfl, .tail _ (.tail _ (sub_r _ hm)), ?_⟩
          refine s_if (t_not (t_val (b := true) (by walk_at "EV") rfl)) (fun h => nomatch h) fun _ => s_end ?_
          refine s_assignE B (ev_cat (l := lg1) (us := gs) (n := kg) (pw := fun r ws n' => ws = [.ref pc] ∧ Made (two z dc1 dp1 (GX (n1' + 1) t2 ++ tl1)) (fun k => listOf [Value.ref pc].toArray k) r n') (by walk_at "EV") (ev_if (t_isNot2 (by walk_at "EV") rfl) (fun _ => ev_w (ev_list (pos := _) (el_cons (P := (· = .ref pc)) (by walk_at "EV") rfl el_nil) ?r1) ?r2) (fun h => nomatch h)) ?r3) rfl (by walk_at "RF") ?_
          case r1 => rintro _ _ ⟨_, _, rfl, rfl, rfl, rfl⟩; exact (by decide : 1 ≤ 1000)
          case r2 => rintro r n' ⟨_, _, ⟨_, _, rfl, rfl, rfl, rfl⟩, hm⟩; exact ⟨_, rfl, hm⟩
          case r3 =>
            rintro r ws n' ⟨rfl, Da, ka, rfl, rfl, hDa⟩
            exact ⟨sub_l _ (.tail _ (.tail _ (sub_l _ (upX _ _ _ hl)))), by rw [hg.1]; show g.length + 1 ≤ 1000; omega, Da, ka, rfl, sub_r _ (.head _)⟩
          rintro _ _ ⟨_, _, _, ⟨rfl, Da, ka, rfl, rfl, hDa⟩, Db, kb', rfl, rfl, hDb⟩
          obtain ⟨dc2, dp2, tl2, e2, hab2, H2, C2, P2, hpc2⟩ := ext_push (R := fun _ t => (pc, tupO [.int o t5, .bytes d t6] 0) ∈ t) (r := .none) hab1 H1 C1 P1 hDa (sub_l _ hpc)
          rw [e2] at hDb ⊢
          obtain ⟨dc3, dp3, tl3, e3, hab3, H3, C3, P3, hlb, hpc3⟩ := ext_push (R := fun _ t => (Db, listOf (gs ++ [Value.ref pc]).toArray kb') ∈ t ∧ (pc, tupO [.int o t5, .bytes d t6] 0) ∈ t) (r := .none) hab2 H2 C2 P2 hDb ⟨sub_r _ (.head _), sub_l _ hpc2⟩
          rw [e3]
          refine s_end (s_end ?_)
          exact (fin (p' := p1) (lg' := Db) (gs' := gs ++ [.ref pc]) (by (repeat (first | exact List.forall_mem_nil _ | refine List.forall_mem_cons.mpr ⟨by with_unfolding_all rfl, ?_⟩))) rfl hab3 H3 C3 P3 I2 (sub_r _ hlb) ((hg.mono fun q hq => sub_l _ (upX _ _ _ hq)).snoc (sub_r _ hpc3)) (by rw [List.length_append, List.length_singleton]; omega) (by rw [hD2]; omega) (by omega) (by omega))
      · refine s_ifE (te_neNil (l := lg1) (us := gs) (n := kg) B (by decide) (by walk_at "EV") (.tail _ (.tail _ (.tail _ (up4 _ hl)))) rfl) (fun n' h => ?_) fun n' h => ?_
        · obtain ⟨hne, pq, rfl⟩ := h
          refine s_sub _ (sub_l (b := [pq])) ?_
          have hgs : 0 < gs.length := by
            cases gs with
            | nil => cases hne
            | cons v gs => exact Nat.succ_pos _
          have hgl : gs.length ≤ 1000 := by rw [hg.1]; omega
          refine s_unp2 (post := fun r n' => ∃ (j : Nat) (t2 : Tok), gs[j]? = some r ∧ n' = (bx, boxO sc (n1' + 1) t2 k3) :: two z dc dp G4) B (ev_w (ev_listAt (l := lg1) (us := gs) (by walk_at "EV") (ev_take (R := two z dc dp G4) (bx := bx) (sc := sc) (kb := k3) (n := n1') (tn := tk1) (many := gs.length) (us := vs) (ks := k2) B (by decide) (by decide) (by walk_at "GG") (by k_dflt k_is) (by walk_at "EV") (g_b1 (by walk_at "GB") rfl (u := .ref lg1) (by walk_at "EV") (c_len (.tail _ (.tail _ (.tail _ (up4 _ hl)))) hgl)) rfl rfl rfl hscR bR hv hvk (by omega) (by omega) (by omega)) ?s1 hgl (fun _ _ => rfl)) ?s2) (by walk_at "RF") (by walk_at "RF") (by walk_at "RF") (by walk_at "RF") ?_
          case s1 =>
            rintro r n' ⟨t2, j, a, b, ⟨t3, rfl⟩, rfl⟩
            exact ⟨j.toNat, ⟨t3, by rw [Int.toNat_of_nonneg a]⟩, by omega, kg, .tail _ (.tail _ (.tail _ (up4 _ hl)))⟩
          case s2 =>
            rintro r n' ⟨j, r', hj, t2, j', a, b, hr, rfl⟩
            exact ⟨j, t2, hj, rfl⟩
          rintro r n' ⟨j, t2, hj, rfl⟩
          obtain ⟨o, d, a, t5, t6, k6, hgj, rfl, ha⟩ := hg.2 j r hj
          refine ⟨a, .int o t5, .bytes d t6, k6, rfl, .tail _ (.tail _ (.tail _ (up4 _ ha))), ?_⟩
          have hgm : (o, d) ∈ g := List.mem_of_getElem? hgj
          obtain ⟨q0, qz, qto, _⟩ := I1.pc _ hgm
          have q0 : 0 ≤ o := q0
          have qz : 0 < d.size := qz
          have qto : o + d.size ≤ p.to := qto
          have w1 := I1.w1
          have tW := I1.tW
          have hds : d.size ≤ 1000 := by omega
          have hst : p.sent = true := I1.st (fun e => by rw [e] at hgm; cases hgm)
          have hpl : ∀ i, (woSpans [(o, o + (d.size : Int))] (p.A.take i)).length ≤ 400 := fun i => by
            have := wo_len (A := p.A) (W := 100) q0 (by omega : (0 : Int) < d.size) (by omega) i; omega
          obtain ⟨td, ld, us1, m1, la, ws, m2, hdc, c1, c2, c3, c4⟩ := CX (n1' + 1) t2
          refine s_if (t_eq (i := f) (j := 3) (by walk_at "EV") g_int rfl) (fun _ => ?_) fun _ => ?_
          · refine s_expr (post := fun _ n' => Ext z (GX (n1' + 1) t2) p (lostSp S p.A o d.size) p.A p.D (fun _ _ => True) .none n') (ev_meth (f := 91) (o := z.x) (PL := fun vs' n' => (∃ t1 t3, vs' = [.int o t1, .int d.size t3]) ∧ n' = (bx, boxO sc (n1' + 1) t2 k3) :: two z dc dp G4) B (by walk_at "EV") (by rw [hdc]; exact meths_at (n := 3) cls_cry B (.tail _ (.tail _ (.tail _ (up4 _ H.hx)))) (.tail _ (.head _)) (by k_dflt k_is) (by k_dflt k_is) rfl) (by k_dflt k_is) rfl rfl rfl (el_w (el_cons (P := IsI o) (by walk_at "EV") rfl (el_cons (g_b1 (by walk_at "GB") rfl (u := .bytes d t6) (by walk_at "EV") (c_lenB hds)) rfl el_nil)) ?u1) ?u2) rfl rfl ?_
            case u1 => rintro _ _ ⟨_, _, rfl, ⟨t1, rfl⟩, _, _, rfl, ⟨t3, rfl⟩, rfl, rfl⟩; exact ⟨⟨t1, t3, rfl⟩, rfl⟩
            case u2 =>
              rintro _ _ ⟨⟨t1, t3, rfl⟩, rfl⟩
              refine c_w (c_sub ((z.dx, cO z p.D td ld la) :: (z.dy, dp) :: GX (n1' + 1) t2) (by rw [hdc]; exact fun q hq => rot4 q hq) (c_does B (does_clost (K := GX (n1' + 1) t2) (G := (z.dy, dp) :: GX (n1' + 1) t2) (ck := z.ck) (D := p.D) (td := td) (off := o) (sz := d.size) (.tail _ (HX _ _).hx) (List.forall_mem_cons.mpr ⟨fun e => H.hd e.symm, (HX _ _).nx⟩) (.tail _ c1) (fun q hq => .tail _ hq) c3 (.tail _ c2) c4 hpl fun i => by have := all_len (S := S) (A := p.A) (W := 100) I1.cS (fun k h => by have := I1.iSW h; omega) q0 (by omega : (0 : Int) < d.size) (by omega) i; omega) (by decide) (by decide))) ?_
              intro r n' h
              obtain ⟨dc2, dp2, tl2, e2, e3, e4, e5, e6, _⟩ := cpost_two (HX _ _) (PX _ _) h
              exact ⟨dc2, dp2, tl2, e2, e3, e4, e5, e6, trivial⟩
            rintro _ n' ⟨dc1, dp1, tl1, rfl, hab1, H1, C1, P1, _⟩
            obtain ⟨v3, rfl, hP3⟩ := P1
            refine s_expr (post := fun _ n' => ∃ n2, (∀ q ∈ n2, q ∈ n') ∧ Ext z (GX (n1' + 1) t2 ++ tl1) { p with L := lostSp p.L p.A o d.size } (lostSp S p.A o d.size) p.A p.D (fun _ _ => True) .none n2) (ev_meth (f := 231) (o := z.y) (PL := fun vs' n' => (∃ t1 t3, vs' = [.int o t1, .int d.size t3, .bool false]) ∧ n' = two z dc1 (dictOf (parV z.pk p v3) 11) (GX (n1' + 1) t2 ++ tl1)) B (by walk_at "EV") (meths_at (n := 11) cls_part B (.tail _ (.tail _ H1.hy)) (.tail _ (.head _)) (by k_dflt k_is) (by k_dflt k_is) rfl) (by k_dflt k_is) rfl rfl rfl (el_w (el_cons (P := IsI o) (by walk_at "EV") rfl (el_cons (g_b1 (by walk_at "GB") rfl (u := .bytes d t6) (by walk_at "EV") (c_lenB hds)) rfl (el_cons g_bool rfl el_nil))) ?u3) ?u4) rfl rfl ?_
            case u3 => rintro _ _ ⟨_, _, rfl, ⟨t1, rfl⟩, _, _, rfl, ⟨t3, rfl⟩, _, _, rfl, rfl, rfl, rfl⟩; exact ⟨⟨t1, t3, rfl⟩, rfl⟩
            case u4 =>
              rintro _ _ ⟨⟨t1, t3, rfl⟩, rfl⟩
              refine c_w (c_sub _ two_swap (c_does B (does_plost (K := GX (n1' + 1) t2 ++ tl1) (G := (z.dx, dc1) :: (GX (n1' + 1) t2 ++ tl1)) (pk := z.pk) (p := p) (v := v3) (off := o) (sz := d.size) (.tail _ H1.hy) (List.forall_mem_cons.mpr ⟨H.hd, H1.ny⟩) (fun q hq => .tail _ hq) ⟨.tail _ hP3.1, .tail _ hP3.2.1, hP3.2.2.1, hP3.2.2.2⟩ hst (by omega) hpl fun i => by have := all_len (S := p.L) (A := p.A) (W := 100) I1.cL (fun k h => by have := I1.iL k h; omega) q0 (by omega : (0 : Int) < d.size) (by omega) i; omega) (by decide) (by decide))) ?_
              intro r n' h
              obtain ⟨n2, e1, dc2, dp2, tl2, e2, e3, e4, e5, e6, _⟩ := ppost_two H1 C1 h
              exact ⟨n2, e1, dc2, dp2, tl2, e2, e3, e4, e5, e6, trivial⟩
            rintro _ n' ⟨n2, hsub, hE⟩
            obtain ⟨dc2, dp2, tl2, rfl, hab2, H2, C2, P2, _⟩ := ext_trans (R' := fun _ _ => True) hab1 hE fun _ _ => trivial
            refine s_sub _ hsub (s_end (s_end (s_end (s_end ?_))))
            exact fin (p' := { p with L := lostSp p.L p.A o d.size }) (by (repeat (first | exact List.forall_mem_nil _ | refine List.forall_mem_cons.mpr ⟨by with_unfolding_all rfl, ?_⟩))) rfl hab2 H2 C2 P2 (inv_lost I1 q0 (by omega) qto) (sub_l _ (upX _ _ _ hl)) (hg.mono fun q hq => sub_l _ (upX _ _ _ hq)) (by omega) (by show p.D.size ≤ _; omega) (by omega) (by omega)
          · refine s_expr (post := fun _ n' => Ext z (GX (n1' + 1) t2) p (cutSpan S o (o + d.size)) (addSpan p.A o (o + d.size)) p.D (fun _ _ => True) .none n') (ev_meth (f := 98) (o := z.x) (PL := fun vs' n' => (∃ t1 t3, vs' = [.int o t1, .int d.size t3]) ∧ n' = (bx, boxO sc (n1' + 1) t2 k3) :: two z dc dp G4) B (by walk_at "EV") (by rw [hdc]; exact meths_at (n := 3) cls_cry B (.tail _ (.tail _ (.tail _ (up4 _ H.hx)))) (.tail _ (.head _)) (by k_dflt k_is) (by k_dflt k_is) rfl) (by k_dflt k_is) rfl rfl rfl (el_w (el_cons (P := IsI o) (by walk_at "EV") rfl (el_cons (g_b1 (by walk_at "GB") rfl (u := .bytes d t6) (by walk_at "EV") (c_lenB hds)) rfl el_nil)) ?w1) ?w2) rfl rfl ?_
            case w1 => rintro _ _ ⟨_, _, rfl, ⟨t1, rfl⟩, _, _, rfl, ⟨t3, rfl⟩, rfl, rfl⟩; exact ⟨⟨t1, t3, rfl⟩, rfl⟩
            case w2 =>
              rintro _ _ ⟨⟨t1, t3, rfl⟩, rfl⟩
              refine c_w (c_sub ((z.dx, cO z p.D td ld la) :: (z.dy, dp) :: GX (n1' + 1) t2) (by rw [hdc]; exact fun q hq => rot4 q hq) (c_does B (does_cack (K := GX (n1' + 1) t2) (G := (z.dy, dp) :: GX (n1' + 1) t2) (ck := z.ck) (D := p.D) (td := td) (off := o) (sz := d.size) (.tail _ (HX _ _).hx) (List.forall_mem_cons.mpr ⟨fun e => H.hd e.symm, (HX _ _).nx⟩) (.tail _ c1) (fun q hq => .tail _ hq) c3 (.tail _ c2) c4 I1.lS I1.lA) (by decide) (by decide))) ?_
              intro r n' h
              obtain ⟨dc2, dp2, tl2, e2, e3, e4, e5, e6, _⟩ := cpost_two (HX _ _) (PX _ _) h
              exact ⟨dc2, dp2, tl2, e2, e3, e4, e5, e6, trivial⟩
            rintro _ n' ⟨dc1, dp1, tl1, rfl, hab1, H1, C1, P1, _⟩
            obtain ⟨v3, rfl, hP3⟩ := P1
            refine s_expr (post := fun _ n' => ∃ n2, (∀ q ∈ n2, q ∈ n') ∧ Ext z (GX (n1' + 1) t2 ++ tl1) { p with A := addSpan p.A o (o + d.size), L := cutSpan p.L o (o + d.size) } (cutSpan S o (o + d.size)) (addSpan p.A o (o + d.size)) p.D (fun _ _ => True) .none n2) (ev_meth (f := 224) (o := z.y) (PL := fun vs' n' => (∃ t1 t3, vs' = [.int o t1, .int d.size t3, .bool false]) ∧ n' = two z dc1 (dictOf (parV z.pk p v3) 11) (GX (n1' + 1) t2 ++ tl1)) B (by walk_at "EV") (meths_at (n := 11) cls_part B (.tail _ (.tail _ H1.hy)) (.tail _ (.head _)) (by k_dflt k_is) (by k_dflt k_is) rfl) (by k_dflt k_is) rfl rfl rfl (el_w (el_cons (P := IsI o) (by walk_at "EV") rfl (el_cons (g_b1 (by walk_at "GB") rfl (u := .bytes d t6) (by walk_at "EV") (c_lenB hds)) rfl (el_cons g_bool rfl el_nil))) ?w3) ?w4) rfl rfl ?_
            case w3 => rintro _ _ ⟨_, _, rfl, ⟨t1, rfl⟩, _, _, rfl, ⟨t3, rfl⟩, _, _, rfl, rfl, rfl, rfl⟩; exact ⟨⟨t1, t3, rfl⟩, rfl⟩
            case w4 =>
              rintro _ _ ⟨⟨t1, t3, rfl⟩, rfl⟩
              refine c_w (c_sub _ two_swap (c_does B (does_pack (K := GX (n1' + 1) t2 ++ tl1) (G := (z.dx, dc1) :: (GX (n1' + 1) t2 ++ tl1)) (pk := z.pk) (p := p) (v := v3) (off := o) (sz := d.size) (.tail _ H1.hy) (List.forall_mem_cons.mpr ⟨H.hd, H1.ny⟩) (fun q hq => .tail _ hq) ⟨.tail _ hP3.1, .tail _ hP3.2.1, hP3.2.2.1, hP3.2.2.2⟩ I1.lL I1.lA) (by decide) (by decide))) ?_
              intro r n' h
              obtain ⟨n2, e1, dc2, dp2, tl2, e2, e3, e4, e5, e6, _⟩ := ppost_two H1 C1 h
              exact ⟨n2, e1, dc2, dp2, tl2, e2, e3, e4, e5, e6, trivial⟩
            rintro _ n' ⟨n2, hsub, hE⟩
            obtain ⟨dc2, dp2, tl2, rfl, hab2, H2, C2, P2, _⟩ := ext_trans (R' := fun _ _ => True) hab1 hE fun _ _ => trivial
            refine s_sub _ hsub (s_end (s_end (s_end (s_end ?_))))
            exact fin (p' := { p with A := addSpan p.A o (o + d.size), L := cutSpan p.L o (o + d.size) }) (by (repeat (first | exact List.forall_mem_nil _ | refine List.forall_mem_cons.mpr ⟨by with_unfolding_all rfl, ?_⟩))) rfl hab2 H2 C2 P2 (inv_acked I1 q0 qto) (sub_l _ (upX _ _ _ hl)) (hg.mono fun q hq => sub_l _ (upX _ _ _ hq)) (by omega) (by show p.D.size ≤ _; omega) (by omega) (by omega)
        · obtain ⟨_, pq, rfl⟩ := h
          refine s_sub (two z dc dp (GX n1' tk1 ++ [])) (fun q hq => ?_) (s_end (s_end (s_end ?_)))
          · rw [List.append_nil] at hq
            exact sub_l _ (rot4 q hq)
          · have e0 : ∀ n' t', GX n' t' ++ [] = GX n' t' := fun _ _ => List.append_nil _
            exact fin (p' := p) (lg' := lg1) (gs' := gs) (kg' := kg) (by (repeat (first | exact List.forall_mem_nil _ | refine List.forall_mem_cons.mpr ⟨by with_unfolding_all rfl, ?_⟩))) rfl (fun _ _ _ h => nomatch h) (by rw [e0]; exact HX _ _) (by rw [e0]; exact CX _ _) (by rw [e0]; exact PX _ _) I1 (sub_l _ (upX _ _ _ hl)) (hg.mono fun q hq => sub_l _ (upX _ _ _ hq)) (by omega) (by omega) (by omega) (by omega)
  · rintro ⟨dc, dp, p, S, g, T, lg1, gs, kg, n, tn⟩ u ⟨H, C, P, I1, hl, hg, hb, hD, n0, n1, nb⟩ mt nt
    have H' : Hn z (G0 ++ T) := H
    have C' : CI z (G0 ++ T) dc p.D S p.A := C
    have P' : PI z (G0 ++ T) dp p := P
    have nb' : ∀ q ∈ G0 ++ T, q.1 ≠ bx := nb
    let GX : Led := (bx, boxO sc n tn k3) :: (G0 ++ T)
    have up : ∀ q ∈ G0 ++ T, q ∈ GX := fun q hq => .tail _ hq
    have HX : Hn z GX := ⟨up _ H'.hx, up _ H'.hy, H'.hd, List.forall_mem_cons.mpr ⟨fun e => dxb e.symm, H'.nx⟩, List.forall_mem_cons.mpr ⟨fun e => dyb e.symm, H'.ny⟩⟩
    refine s_sub (two z dc dp GX) (fun q hq => ?_) ?_
    · rcases List.mem_cons.mp hq with rfl | hq
      · exact .tail _ (.head _)
      · rcases List.mem_cons.mp hq with rfl | hq
        · exact .tail _ (.tail _ (.head _))
        · rcases List.mem_cons.mp hq with rfl | hq
          · exact .head _
          · exact .tail _ (.tail _ (.tail _ hq))
    refine s_retE (post := fun r _ => r = .bool true) (ev_call (f := 285) (PL := fun vs' n' => vs' = [.ref z.x, .ref z.y, .ref lg1] ∧ n' = two z dc dp GX) B (by walk_at "GG") (by k_dflt k_is) rfl rfl (el_w (el_cons (P := (· = .ref z.x)) (by walk_at "EV") rfl (el_cons (P := (· = .ref z.y)) (by walk_at "EV") rfl (el_cons (P := (· = .ref lg1)) (by walk_at "EV") rfl el_nil))) ?_) ?_) fun v n' hv => h_ends [] hv (List.forall_mem_nil _)
    · rintro _ _ ⟨_, _, rfl, rfl, _, _, rfl, rfl, _, _, rfl, rfl, rfl, rfl⟩; exact ⟨rfl, rfl⟩
    · rintro _ _ ⟨rfl, rfl⟩
      have hb' : g.length ≤ N := hb
      exact c_does B (does_rest HX (C'.sub up) (P'.sub up) I1 (up _ hl) (GAll.mono hg up) (by omega)) (by decide) (by decide)

theorem lawFor_get {f : Addr} {post : Value → Led → Prop} (h : LawFor f post) {name qual : Str} {params : Arguments} {body : List Stmt} {scope : Scope} {dV kV doc pm cdv ct oc : Value} {an od : Option Addr} {osl : Array (Option Value)} (w : World)
    (ho : (Mine.K w.params).lookup f = some ⟨oc, od, .func (fnOf name qual params body scope dV kV doc pm an cdv ct), osl⟩) :
    ∀ (c0 : Cx) (qual : Str) (fa : Addr) (cd : Value) (sl : Addr) (us : List Value) (ns : List Int) (u : Fm), let c : Cx := { c0 with cn := qual, cs := scope, a := fa, ccd := cd, cl := [] }
      let qe : Flow → Shared → Prop := Ends c post
      Bd c 6 80 → c.g.IsList sl us.toArray → IntsAre us ns → ns.length ≤ 63 → RunS c (ov [(Str.ofString "script", .ref sl)] u) [] body qe := by
  have := h w
  rw [ho] at this
  exact this
theorem law_entry (hl : LawFor 292 (fun r _ => r = .bool true)) {name qual : Str} {params : Arguments} {body : List Stmt} {scope : Scope} {dV kV doc pm cdv ct oc : Value} {an od : Option Addr} {osl : Array (Option Value)} {w : World} {p : Program} {loose : List Str} {mean : ExcName → Option Value} {mg mb : Str → Option Value} {g h : Heap} {L fa sl : Addr} {m : Fm} {cd : Value} {us : List Value} {ns : List Int} {E : Value → Shared → Prop} {Q : Flow → Shared → Prop} {gs : Array GenState} {dr : Drawn} {tk : Nat} {os : OsState}
    (F : Fr g L h m) (N : News g L h []) (K0 : Below callerA g [] g) (X : (Mine.K w.params).In g) (T : Top p loose mean mg mb g) (hL : g.IsList sl us.toArray) (hI : IntsAre us ns) (h63 : ns.length ≤ 63)
    (ho : (Mine.K w.params).lookup 292 = some ⟨oc, od, .func (fnOf name qual params body scope dV kV doc pm an cdv ct), osl⟩) (hk : scope.kind = .function) (hm : m (Str.ofString "script") = some (.ref sl))
    (hE : PassesOwn (model PySem.Challenge.rw_sa0569_01.row.prog w) (callerA.deeper (envOf qual scope L fa cd)) (envOf qual scope L fa cd) E)
    (hQ : ∀ h' tk m' news', Fr g L h' m' → News g L h' news' → Q (.ret (.bool true)) ⟨h', gs, dr, tk, os⟩) :
    wpAny (model PySem.Challenge.rw_sa0569_01.row.prog w) (callerA.deeper (envOf qual scope L fa cd)) (execs body (envOf qual scope L fa cd)) Q E ⟨h, gs, dr, tk, os⟩ := by
  have hr := lawFor_get hl w ho ⟨w, p, loose, mean, mg, mb, callerA.depth + 1, callerA.units + 3, some [], qual, scope, L, fa, cd, [], [], callerA, g, g, E, gs, dr, os⟩ qual fa cd sl us ns m ⟨K0, X, T, hE, hk, by show callerA.depth + 1 + 6 < recursionLimit + 1; decide +kernel, by show callerA.units + 3 + 80 < cLine + 3; decide +kernel⟩ hL hI h63
  have F1 : Fr g L h (ov [(Str.ofString "script", .ref sl)] m) := by
    rw [← ov_eq (List.forall_mem_cons.mpr ⟨hm, List.forall_mem_nil _⟩)]; exact F
  refine wpAny_mono (hr h tk F1 N) (fun fl s' he => ?_) fun _ _ e => e
  obtain ⟨h', tk', m', news', rfl, F', N', hp⟩ := he
  cases fl with
  | ret v =>
    have hp : v = .bool true := hp
    rw [hp]
    exact hQ h' tk' m' news' F' N'
  | next => cases hp
  | brk => cases hp
  | cont => cases hp

/-! the heap at three statements of the top -/
noncomputable def st (s : String) (t : Nat) : Value := .str (Str.ofString s) t
noncomputable def fdm (s : Stmt) (q : Str) (t0 : Addr) (t1 : List (Str × Addr)) (t2 t3 t4 t5 : Value) (t6 : Option Addr) (t7 t8 : Value) (t9 : Addr) : FuncData := match s with
  | .FunctionDef n a b _ _ _ sc _ _ _ => FuncData.mk n q a (.stmts b) sc t0 t1 t2 t3 t4 t5 t6 t7 t8 t9
  | _ => default
noncomputable def lif : Life := Life.mk [] [] [] 0 [] [] Bool.false (Array.mk []) [] 0 Bool.false Bool.false Bool.false 0 [2000, 10, 10] Bool.false 0 Bool.true [] [] 0 Bool.false
noncomputable def ob11 (P : Params) : Obj := Obj.mk (Value.type "tuple") Option.none (Data.seq (Array.mk []) 0) (Array.mk [])
noncomputable def ob12 (P : Params) : Obj := Obj.mk Value.none Option.none (Data.fields (Array.mk [])) (Array.mk [])
noncomputable def ob13 (P : Params) : Obj := Obj.mk (Value.type "code") Option.none (Data.fields (Array.mk [st "<module>" 182, st "<module>" 183, st "/claim/cut.py" 184, Value.int 1 0, Value.int 0 0, Value.int 0 0, Value.int 0 0, Value.int 0 0, Value.ref 11, Value.bool Bool.false, Value.int 181 0, Value.ref 12, Value.none, Value.none, Value.none, Value.none, Value.int 185 0, Value.int 1 0, st "/claim/cut.py" 186])) (Array.mk [])
noncomputable def ob14 (P : Params) : Obj := Obj.mk (Value.type "frame") Option.none Data.plain (Array.mk [Option.some (Value.ref 13), Option.some (Value.ref 3), Option.some (Value.ref 3), Option.none, Option.some (st "__main__" 164), Option.none, Option.some (Value.ref 0)])
noncomputable def ob3 (P : Params) : Obj := Obj.mk (Value.type "dict") Option.none (Data.dict (Array.mk [en P (Str.ofString "__name__") 165 (st "quic.errors" 329), en P (Str.ofString "__doc__") 166 Value.none, en P (Str.ofString "__package__") 167 Value.none, en P (Str.ofString "__loader__") 168 (Value.builtin "__main__.__loader__#opaque"), en P (Str.ofString "__spec__") 169 Value.none, en P (Str.ofString "__annotations__") 170 (Value.ref 6), en P (Str.ofString "__builtins__") 171 (Value.ref 4), en P (Str.ofString "__file__") 173 (st "/claim/cut.py" 172), en P (Str.ofString "__cached__") 174 Value.none, en P (Str.ofString "_wall") 193 (Value.ref 21), en P (Str.ofString "add_span") 208 (Value.ref 28), en P (Str.ofString "cut_span") 220 (Value.ref 35), en P (Str.ofString "has_span") 231 (Value.ref 42), en P (Str.ofString "first_span") 241 (Value.ref 49), en P (Str.ofString "without_spans") 252 (Value.ref 56), en P (Str.ofString "CryptoOut") 328 (Value.ref 108), en P (Str.ofString "STREAM_STATE_ERROR") 332 (Value.int 5 331)]) 17) (Array.mk [])
noncomputable def ob12b (P : Params) : Obj := Obj.mk Value.none Option.none (Data.fields (Array.mk [Value.int 1 0, Value.int 0 0, Value.ref 20, Value.int 5 0, Value.int 0 0, Value.ref 27, Value.int 20 0, Value.int 0 0, Value.ref 34, Value.int 28 0, Value.int 0 0, Value.ref 41, Value.int 35 0, Value.int 0 0, Value.ref 48, Value.int 40 0, Value.int 0 0, Value.ref 55, Value.int 46 0, Value.int 0 0, Value.ref 62])) (Array.mk [])
noncomputable def ob15 (P : Params) : Obj := Obj.mk (Value.type "tuple") Option.none (Data.seq (Array.mk []) 0) (Array.mk [])
noncomputable def ob16 (P : Params) : Obj := Obj.mk Value.none Option.none (Data.fields (Array.mk [])) (Array.mk [])
noncomputable def ob17 (P : Params) : Obj := Obj.mk (Value.type "tuple") Option.none (Data.seq (Array.mk [st "k" 190]) 0) (Array.mk [])
noncomputable def ob18 (P : Params) : Obj := Obj.mk (Value.type "tuple") Option.none (Data.seq (Array.mk []) 0) (Array.mk [])
noncomputable def ob19 (P : Params) : Obj := Obj.mk Value.none Option.none (Data.func (fdm (top 0) (Str.ofString "_wall") 0 [] Value.none Value.none Value.none Value.none Option.none Value.none Value.none 0)) (Array.mk [])
noncomputable def ob20 (P : Params) : Obj := Obj.mk (Value.type "code") Option.none (Data.fields (Array.mk [st "_wall" 187, st "_wall" 188, st "/claim/cut.py" 189, Value.int 1 0, Value.int 1 0, Value.int 0 0, Value.int 0 0, Value.int 3 0, Value.ref 15, Value.bool Bool.true, Value.int 181 0, Value.ref 16, Value.none, Value.ref 17, Value.ref 18, Value.ref 19, Value.int 191 0, Value.int 1 0, st "/claim/cut.py" 192])) (Array.mk [])
noncomputable def ob21 (P : Params) : Obj := Obj.mk (Value.type "function") Option.none (Data.func (fdm (top 0) (Str.ofString "_wall") 3 [] Value.none Value.none Value.none (st "__main__" 164) Option.none (Value.ref 20) Value.none 0)) (Array.mk [])
noncomputable def ob22 (P : Params) : Obj := Obj.mk (Value.type "tuple") Option.none (Data.seq (Array.mk []) 0) (Array.mk [])
noncomputable def ob23 (P : Params) : Obj := Obj.mk Value.none Option.none (Data.fields (Array.mk [])) (Array.mk [])
noncomputable def ob24 (P : Params) : Obj := Obj.mk (Value.type "tuple") Option.none (Data.seq (Array.mk [st "spans" 199, st "low" 200, st "high" 201, st "found" 202, st "is_put" 203, st "one" 204, st "other" 205]) 0) (Array.mk [])
noncomputable def ob25 (P : Params) : Obj := Obj.mk (Value.type "tuple") Option.none (Data.seq (Array.mk []) 0) (Array.mk [])
noncomputable def ob26 (P : Params) : Obj := Obj.mk Value.none Option.none (Data.func (fdm (top 2) (Str.ofString "add_span") 0 [] Value.none Value.none Value.none Value.none Option.none Value.none Value.none 0)) (Array.mk [])
noncomputable def ob27 (P : Params) : Obj := Obj.mk (Value.type "code") Option.none (Data.fields (Array.mk [st "add_span" 196, st "add_span" 197, st "/claim/cut.py" 198, Value.int 5 0, Value.int 3 0, Value.int 0 0, Value.int 0 0, Value.int 3 0, Value.ref 22, Value.bool Bool.true, Value.int 181 0, Value.ref 23, Value.none, Value.ref 24, Value.ref 25, Value.ref 26, Value.int 206 0, Value.int 5 0, st "/claim/cut.py" 207])) (Array.mk [])
noncomputable def ob28 (P : Params) : Obj := Obj.mk (Value.type "function") Option.none (Data.func (fdm (top 2) (Str.ofString "add_span") 3 [] Value.none Value.none Value.none (st "quic.spans" 194) Option.none (Value.ref 27) Value.none 0)) (Array.mk [])
noncomputable def ob29 (P : Params) : Obj := Obj.mk (Value.type "tuple") Option.none (Data.seq (Array.mk []) 0) (Array.mk [])
noncomputable def ob30 (P : Params) : Obj := Obj.mk Value.none Option.none (Data.fields (Array.mk [])) (Array.mk [])
noncomputable def ob31 (P : Params) : Obj := Obj.mk (Value.type "tuple") Option.none (Data.seq (Array.mk [st "spans" 212, st "low" 213, st "high" 214, st "found" 215, st "one" 216, st "other" 217]) 0) (Array.mk [])
noncomputable def ob32 (P : Params) : Obj := Obj.mk (Value.type "tuple") Option.none (Data.seq (Array.mk []) 0) (Array.mk [])
noncomputable def ob33 (P : Params) : Obj := Obj.mk Value.none Option.none (Data.func (fdm (top 3) (Str.ofString "cut_span") 0 [] Value.none Value.none Value.none Value.none Option.none Value.none Value.none 0)) (Array.mk [])
noncomputable def ob34 (P : Params) : Obj := Obj.mk (Value.type "code") Option.none (Data.fields (Array.mk [st "cut_span" 209, st "cut_span" 210, st "/claim/cut.py" 211, Value.int 20 0, Value.int 3 0, Value.int 0 0, Value.int 0 0, Value.int 3 0, Value.ref 29, Value.bool Bool.true, Value.int 181 0, Value.ref 30, Value.none, Value.ref 31, Value.ref 32, Value.ref 33, Value.int 218 0, Value.int 20 0, st "/claim/cut.py" 219])) (Array.mk [])
noncomputable def ob35 (P : Params) : Obj := Obj.mk (Value.type "function") Option.none (Data.func (fdm (top 3) (Str.ofString "cut_span") 3 [] Value.none Value.none Value.none (st "quic.spans" 194) Option.none (Value.ref 34) Value.none 0)) (Array.mk [])
noncomputable def ob36 (P : Params) : Obj := Obj.mk (Value.type "tuple") Option.none (Data.seq (Array.mk []) 0) (Array.mk [])
noncomputable def ob37 (P : Params) : Obj := Obj.mk Value.none Option.none (Data.fields (Array.mk [])) (Array.mk [])
noncomputable def ob38 (P : Params) : Obj := Obj.mk (Value.type "tuple") Option.none (Data.seq (Array.mk [st "spans" 224, st "low" 225, st "high" 226, st "one" 227, st "other" 228]) 0) (Array.mk [])
noncomputable def ob39 (P : Params) : Obj := Obj.mk (Value.type "tuple") Option.none (Data.seq (Array.mk []) 0) (Array.mk [])
noncomputable def ob40 (P : Params) : Obj := Obj.mk Value.none Option.none (Data.func (fdm (top 4) (Str.ofString "has_span") 0 [] Value.none Value.none Value.none Value.none Option.none Value.none Value.none 0)) (Array.mk [])
noncomputable def ob41 (P : Params) : Obj := Obj.mk (Value.type "code") Option.none (Data.fields (Array.mk [st "has_span" 221, st "has_span" 222, st "/claim/cut.py" 223, Value.int 28 0, Value.int 3 0, Value.int 0 0, Value.int 0 0, Value.int 3 0, Value.ref 36, Value.bool Bool.true, Value.int 181 0, Value.ref 37, Value.none, Value.ref 38, Value.ref 39, Value.ref 40, Value.int 229 0, Value.int 28 0, st "/claim/cut.py" 230])) (Array.mk [])
noncomputable def ob42 (P : Params) : Obj := Obj.mk (Value.type "function") Option.none (Data.func (fdm (top 4) (Str.ofString "has_span") 3 [] Value.none Value.none Value.none (st "quic.spans" 194) Option.none (Value.ref 41) Value.none 0)) (Array.mk [])
noncomputable def ob43 (P : Params) : Obj := Obj.mk (Value.type "tuple") Option.none (Data.seq (Array.mk []) 0) (Array.mk [])
noncomputable def ob44 (P : Params) : Obj := Obj.mk Value.none Option.none (Data.fields (Array.mk [])) (Array.mk [])
noncomputable def ob45 (P : Params) : Obj := Obj.mk (Value.type "tuple") Option.none (Data.seq (Array.mk [st "spans" 235, st "most" 236, st "low" 237, st "high" 238]) 0) (Array.mk [])
noncomputable def ob46 (P : Params) : Obj := Obj.mk (Value.type "tuple") Option.none (Data.seq (Array.mk []) 0) (Array.mk [])
noncomputable def ob47 (P : Params) : Obj := Obj.mk Value.none Option.none (Data.func (fdm (top 5) (Str.ofString "first_span") 0 [] Value.none Value.none Value.none Value.none Option.none Value.none Value.none 0)) (Array.mk [])
noncomputable def ob48 (P : Params) : Obj := Obj.mk (Value.type "code") Option.none (Data.fields (Array.mk [st "first_span" 232, st "first_span" 233, st "/claim/cut.py" 234, Value.int 35 0, Value.int 2 0, Value.int 0 0, Value.int 0 0, Value.int 3 0, Value.ref 43, Value.bool Bool.true, Value.int 181 0, Value.ref 44, Value.none, Value.ref 45, Value.ref 46, Value.ref 47, Value.int 239 0, Value.int 35 0, st "/claim/cut.py" 240])) (Array.mk [])
noncomputable def ob49 (P : Params) : Obj := Obj.mk (Value.type "function") Option.none (Data.func (fdm (top 5) (Str.ofString "first_span") 3 [] Value.none Value.none Value.none (st "quic.spans" 194) Option.none (Value.ref 48) Value.none 0)) (Array.mk [])
noncomputable def ob50 (P : Params) : Obj := Obj.mk (Value.type "tuple") Option.none (Data.seq (Array.mk []) 0) (Array.mk [])
noncomputable def ob51 (P : Params) : Obj := Obj.mk Value.none Option.none (Data.fields (Array.mk [])) (Array.mk [])
noncomputable def ob52 (P : Params) : Obj := Obj.mk (Value.type "tuple") Option.none (Data.seq (Array.mk [st "spans" 245, st "others" 246, st "found" 247, st "low" 248, st "high" 249]) 0) (Array.mk [])
noncomputable def ob53 (P : Params) : Obj := Obj.mk (Value.type "tuple") Option.none (Data.seq (Array.mk []) 0) (Array.mk [])
noncomputable def ob54 (P : Params) : Obj := Obj.mk Value.none Option.none (Data.func (fdm (top 6) (Str.ofString "without_spans") 0 [] Value.none Value.none Value.none Value.none Option.none Value.none Value.none 0)) (Array.mk [])
noncomputable def ob55 (P : Params) : Obj := Obj.mk (Value.type "code") Option.none (Data.fields (Array.mk [st "without_spans" 242, st "without_spans" 243, st "/claim/cut.py" 244, Value.int 40 0, Value.int 2 0, Value.int 0 0, Value.int 0 0, Value.int 3 0, Value.ref 50, Value.bool Bool.true, Value.int 181 0, Value.ref 51, Value.none, Value.ref 52, Value.ref 53, Value.ref 54, Value.int 250 0, Value.int 40 0, st "/claim/cut.py" 251])) (Array.mk [])
noncomputable def ob56 (P : Params) : Obj := Obj.mk (Value.type "function") Option.none (Data.func (fdm (top 6) (Str.ofString "without_spans") 3 [] Value.none Value.none Value.none (st "quic.spans" 194) Option.none (Value.ref 55) Value.none 0)) (Array.mk [])
noncomputable def ob57 (P : Params) : Obj := Obj.mk (Value.type "tuple") Option.none (Data.seq (Array.mk []) 0) (Array.mk [])
noncomputable def ob58 (P : Params) : Obj := Obj.mk (Value.type "builtin_function_or_method") Option.none (Data.fields (Array.mk [Value.builtin "type.__prepare__", Value.type "type"])) (Array.mk [])
noncomputable def ob59 (P : Params) : Obj := Obj.mk (Value.type "dict") Option.none (Data.dict (Array.mk [en P (Str.ofString "__module__") 262 (st "quic.cryptostream" 253), en P (Str.ofString "__qualname__") 264 (st "CryptoOut" 263), en P (Str.ofString "__firstlineno__") 266 (Value.int 46 265), en P (Str.ofString "__init__") 273 (Value.ref 70), en P (Str.ofString "put") 281 (Value.ref 77), en P (Str.ofString "next_chunk") 290 (Value.ref 84), en P (Str.ofString "on_lost") 301 (Value.ref 91), en P (Str.ofString "on_acked") 310 (Value.ref 98), en P (Str.ofString "is_done") 317 (Value.ref 105), en P (Str.ofString "__static_attributes__") 321 (Value.ref 106)]) 10) (Array.mk [])
noncomputable def ob60 (P : Params) : Obj := Obj.mk (Value.type "tuple") Option.none (Data.seq (Array.mk []) 0) (Array.mk [])
noncomputable def ob61 (P : Params) : Obj := Obj.mk Value.none Option.none (Data.fields (Array.mk [Value.int 48 0, Value.int 4 0, Value.ref 69, Value.int 53 0, Value.int 4 0, Value.ref 76, Value.int 57 0, Value.int 4 0, Value.ref 83, Value.int 64 0, Value.int 4 0, Value.ref 90, Value.int 68 0, Value.int 4 0, Value.ref 97, Value.int 72 0, Value.int 4 0, Value.ref 104])) (Array.mk [])
noncomputable def ob62 (P : Params) : Obj := Obj.mk (Value.type "code") Option.none (Data.fields (Array.mk [st "CryptoOut" 257, st "CryptoOut" 258, st "/claim/cut.py" 259, Value.int 46 0, Value.int 0 0, Value.int 0 0, Value.int 0 0, Value.int 0 0, Value.ref 60, Value.bool Bool.false, Value.int 181 0, Value.ref 61, Value.none, Value.none, Value.none, Value.none, Value.int 260 0, Value.int 46 0, st "/claim/cut.py" 261])) (Array.mk [])
noncomputable def ob63 (P : Params) : Obj := Obj.mk (Value.type "frame") Option.none Data.plain (Array.mk [Option.some (Value.ref 62), Option.some (Value.ref 3), Option.some (Value.ref 59), Option.none, Option.some (st "quic.cryptostream" 253), Option.none, Option.some (Value.ref 0)])
noncomputable def ob64 (P : Params) : Obj := Obj.mk (Value.type "tuple") Option.none (Data.seq (Array.mk []) 0) (Array.mk [])
noncomputable def ob65 (P : Params) : Obj := Obj.mk Value.none Option.none (Data.fields (Array.mk [])) (Array.mk [])
noncomputable def ob66 (P : Params) : Obj := Obj.mk (Value.type "tuple") Option.none (Data.seq (Array.mk [st "self" 270]) 0) (Array.mk [])
noncomputable def ob67 (P : Params) : Obj := Obj.mk (Value.type "tuple") Option.none (Data.seq (Array.mk []) 0) (Array.mk [])
noncomputable def ob68 (P : Params) : Obj := Obj.mk Value.none Option.none (Data.func (fdm (meth 8 0) (Str.ofString "CryptoOut.__init__") 0 [] Value.none Value.none Value.none Value.none Option.none Value.none Value.none 0)) (Array.mk [])
noncomputable def ob69 (P : Params) : Obj := Obj.mk (Value.type "code") Option.none (Data.fields (Array.mk [st "__init__" 267, st "CryptoOut.__init__" 268, st "/claim/cut.py" 269, Value.int 48 0, Value.int 1 0, Value.int 0 0, Value.int 0 0, Value.int 3 0, Value.ref 64, Value.bool Bool.true, Value.int 181 0, Value.ref 65, Value.none, Value.ref 66, Value.ref 67, Value.ref 68, Value.int 271 0, Value.int 48 0, st "/claim/cut.py" 272])) (Array.mk [])
noncomputable def ob70 (P : Params) : Obj := Obj.mk (Value.type "function") Option.none (Data.func (fdm (meth 8 0) (Str.ofString "CryptoOut.__init__") 3 [] Value.none Value.none Value.none (st "quic.cryptostream" 253) Option.none (Value.ref 69) Value.none 0)) (Array.mk [])
noncomputable def ob71 (P : Params) : Obj := Obj.mk (Value.type "tuple") Option.none (Data.seq (Array.mk []) 0) (Array.mk [])
noncomputable def ob72 (P : Params) : Obj := Obj.mk Value.none Option.none (Data.fields (Array.mk [])) (Array.mk [])
noncomputable def ob73 (P : Params) : Obj := Obj.mk (Value.type "tuple") Option.none (Data.seq (Array.mk [st "self" 277, st "data" 278]) 0) (Array.mk [])
noncomputable def ob74 (P : Params) : Obj := Obj.mk (Value.type "tuple") Option.none (Data.seq (Array.mk []) 0) (Array.mk [])
noncomputable def ob75 (P : Params) : Obj := Obj.mk Value.none Option.none (Data.func (fdm (meth 8 1) (Str.ofString "CryptoOut.put") 0 [] Value.none Value.none Value.none Value.none Option.none Value.none Value.none 0)) (Array.mk [])
noncomputable def ob76 (P : Params) : Obj := Obj.mk (Value.type "code") Option.none (Data.fields (Array.mk [st "put" 274, st "CryptoOut.put" 275, st "/claim/cut.py" 276, Value.int 53 0, Value.int 2 0, Value.int 0 0, Value.int 0 0, Value.int 3 0, Value.ref 71, Value.bool Bool.true, Value.int 181 0, Value.ref 72, Value.none, Value.ref 73, Value.ref 74, Value.ref 75, Value.int 279 0, Value.int 53 0, st "/claim/cut.py" 280])) (Array.mk [])
noncomputable def ob77 (P : Params) : Obj := Obj.mk (Value.type "function") Option.none (Data.func (fdm (meth 8 1) (Str.ofString "CryptoOut.put") 3 [] Value.none Value.none Value.none (st "quic.cryptostream" 253) Option.none (Value.ref 76) Value.none 0)) (Array.mk [])
noncomputable def ob78 (P : Params) : Obj := Obj.mk (Value.type "tuple") Option.none (Data.seq (Array.mk []) 0) (Array.mk [])
noncomputable def ob79 (P : Params) : Obj := Obj.mk Value.none Option.none (Data.fields (Array.mk [])) (Array.mk [])
noncomputable def ob80 (P : Params) : Obj := Obj.mk (Value.type "tuple") Option.none (Data.seq (Array.mk [st "self" 285, st "most" 286, st "span" 287]) 0) (Array.mk [])
noncomputable def ob81 (P : Params) : Obj := Obj.mk (Value.type "tuple") Option.none (Data.seq (Array.mk []) 0) (Array.mk [])
noncomputable def ob82 (P : Params) : Obj := Obj.mk Value.none Option.none (Data.func (fdm (meth 8 2) (Str.ofString "CryptoOut.next_chunk") 0 [] Value.none Value.none Value.none Value.none Option.none Value.none Value.none 0)) (Array.mk [])
noncomputable def ob83 (P : Params) : Obj := Obj.mk (Value.type "code") Option.none (Data.fields (Array.mk [st "next_chunk" 282, st "CryptoOut.next_chunk" 283, st "/claim/cut.py" 284, Value.int 57 0, Value.int 2 0, Value.int 0 0, Value.int 0 0, Value.int 3 0, Value.ref 78, Value.bool Bool.true, Value.int 181 0, Value.ref 79, Value.none, Value.ref 80, Value.ref 81, Value.ref 82, Value.int 288 0, Value.int 57 0, st "/claim/cut.py" 289])) (Array.mk [])
noncomputable def ob84 (P : Params) : Obj := Obj.mk (Value.type "function") Option.none (Data.func (fdm (meth 8 2) (Str.ofString "CryptoOut.next_chunk") 3 [] Value.none Value.none Value.none (st "quic.cryptostream" 253) Option.none (Value.ref 83) Value.none 0)) (Array.mk [])
noncomputable def ob85 (P : Params) : Obj := Obj.mk (Value.type "tuple") Option.none (Data.seq (Array.mk []) 0) (Array.mk [])
noncomputable def ob86 (P : Params) : Obj := Obj.mk Value.none Option.none (Data.fields (Array.mk [])) (Array.mk [])
noncomputable def ob87 (P : Params) : Obj := Obj.mk (Value.type "tuple") Option.none (Data.seq (Array.mk [st "self" 294, st "offset" 295, st "size" 296, st "first" 297, st "behind" 298]) 0) (Array.mk [])
noncomputable def ob88 (P : Params) : Obj := Obj.mk (Value.type "tuple") Option.none (Data.seq (Array.mk []) 0) (Array.mk [])
noncomputable def ob89 (P : Params) : Obj := Obj.mk Value.none Option.none (Data.func (fdm (meth 8 3) (Str.ofString "CryptoOut.on_lost") 0 [] Value.none Value.none Value.none Value.none Option.none Value.none Value.none 0)) (Array.mk [])
noncomputable def ob90 (P : Params) : Obj := Obj.mk (Value.type "code") Option.none (Data.fields (Array.mk [st "on_lost" 291, st "CryptoOut.on_lost" 292, st "/claim/cut.py" 293, Value.int 64 0, Value.int 3 0, Value.int 0 0, Value.int 0 0, Value.int 3 0, Value.ref 85, Value.bool Bool.true, Value.int 181 0, Value.ref 86, Value.none, Value.ref 87, Value.ref 88, Value.ref 89, Value.int 299 0, Value.int 64 0, st "/claim/cut.py" 300])) (Array.mk [])
noncomputable def ob91 (P : Params) : Obj := Obj.mk (Value.type "function") Option.none (Data.func (fdm (meth 8 3) (Str.ofString "CryptoOut.on_lost") 3 [] Value.none Value.none Value.none (st "quic.cryptostream" 253) Option.none (Value.ref 90) Value.none 0)) (Array.mk [])
noncomputable def ob92 (P : Params) : Obj := Obj.mk (Value.type "tuple") Option.none (Data.seq (Array.mk []) 0) (Array.mk [])
noncomputable def ob93 (P : Params) : Obj := Obj.mk Value.none Option.none (Data.fields (Array.mk [])) (Array.mk [])
noncomputable def ob94 (P : Params) : Obj := Obj.mk (Value.type "tuple") Option.none (Data.seq (Array.mk [st "self" 305, st "offset" 306, st "size" 307]) 0) (Array.mk [])
noncomputable def ob95 (P : Params) : Obj := Obj.mk (Value.type "tuple") Option.none (Data.seq (Array.mk []) 0) (Array.mk [])
noncomputable def ob96 (P : Params) : Obj := Obj.mk Value.none Option.none (Data.func (fdm (meth 8 4) (Str.ofString "CryptoOut.on_acked") 0 [] Value.none Value.none Value.none Value.none Option.none Value.none Value.none 0)) (Array.mk [])
noncomputable def ob97 (P : Params) : Obj := Obj.mk (Value.type "code") Option.none (Data.fields (Array.mk [st "on_acked" 302, st "CryptoOut.on_acked" 303, st "/claim/cut.py" 304, Value.int 68 0, Value.int 3 0, Value.int 0 0, Value.int 0 0, Value.int 3 0, Value.ref 92, Value.bool Bool.true, Value.int 181 0, Value.ref 93, Value.none, Value.ref 94, Value.ref 95, Value.ref 96, Value.int 308 0, Value.int 68 0, st "/claim/cut.py" 309])) (Array.mk [])
noncomputable def ob98 (P : Params) : Obj := Obj.mk (Value.type "function") Option.none (Data.func (fdm (meth 8 4) (Str.ofString "CryptoOut.on_acked") 3 [] Value.none Value.none Value.none (st "quic.cryptostream" 253) Option.none (Value.ref 97) Value.none 0)) (Array.mk [])
noncomputable def ob99 (P : Params) : Obj := Obj.mk (Value.type "tuple") Option.none (Data.seq (Array.mk []) 0) (Array.mk [])
noncomputable def ob100 (P : Params) : Obj := Obj.mk Value.none Option.none (Data.fields (Array.mk [])) (Array.mk [])
noncomputable def ob101 (P : Params) : Obj := Obj.mk (Value.type "tuple") Option.none (Data.seq (Array.mk [st "self" 314]) 0) (Array.mk [])
noncomputable def ob102 (P : Params) : Obj := Obj.mk (Value.type "tuple") Option.none (Data.seq (Array.mk []) 0) (Array.mk [])
noncomputable def ob103 (P : Params) : Obj := Obj.mk Value.none Option.none (Data.func (fdm (meth 8 5) (Str.ofString "CryptoOut.is_done") 0 [] Value.none Value.none Value.none Value.none Option.none Value.none Value.none 0)) (Array.mk [])
noncomputable def ob104 (P : Params) : Obj := Obj.mk (Value.type "code") Option.none (Data.fields (Array.mk [st "is_done" 311, st "CryptoOut.is_done" 312, st "/claim/cut.py" 313, Value.int 72 0, Value.int 1 0, Value.int 0 0, Value.int 0 0, Value.int 3 0, Value.ref 99, Value.bool Bool.true, Value.int 181 0, Value.ref 100, Value.none, Value.ref 101, Value.ref 102, Value.ref 103, Value.int 315 0, Value.int 72 0, st "/claim/cut.py" 316])) (Array.mk [])
noncomputable def ob105 (P : Params) : Obj := Obj.mk (Value.type "function") Option.none (Data.func (fdm (meth 8 5) (Str.ofString "CryptoOut.is_done") 3 [] Value.none Value.none Value.none (st "quic.cryptostream" 253) Option.none (Value.ref 104) Value.none 0)) (Array.mk [])
noncomputable def ob106 (P : Params) : Obj := Obj.mk (Value.type "tuple") Option.none (Data.seq (Array.mk [st "acked" 318, st "data" 319, st "due" 320]) 0) (Array.mk [])
noncomputable def ob107 (P : Params) : Obj := Obj.mk (Value.type "dict") Option.none (Data.dict (Array.mk [en P (Str.ofString "__module__") 262 (st "quic.cryptostream" 253), en P (Str.ofString "__firstlineno__") 266 (Value.int 46 265), en P (Str.ofString "__init__") 273 (Value.ref 70), en P (Str.ofString "put") 281 (Value.ref 77), en P (Str.ofString "next_chunk") 290 (Value.ref 84), en P (Str.ofString "on_lost") 301 (Value.ref 91), en P (Str.ofString "on_acked") 310 (Value.ref 98), en P (Str.ofString "is_done") 317 (Value.ref 105), en P (Str.ofString "__static_attributes__") 321 (Value.ref 106), en P (Str.ofString "__dict__") 323 (Value.ref 109), en P (Str.ofString "__weakref__") 325 (Value.ref 110), en P (Str.ofString "__doc__") 326 Value.none]) 4) (Array.mk [])
noncomputable def ob108 (P : Params) : Obj := Obj.mk (Value.type "type") Option.none (Data.cls (ClassData.mk (Str.ofString "CryptoOut") [Value.type "object"] [Value.ref 108, Value.type "object"] 107 (Str.ofString "CryptoOut") Bool.true [] [] Bool.false Option.none Bool.false)) (Array.mk [Option.none, Option.none, Option.some (st "CryptoOut" 255), Option.some (st "CryptoOut" 263), Option.some (Value.builtin "object.__new__"), Option.some (Value.bool Bool.true)])
noncomputable def ob109 (P : Params) : Obj := Obj.mk (Value.type "getset_descriptor") Option.none (Data.fields (Array.mk [st "__dict__" 322, Value.ref 108, Value.builtin "function.__dict__", Value.builtin "function.__dict__#set"])) (Array.mk [])
noncomputable def ob110 (P : Params) : Obj := Obj.mk (Value.type "getset_descriptor") Option.none (Data.fields (Array.mk [st "__weakref__" 324, Value.ref 108, Value.builtin "ExceptionGroup.__weakref__", Value.none])) (Array.mk [])
noncomputable def ob111 (P : Params) : Obj := Obj.mk (Value.type "super") Option.none (Data.fields (Array.mk [Value.ref 108, Value.ref 108, Value.ref 108])) (Array.mk [])
noncomputable def ob112 (P : Params) : Obj := Obj.mk (Value.type "builtin_function_or_method") Option.none (Data.fields (Array.mk [Value.builtin "object.__init_subclass__", Value.ref 108])) (Array.mk [])
noncomputable def ob2 (P : Params) : Obj := Obj.mk Value.none Option.none (Data.dict (Array.mk [en P (Str.ofString "type.__subclasses__.Exception.0") 362 (Value.int 129 0), en P (Str.ofString "type.__subclasses__.Exception.n") 363 (Value.int 1 0)]) 2) (Array.mk [])
noncomputable def ob3b (P : Params) : Obj := Obj.mk (Value.type "dict") Option.none (Data.dict (Array.mk [en P (Str.ofString "__name__") 165 (st "quic.sendpart" 366), en P (Str.ofString "__doc__") 166 Value.none, en P (Str.ofString "__package__") 167 Value.none, en P (Str.ofString "__loader__") 168 (Value.builtin "__main__.__loader__#opaque"), en P (Str.ofString "__spec__") 169 Value.none, en P (Str.ofString "__annotations__") 170 (Value.ref 6), en P (Str.ofString "__builtins__") 171 (Value.ref 4), en P (Str.ofString "__file__") 173 (st "/claim/cut.py" 172), en P (Str.ofString "__cached__") 174 Value.none, en P (Str.ofString "_wall") 193 (Value.ref 21), en P (Str.ofString "add_span") 208 (Value.ref 28), en P (Str.ofString "cut_span") 220 (Value.ref 35), en P (Str.ofString "has_span") 231 (Value.ref 42), en P (Str.ofString "first_span") 241 (Value.ref 49), en P (Str.ofString "without_spans") 252 (Value.ref 56), en P (Str.ofString "CryptoOut") 328 (Value.ref 108), en P (Str.ofString "STREAM_STATE_ERROR") 332 (Value.int 5 331), en P (Str.ofString "QuicError") 365 (Value.ref 129), en P (Str.ofString "READY") 369 (st "ready" 368), en P (Str.ofString "SENDING") 371 (st "send" 370), en P (Str.ofString "DATA_SENT") 373 (st "data_sent" 372), en P (Str.ofString "DATA_RECEIVED") 375 (st "data_recvd" 374), en P (Str.ofString "OPEN_STATES") 376 (Value.ref 133)]) 23) (Array.mk [])
noncomputable def ob12c (P : Params) : Obj := Obj.mk Value.none Option.none (Data.fields (Array.mk [Value.int 1 0, Value.int 0 0, Value.ref 20, Value.int 5 0, Value.int 0 0, Value.ref 27, Value.int 20 0, Value.int 0 0, Value.ref 34, Value.int 28 0, Value.int 0 0, Value.ref 41, Value.int 35 0, Value.int 0 0, Value.ref 48, Value.int 40 0, Value.int 0 0, Value.ref 55, Value.int 46 0, Value.int 0 0, Value.ref 62, Value.int 76 0, Value.int 0 0, Value.ref 118])) (Array.mk [])
noncomputable def ob113 (P : Params) : Obj := Obj.mk (Value.type "tuple") Option.none (Data.seq (Array.mk [Value.type "Exception"]) 0) (Array.mk [])
noncomputable def ob114 (P : Params) : Obj := Obj.mk (Value.type "builtin_function_or_method") Option.none (Data.fields (Array.mk [Value.builtin "type.__prepare__", Value.type "type"])) (Array.mk [])
noncomputable def ob115 (P : Params) : Obj := Obj.mk (Value.type "dict") Option.none (Data.dict (Array.mk [en P (Str.ofString "__module__") 340 (st "quic.errors" 329), en P (Str.ofString "__qualname__") 342 (st "QuicError" 341), en P (Str.ofString "__firstlineno__") 344 (Value.int 76 343), en P (Str.ofString "__init__") 354 (Value.ref 126), en P (Str.ofString "__static_attributes__") 358 (Value.ref 127)]) 5) (Array.mk [])
noncomputable def ob116 (P : Params) : Obj := Obj.mk (Value.type "tuple") Option.none (Data.seq (Array.mk []) 0) (Array.mk [])
noncomputable def ob117 (P : Params) : Obj := Obj.mk Value.none Option.none (Data.fields (Array.mk [Value.int 78 0, Value.int 4 0, Value.ref 125])) (Array.mk [])
noncomputable def ob118 (P : Params) : Obj := Obj.mk (Value.type "code") Option.none (Data.fields (Array.mk [st "QuicError" 335, st "QuicError" 336, st "/claim/cut.py" 337, Value.int 76 0, Value.int 0 0, Value.int 0 0, Value.int 0 0, Value.int 0 0, Value.ref 116, Value.bool Bool.false, Value.int 181 0, Value.ref 117, Value.none, Value.none, Value.none, Value.none, Value.int 338 0, Value.int 76 0, st "/claim/cut.py" 339])) (Array.mk [])
noncomputable def ob119 (P : Params) : Obj := Obj.mk (Value.type "frame") Option.none Data.plain (Array.mk [Option.some (Value.ref 118), Option.some (Value.ref 3), Option.some (Value.ref 115), Option.none, Option.some (st "quic.errors" 329), Option.none, Option.some (Value.ref 0)])
noncomputable def ob120 (P : Params) : Obj := Obj.mk (Value.type "tuple") Option.none (Data.seq (Array.mk []) 0) (Array.mk [])
noncomputable def ob121 (P : Params) : Obj := Obj.mk Value.none Option.none (Data.fields (Array.mk [])) (Array.mk [])
noncomputable def ob122 (P : Params) : Obj := Obj.mk (Value.type "tuple") Option.none (Data.seq (Array.mk [st "self" 348, st "code" 349, st "frame_type" 350, st "text" 351]) 0) (Array.mk [])
noncomputable def ob123 (P : Params) : Obj := Obj.mk (Value.type "tuple") Option.none (Data.seq (Array.mk []) 0) (Array.mk [])
noncomputable def ob124 (P : Params) : Obj := Obj.mk Value.none Option.none (Data.func (fdm (meth 11 0) (Str.ofString "QuicError.__init__") 0 [] Value.none Value.none Value.none Value.none Option.none Value.none Value.none 0)) (Array.mk [])
noncomputable def ob125 (P : Params) : Obj := Obj.mk (Value.type "code") Option.none (Data.fields (Array.mk [st "__init__" 345, st "QuicError.__init__" 346, st "/claim/cut.py" 347, Value.int 78 0, Value.int 4 0, Value.int 0 0, Value.int 0 0, Value.int 3 0, Value.ref 120, Value.bool Bool.true, Value.int 181 0, Value.ref 121, Value.none, Value.ref 122, Value.ref 123, Value.ref 124, Value.int 352 0, Value.int 78 0, st "/claim/cut.py" 353])) (Array.mk [])
noncomputable def ob126 (P : Params) : Obj := Obj.mk (Value.type "function") Option.none (Data.func (fdm (meth 11 0) (Str.ofString "QuicError.__init__") 3 [] Value.none Value.none Value.none (st "quic.errors" 329) Option.none (Value.ref 125) Value.none 0)) (Array.mk [])
noncomputable def ob127 (P : Params) : Obj := Obj.mk (Value.type "tuple") Option.none (Data.seq (Array.mk [st "code" 355, st "frame_type" 356, st "text" 357]) 0) (Array.mk [])
noncomputable def ob128 (P : Params) : Obj := Obj.mk (Value.type "dict") Option.none (Data.dict (Array.mk [en P (Str.ofString "__module__") 340 (st "quic.errors" 329), en P (Str.ofString "__firstlineno__") 344 (Value.int 76 343), en P (Str.ofString "__init__") 354 (Value.ref 126), en P (Str.ofString "__static_attributes__") 358 (Value.ref 127), en P (Str.ofString "__weakref__") 360 (Value.ref 130), en P (Str.ofString "__doc__") 361 Value.none]) 3) (Array.mk [])
noncomputable def ob129 (P : Params) : Obj := Obj.mk (Value.type "type") Option.none (Data.cls (ClassData.mk (Str.ofString "QuicError") [Value.type "Exception"] [Value.ref 129, Value.type "Exception", Value.type "BaseException", Value.type "object"] 128 (Str.ofString "QuicError") Bool.true [] [] Bool.false Option.none Bool.false)) (Array.mk [Option.some (Value.ref 113), Option.none, Option.some (st "QuicError" 333), Option.some (st "QuicError" 341), Option.some (Value.builtin "Exception.__new__"), Option.some (Value.bool Bool.true)])
noncomputable def ob130 (P : Params) : Obj := Obj.mk (Value.type "getset_descriptor") Option.none (Data.fields (Array.mk [st "__weakref__" 359, Value.ref 129, Value.builtin "ExceptionGroup.__weakref__", Value.none])) (Array.mk [])
noncomputable def ob131 (P : Params) : Obj := Obj.mk (Value.type "super") Option.none (Data.fields (Array.mk [Value.ref 129, Value.ref 129, Value.ref 129])) (Array.mk [])
noncomputable def ob132 (P : Params) : Obj := Obj.mk (Value.type "builtin_function_or_method") Option.none (Data.fields (Array.mk [Value.builtin "object.__init_subclass__", Value.ref 129])) (Array.mk [])
noncomputable def ob133 (P : Params) : Obj := Obj.mk (Value.type "tuple") Option.none (Data.seq (Array.mk [st "ready" 368, st "send" 370]) 0) (Array.mk [])
noncomputable def ob3c (P : Params) : Obj := Obj.mk (Value.type "dict") Option.none (Data.dict (Array.mk [en P (Str.ofString "__name__") 165 (st "quic.sendpart" 366), en P (Str.ofString "__doc__") 166 Value.none, en P (Str.ofString "__package__") 167 Value.none, en P (Str.ofString "__loader__") 168 (Value.builtin "__main__.__loader__#opaque"), en P (Str.ofString "__spec__") 169 Value.none, en P (Str.ofString "__annotations__") 170 (Value.ref 6), en P (Str.ofString "__builtins__") 171 (Value.ref 4), en P (Str.ofString "__file__") 173 (st "/claim/cut.py" 172), en P (Str.ofString "__cached__") 174 Value.none, en P (Str.ofString "_wall") 193 (Value.ref 21), en P (Str.ofString "add_span") 208 (Value.ref 28), en P (Str.ofString "cut_span") 220 (Value.ref 35), en P (Str.ofString "has_span") 231 (Value.ref 42), en P (Str.ofString "first_span") 241 (Value.ref 49), en P (Str.ofString "without_spans") 252 (Value.ref 56), en P (Str.ofString "CryptoOut") 328 (Value.ref 108), en P (Str.ofString "STREAM_STATE_ERROR") 332 (Value.int 5 331), en P (Str.ofString "QuicError") 365 (Value.ref 129), en P (Str.ofString "READY") 369 (st "ready" 368), en P (Str.ofString "SENDING") 371 (st "send" 370), en P (Str.ofString "DATA_SENT") 373 (st "data_sent" 372), en P (Str.ofString "DATA_RECEIVED") 375 (st "data_recvd" 374), en P (Str.ofString "OPEN_STATES") 376 (Value.ref 133), en P (Str.ofString "SendPart") 542 (Value.ref 255)]) 24) (Array.mk [])
noncomputable def ob12d (P : Params) : Obj := Obj.mk Value.none Option.none (Data.fields (Array.mk [Value.int 1 0, Value.int 0 0, Value.ref 20, Value.int 5 0, Value.int 0 0, Value.ref 27, Value.int 20 0, Value.int 0 0, Value.ref 34, Value.int 28 0, Value.int 0 0, Value.ref 41, Value.int 35 0, Value.int 0 0, Value.ref 48, Value.int 40 0, Value.int 0 0, Value.ref 55, Value.int 46 0, Value.int 0 0, Value.ref 62, Value.int 76 0, Value.int 0 0, Value.ref 118, Value.int 89 0, Value.int 0 0, Value.ref 139])) (Array.mk [])
noncomputable def ob134 (P : Params) : Obj := Obj.mk (Value.type "tuple") Option.none (Data.seq (Array.mk []) 0) (Array.mk [])
noncomputable def ob135 (P : Params) : Obj := Obj.mk (Value.type "builtin_function_or_method") Option.none (Data.fields (Array.mk [Value.builtin "type.__prepare__", Value.type "type"])) (Array.mk [])
noncomputable def ob136 (P : Params) : Obj := Obj.mk (Value.type "dict") Option.none (Data.dict (Array.mk [en P (Str.ofString "__module__") 384 (st "quic.sendpart" 366), en P (Str.ofString "__qualname__") 386 (st "SendPart" 385), en P (Str.ofString "__firstlineno__") 388 (Value.int 89 387), en P (Str.ofString "__init__") 396 (Value.ref 147), en P (Str.ofString "write") 404 (Value.ref 154), en P (Str.ofString "finish") 411 (Value.ref 161), en P (Str.ofString "reset") 419 (Value.ref 168), en P (Str.ofString "on_stop") 427 (Value.ref 175), en P (Str.ofString "raise_limit") 435 (Value.ref 182), en P (Str.ofString "new_room") 444 (Value.ref 189), en P (Str.ofString "blocked_at") 451 (Value.ref 196), en P (Str.ofString "has_to_send") 459 (Value.ref 203), en P (Str.ofString "next_chunk") 473 (Value.ref 210), en P (Str.ofString "next_reset") 480 (Value.ref 217), en P (Str.ofString "on_acked") 490 (Value.ref 224), en P (Str.ofString "on_lost") 502 (Value.ref 231), en P (Str.ofString "on_reset_acked") 509 (Value.ref 238), en P (Str.ofString "on_reset_lost") 516 (Value.ref 245), en P (Str.ofString "is_over") 523 (Value.ref 252), en P (Str.ofString "__static_attributes__") 535 (Value.ref 253)]) 20) (Array.mk [])
noncomputable def ob137 (P : Params) : Obj := Obj.mk (Value.type "tuple") Option.none (Data.seq (Array.mk []) 0) (Array.mk [])
noncomputable def ob138 (P : Params) : Obj := Obj.mk Value.none Option.none (Data.fields (Array.mk [Value.int 91 0, Value.int 4 0, Value.ref 146, Value.int 104 0, Value.int 4 0, Value.ref 153, Value.int 109 0, Value.int 4 0, Value.ref 160, Value.int 112 0, Value.int 4 0, Value.ref 167, Value.int 115 0, Value.int 4 0, Value.ref 174, Value.int 118 0, Value.int 4 0, Value.ref 181, Value.int 121 0, Value.int 4 0, Value.ref 188, Value.int 127 0, Value.int 4 0, Value.ref 195, Value.int 130 0, Value.int 4 0, Value.ref 202, Value.int 135 0, Value.int 4 0, Value.ref 209, Value.int 153 0, Value.int 4 0, Value.ref 216, Value.int 156 0, Value.int 4 0, Value.ref 223, Value.int 165 0, Value.int 4 0, Value.ref 230, Value.int 173 0, Value.int 4 0, Value.ref 237, Value.int 176 0, Value.int 4 0, Value.ref 244, Value.int 179 0, Value.int 4 0, Value.ref 251])) (Array.mk [])
noncomputable def ob139 (P : Params) : Obj := Obj.mk (Value.type "code") Option.none (Data.fields (Array.mk [st "SendPart" 379, st "SendPart" 380, st "/claim/cut.py" 381, Value.int 89 0, Value.int 0 0, Value.int 0 0, Value.int 0 0, Value.int 0 0, Value.ref 137, Value.bool Bool.false, Value.int 181 0, Value.ref 138, Value.none, Value.none, Value.none, Value.none, Value.int 382 0, Value.int 89 0, st "/claim/cut.py" 383])) (Array.mk [])
noncomputable def ob140 (P : Params) : Obj := Obj.mk (Value.type "frame") Option.none Data.plain (Array.mk [Option.some (Value.ref 139), Option.some (Value.ref 3), Option.some (Value.ref 136), Option.none, Option.some (st "quic.sendpart" 366), Option.none, Option.some (Value.ref 0)])
noncomputable def ob141 (P : Params) : Obj := Obj.mk (Value.type "tuple") Option.none (Data.seq (Array.mk []) 0) (Array.mk [])
noncomputable def ob142 (P : Params) : Obj := Obj.mk Value.none Option.none (Data.fields (Array.mk [])) (Array.mk [])
noncomputable def ob143 (P : Params) : Obj := Obj.mk (Value.type "tuple") Option.none (Data.seq (Array.mk [st "self" 392, st "limit" 393]) 0) (Array.mk [])
noncomputable def ob144 (P : Params) : Obj := Obj.mk (Value.type "tuple") Option.none (Data.seq (Array.mk []) 0) (Array.mk [])
noncomputable def ob145 (P : Params) : Obj := Obj.mk Value.none Option.none (Data.func (fdm (meth 18 0) (Str.ofString "SendPart.__init__") 0 [] Value.none Value.none Value.none Value.none Option.none Value.none Value.none 0)) (Array.mk [])
noncomputable def ob146 (P : Params) : Obj := Obj.mk (Value.type "code") Option.none (Data.fields (Array.mk [st "__init__" 389, st "SendPart.__init__" 390, st "/claim/cut.py" 391, Value.int 91 0, Value.int 2 0, Value.int 0 0, Value.int 0 0, Value.int 3 0, Value.ref 141, Value.bool Bool.true, Value.int 181 0, Value.ref 142, Value.none, Value.ref 143, Value.ref 144, Value.ref 145, Value.int 394 0, Value.int 91 0, st "/claim/cut.py" 395])) (Array.mk [])
noncomputable def ob147 (P : Params) : Obj := Obj.mk (Value.type "function") Option.none (Data.func (fdm (meth 18 0) (Str.ofString "SendPart.__init__") 3 [] Value.none Value.none Value.none (st "quic.sendpart" 366) Option.none (Value.ref 146) Value.none 0)) (Array.mk [])
noncomputable def ob148 (P : Params) : Obj := Obj.mk (Value.type "tuple") Option.none (Data.seq (Array.mk []) 0) (Array.mk [])
noncomputable def ob149 (P : Params) : Obj := Obj.mk Value.none Option.none (Data.fields (Array.mk [])) (Array.mk [])
noncomputable def ob150 (P : Params) : Obj := Obj.mk (Value.type "tuple") Option.none (Data.seq (Array.mk [st "self" 400, st "data" 401]) 0) (Array.mk [])
noncomputable def ob151 (P : Params) : Obj := Obj.mk (Value.type "tuple") Option.none (Data.seq (Array.mk []) 0) (Array.mk [])
noncomputable def ob152 (P : Params) : Obj := Obj.mk Value.none Option.none (Data.func (fdm (meth 18 1) (Str.ofString "SendPart.write") 0 [] Value.none Value.none Value.none Value.none Option.none Value.none Value.none 0)) (Array.mk [])
noncomputable def ob153 (P : Params) : Obj := Obj.mk (Value.type "code") Option.none (Data.fields (Array.mk [st "write" 397, st "SendPart.write" 398, st "/claim/cut.py" 399, Value.int 104 0, Value.int 2 0, Value.int 0 0, Value.int 0 0, Value.int 3 0, Value.ref 148, Value.bool Bool.true, Value.int 181 0, Value.ref 149, Value.none, Value.ref 150, Value.ref 151, Value.ref 152, Value.int 402 0, Value.int 104 0, st "/claim/cut.py" 403])) (Array.mk [])
noncomputable def ob154 (P : Params) : Obj := Obj.mk (Value.type "function") Option.none (Data.func (fdm (meth 18 1) (Str.ofString "SendPart.write") 3 [] Value.none Value.none Value.none (st "quic.sendpart" 366) Option.none (Value.ref 153) Value.none 0)) (Array.mk [])
noncomputable def ob155 (P : Params) : Obj := Obj.mk (Value.type "tuple") Option.none (Data.seq (Array.mk []) 0) (Array.mk [])
noncomputable def ob156 (P : Params) : Obj := Obj.mk Value.none Option.none (Data.fields (Array.mk [])) (Array.mk [])
noncomputable def ob157 (P : Params) : Obj := Obj.mk (Value.type "tuple") Option.none (Data.seq (Array.mk [st "self" 408]) 0) (Array.mk [])
noncomputable def ob158 (P : Params) : Obj := Obj.mk (Value.type "tuple") Option.none (Data.seq (Array.mk []) 0) (Array.mk [])
noncomputable def ob159 (P : Params) : Obj := Obj.mk Value.none Option.none (Data.func (fdm (meth 18 2) (Str.ofString "SendPart.finish") 0 [] Value.none Value.none Value.none Value.none Option.none Value.none Value.none 0)) (Array.mk [])
noncomputable def ob160 (P : Params) : Obj := Obj.mk (Value.type "code") Option.none (Data.fields (Array.mk [st "finish" 405, st "SendPart.finish" 406, st "/claim/cut.py" 407, Value.int 109 0, Value.int 1 0, Value.int 0 0, Value.int 0 0, Value.int 3 0, Value.ref 155, Value.bool Bool.true, Value.int 181 0, Value.ref 156, Value.none, Value.ref 157, Value.ref 158, Value.ref 159, Value.int 409 0, Value.int 109 0, st "/claim/cut.py" 410])) (Array.mk [])
noncomputable def ob161 (P : Params) : Obj := Obj.mk (Value.type "function") Option.none (Data.func (fdm (meth 18 2) (Str.ofString "SendPart.finish") 3 [] Value.none Value.none Value.none (st "quic.sendpart" 366) Option.none (Value.ref 160) Value.none 0)) (Array.mk [])
noncomputable def ob162 (P : Params) : Obj := Obj.mk (Value.type "tuple") Option.none (Data.seq (Array.mk []) 0) (Array.mk [])
noncomputable def ob163 (P : Params) : Obj := Obj.mk Value.none Option.none (Data.fields (Array.mk [])) (Array.mk [])
noncomputable def ob164 (P : Params) : Obj := Obj.mk (Value.type "tuple") Option.none (Data.seq (Array.mk [st "self" 415, st "code" 416]) 0) (Array.mk [])
noncomputable def ob165 (P : Params) : Obj := Obj.mk (Value.type "tuple") Option.none (Data.seq (Array.mk []) 0) (Array.mk [])
noncomputable def ob166 (P : Params) : Obj := Obj.mk Value.none Option.none (Data.func (fdm (meth 18 3) (Str.ofString "SendPart.reset") 0 [] Value.none Value.none Value.none Value.none Option.none Value.none Value.none 0)) (Array.mk [])
noncomputable def ob167 (P : Params) : Obj := Obj.mk (Value.type "code") Option.none (Data.fields (Array.mk [st "reset" 412, st "SendPart.reset" 413, st "/claim/cut.py" 414, Value.int 112 0, Value.int 2 0, Value.int 0 0, Value.int 0 0, Value.int 3 0, Value.ref 162, Value.bool Bool.true, Value.int 181 0, Value.ref 163, Value.none, Value.ref 164, Value.ref 165, Value.ref 166, Value.int 417 0, Value.int 112 0, st "/claim/cut.py" 418])) (Array.mk [])
noncomputable def ob168 (P : Params) : Obj := Obj.mk (Value.type "function") Option.none (Data.func (fdm (meth 18 3) (Str.ofString "SendPart.reset") 3 [] Value.none Value.none Value.none (st "quic.sendpart" 366) Option.none (Value.ref 167) Value.none 0)) (Array.mk [])
noncomputable def ob169 (P : Params) : Obj := Obj.mk (Value.type "tuple") Option.none (Data.seq (Array.mk []) 0) (Array.mk [])
noncomputable def ob170 (P : Params) : Obj := Obj.mk Value.none Option.none (Data.fields (Array.mk [])) (Array.mk [])
noncomputable def ob171 (P : Params) : Obj := Obj.mk (Value.type "tuple") Option.none (Data.seq (Array.mk [st "self" 423, st "code" 424]) 0) (Array.mk [])
noncomputable def ob172 (P : Params) : Obj := Obj.mk (Value.type "tuple") Option.none (Data.seq (Array.mk []) 0) (Array.mk [])
noncomputable def ob173 (P : Params) : Obj := Obj.mk Value.none Option.none (Data.func (fdm (meth 18 4) (Str.ofString "SendPart.on_stop") 0 [] Value.none Value.none Value.none Value.none Option.none Value.none Value.none 0)) (Array.mk [])
noncomputable def ob174 (P : Params) : Obj := Obj.mk (Value.type "code") Option.none (Data.fields (Array.mk [st "on_stop" 420, st "SendPart.on_stop" 421, st "/claim/cut.py" 422, Value.int 115 0, Value.int 2 0, Value.int 0 0, Value.int 0 0, Value.int 3 0, Value.ref 169, Value.bool Bool.true, Value.int 181 0, Value.ref 170, Value.none, Value.ref 171, Value.ref 172, Value.ref 173, Value.int 425 0, Value.int 115 0, st "/claim/cut.py" 426])) (Array.mk [])
noncomputable def ob175 (P : Params) : Obj := Obj.mk (Value.type "function") Option.none (Data.func (fdm (meth 18 4) (Str.ofString "SendPart.on_stop") 3 [] Value.none Value.none Value.none (st "quic.sendpart" 366) Option.none (Value.ref 174) Value.none 0)) (Array.mk [])
noncomputable def ob176 (P : Params) : Obj := Obj.mk (Value.type "tuple") Option.none (Data.seq (Array.mk []) 0) (Array.mk [])
noncomputable def ob177 (P : Params) : Obj := Obj.mk Value.none Option.none (Data.fields (Array.mk [])) (Array.mk [])
noncomputable def ob178 (P : Params) : Obj := Obj.mk (Value.type "tuple") Option.none (Data.seq (Array.mk [st "self" 431, st "limit" 432]) 0) (Array.mk [])
noncomputable def ob179 (P : Params) : Obj := Obj.mk (Value.type "tuple") Option.none (Data.seq (Array.mk []) 0) (Array.mk [])
noncomputable def ob180 (P : Params) : Obj := Obj.mk Value.none Option.none (Data.func (fdm (meth 18 5) (Str.ofString "SendPart.raise_limit") 0 [] Value.none Value.none Value.none Value.none Option.none Value.none Value.none 0)) (Array.mk [])
noncomputable def ob181 (P : Params) : Obj := Obj.mk (Value.type "code") Option.none (Data.fields (Array.mk [st "raise_limit" 428, st "SendPart.raise_limit" 429, st "/claim/cut.py" 430, Value.int 118 0, Value.int 2 0, Value.int 0 0, Value.int 0 0, Value.int 3 0, Value.ref 176, Value.bool Bool.true, Value.int 181 0, Value.ref 177, Value.none, Value.ref 178, Value.ref 179, Value.ref 180, Value.int 433 0, Value.int 118 0, st "/claim/cut.py" 434])) (Array.mk [])
noncomputable def ob182 (P : Params) : Obj := Obj.mk (Value.type "function") Option.none (Data.func (fdm (meth 18 5) (Str.ofString "SendPart.raise_limit") 3 [] Value.none Value.none Value.none (st "quic.sendpart" 366) Option.none (Value.ref 181) Value.none 0)) (Array.mk [])
noncomputable def ob183 (P : Params) : Obj := Obj.mk (Value.type "tuple") Option.none (Data.seq (Array.mk []) 0) (Array.mk [])
noncomputable def ob184 (P : Params) : Obj := Obj.mk Value.none Option.none (Data.fields (Array.mk [])) (Array.mk [])
noncomputable def ob185 (P : Params) : Obj := Obj.mk (Value.type "tuple") Option.none (Data.seq (Array.mk [st "self" 439, st "most_new" 440, st "room" 441]) 0) (Array.mk [])
noncomputable def ob186 (P : Params) : Obj := Obj.mk (Value.type "tuple") Option.none (Data.seq (Array.mk []) 0) (Array.mk [])
noncomputable def ob187 (P : Params) : Obj := Obj.mk Value.none Option.none (Data.func (fdm (meth 18 6) (Str.ofString "SendPart.new_room") 0 [] Value.none Value.none Value.none Value.none Option.none Value.none Value.none 0)) (Array.mk [])
noncomputable def ob188 (P : Params) : Obj := Obj.mk (Value.type "code") Option.none (Data.fields (Array.mk [st "new_room" 436, st "SendPart.new_room" 437, st "/claim/cut.py" 438, Value.int 121 0, Value.int 2 0, Value.int 0 0, Value.int 0 0, Value.int 3 0, Value.ref 183, Value.bool Bool.true, Value.int 181 0, Value.ref 184, Value.none, Value.ref 185, Value.ref 186, Value.ref 187, Value.int 442 0, Value.int 121 0, st "/claim/cut.py" 443])) (Array.mk [])
noncomputable def ob189 (P : Params) : Obj := Obj.mk (Value.type "function") Option.none (Data.func (fdm (meth 18 6) (Str.ofString "SendPart.new_room") 3 [] Value.none Value.none Value.none (st "quic.sendpart" 366) Option.none (Value.ref 188) Value.none 0)) (Array.mk [])
noncomputable def ob190 (P : Params) : Obj := Obj.mk (Value.type "tuple") Option.none (Data.seq (Array.mk []) 0) (Array.mk [])
noncomputable def ob191 (P : Params) : Obj := Obj.mk Value.none Option.none (Data.fields (Array.mk [])) (Array.mk [])
noncomputable def ob192 (P : Params) : Obj := Obj.mk (Value.type "tuple") Option.none (Data.seq (Array.mk [st "self" 448]) 0) (Array.mk [])
noncomputable def ob193 (P : Params) : Obj := Obj.mk (Value.type "tuple") Option.none (Data.seq (Array.mk []) 0) (Array.mk [])
noncomputable def ob194 (P : Params) : Obj := Obj.mk Value.none Option.none (Data.func (fdm (meth 18 7) (Str.ofString "SendPart.blocked_at") 0 [] Value.none Value.none Value.none Value.none Option.none Value.none Value.none 0)) (Array.mk [])
noncomputable def ob195 (P : Params) : Obj := Obj.mk (Value.type "code") Option.none (Data.fields (Array.mk [st "blocked_at" 445, st "SendPart.blocked_at" 446, st "/claim/cut.py" 447, Value.int 127 0, Value.int 1 0, Value.int 0 0, Value.int 0 0, Value.int 3 0, Value.ref 190, Value.bool Bool.true, Value.int 181 0, Value.ref 191, Value.none, Value.ref 192, Value.ref 193, Value.ref 194, Value.int 449 0, Value.int 127 0, st "/claim/cut.py" 450])) (Array.mk [])
noncomputable def ob196 (P : Params) : Obj := Obj.mk (Value.type "function") Option.none (Data.func (fdm (meth 18 7) (Str.ofString "SendPart.blocked_at") 3 [] Value.none Value.none Value.none (st "quic.sendpart" 366) Option.none (Value.ref 195) Value.none 0)) (Array.mk [])
noncomputable def ob197 (P : Params) : Obj := Obj.mk (Value.type "tuple") Option.none (Data.seq (Array.mk []) 0) (Array.mk [])
noncomputable def ob198 (P : Params) : Obj := Obj.mk Value.none Option.none (Data.fields (Array.mk [])) (Array.mk [])
noncomputable def ob199 (P : Params) : Obj := Obj.mk (Value.type "tuple") Option.none (Data.seq (Array.mk [st "self" 455, st "most_new" 456]) 0) (Array.mk [])
noncomputable def ob200 (P : Params) : Obj := Obj.mk (Value.type "tuple") Option.none (Data.seq (Array.mk []) 0) (Array.mk [])
noncomputable def ob201 (P : Params) : Obj := Obj.mk Value.none Option.none (Data.func (fdm (meth 18 8) (Str.ofString "SendPart.has_to_send") 0 [] Value.none Value.none Value.none Value.none Option.none Value.none Value.none 0)) (Array.mk [])
noncomputable def ob202 (P : Params) : Obj := Obj.mk (Value.type "code") Option.none (Data.fields (Array.mk [st "has_to_send" 452, st "SendPart.has_to_send" 453, st "/claim/cut.py" 454, Value.int 130 0, Value.int 2 0, Value.int 0 0, Value.int 0 0, Value.int 3 0, Value.ref 197, Value.bool Bool.true, Value.int 181 0, Value.ref 198, Value.none, Value.ref 199, Value.ref 200, Value.ref 201, Value.int 457 0, Value.int 130 0, st "/claim/cut.py" 458])) (Array.mk [])
noncomputable def ob203 (P : Params) : Obj := Obj.mk (Value.type "function") Option.none (Data.func (fdm (meth 18 8) (Str.ofString "SendPart.has_to_send") 3 [] Value.none Value.none Value.none (st "quic.sendpart" 366) Option.none (Value.ref 202) Value.none 0)) (Array.mk [])
noncomputable def ob204 (P : Params) : Obj := Obj.mk (Value.type "tuple") Option.none (Data.seq (Array.mk []) 0) (Array.mk [])
noncomputable def ob205 (P : Params) : Obj := Obj.mk Value.none Option.none (Data.fields (Array.mk [])) (Array.mk [])
noncomputable def ob206 (P : Params) : Obj := Obj.mk (Value.type "tuple") Option.none (Data.seq (Array.mk [st "self" 463, st "most" 464, st "most_new" 465, st "span" 466, st "room" 467, st "low" 468, st "high" 469, st "is_end" 470]) 0) (Array.mk [])
noncomputable def ob207 (P : Params) : Obj := Obj.mk (Value.type "tuple") Option.none (Data.seq (Array.mk []) 0) (Array.mk [])
noncomputable def ob208 (P : Params) : Obj := Obj.mk Value.none Option.none (Data.func (fdm (meth 18 9) (Str.ofString "SendPart.next_chunk") 0 [] Value.none Value.none Value.none Value.none Option.none Value.none Value.none 0)) (Array.mk [])
noncomputable def ob209 (P : Params) : Obj := Obj.mk (Value.type "code") Option.none (Data.fields (Array.mk [st "next_chunk" 460, st "SendPart.next_chunk" 461, st "/claim/cut.py" 462, Value.int 135 0, Value.int 3 0, Value.int 0 0, Value.int 0 0, Value.int 3 0, Value.ref 204, Value.bool Bool.true, Value.int 181 0, Value.ref 205, Value.none, Value.ref 206, Value.ref 207, Value.ref 208, Value.int 471 0, Value.int 135 0, st "/claim/cut.py" 472])) (Array.mk [])
noncomputable def ob210 (P : Params) : Obj := Obj.mk (Value.type "function") Option.none (Data.func (fdm (meth 18 9) (Str.ofString "SendPart.next_chunk") 3 [] Value.none Value.none Value.none (st "quic.sendpart" 366) Option.none (Value.ref 209) Value.none 0)) (Array.mk [])
noncomputable def ob211 (P : Params) : Obj := Obj.mk (Value.type "tuple") Option.none (Data.seq (Array.mk []) 0) (Array.mk [])
noncomputable def ob212 (P : Params) : Obj := Obj.mk Value.none Option.none (Data.fields (Array.mk [])) (Array.mk [])
noncomputable def ob213 (P : Params) : Obj := Obj.mk (Value.type "tuple") Option.none (Data.seq (Array.mk [st "self" 477]) 0) (Array.mk [])
noncomputable def ob214 (P : Params) : Obj := Obj.mk (Value.type "tuple") Option.none (Data.seq (Array.mk []) 0) (Array.mk [])
noncomputable def ob215 (P : Params) : Obj := Obj.mk Value.none Option.none (Data.func (fdm (meth 18 10) (Str.ofString "SendPart.next_reset") 0 [] Value.none Value.none Value.none Value.none Option.none Value.none Value.none 0)) (Array.mk [])
noncomputable def ob216 (P : Params) : Obj := Obj.mk (Value.type "code") Option.none (Data.fields (Array.mk [st "next_reset" 474, st "SendPart.next_reset" 475, st "/claim/cut.py" 476, Value.int 153 0, Value.int 1 0, Value.int 0 0, Value.int 0 0, Value.int 3 0, Value.ref 211, Value.bool Bool.true, Value.int 181 0, Value.ref 212, Value.none, Value.ref 213, Value.ref 214, Value.ref 215, Value.int 478 0, Value.int 153 0, st "/claim/cut.py" 479])) (Array.mk [])
noncomputable def ob217 (P : Params) : Obj := Obj.mk (Value.type "function") Option.none (Data.func (fdm (meth 18 10) (Str.ofString "SendPart.next_reset") 3 [] Value.none Value.none Value.none (st "quic.sendpart" 366) Option.none (Value.ref 216) Value.none 0)) (Array.mk [])
noncomputable def ob218 (P : Params) : Obj := Obj.mk (Value.type "tuple") Option.none (Data.seq (Array.mk []) 0) (Array.mk [])
noncomputable def ob219 (P : Params) : Obj := Obj.mk Value.none Option.none (Data.fields (Array.mk [])) (Array.mk [])
noncomputable def ob220 (P : Params) : Obj := Obj.mk (Value.type "tuple") Option.none (Data.seq (Array.mk [st "self" 484, st "offset" 485, st "size" 486, st "is_end" 487]) 0) (Array.mk [])
noncomputable def ob221 (P : Params) : Obj := Obj.mk (Value.type "tuple") Option.none (Data.seq (Array.mk []) 0) (Array.mk [])
noncomputable def ob222 (P : Params) : Obj := Obj.mk Value.none Option.none (Data.func (fdm (meth 18 11) (Str.ofString "SendPart.on_acked") 0 [] Value.none Value.none Value.none Value.none Option.none Value.none Value.none 0)) (Array.mk [])
noncomputable def ob223 (P : Params) : Obj := Obj.mk (Value.type "code") Option.none (Data.fields (Array.mk [st "on_acked" 481, st "SendPart.on_acked" 482, st "/claim/cut.py" 483, Value.int 156 0, Value.int 4 0, Value.int 0 0, Value.int 0 0, Value.int 3 0, Value.ref 218, Value.bool Bool.true, Value.int 181 0, Value.ref 219, Value.none, Value.ref 220, Value.ref 221, Value.ref 222, Value.int 488 0, Value.int 156 0, st "/claim/cut.py" 489])) (Array.mk [])
noncomputable def ob224 (P : Params) : Obj := Obj.mk (Value.type "function") Option.none (Data.func (fdm (meth 18 11) (Str.ofString "SendPart.on_acked") 3 [] Value.none Value.none Value.none (st "quic.sendpart" 366) Option.none (Value.ref 223) Value.none 0)) (Array.mk [])
noncomputable def ob225 (P : Params) : Obj := Obj.mk (Value.type "tuple") Option.none (Data.seq (Array.mk []) 0) (Array.mk [])
noncomputable def ob226 (P : Params) : Obj := Obj.mk Value.none Option.none (Data.fields (Array.mk [])) (Array.mk [])
noncomputable def ob227 (P : Params) : Obj := Obj.mk (Value.type "tuple") Option.none (Data.seq (Array.mk [st "self" 494, st "offset" 495, st "size" 496, st "is_end" 497, st "low" 498, st "high" 499]) 0) (Array.mk [])
noncomputable def ob228 (P : Params) : Obj := Obj.mk (Value.type "tuple") Option.none (Data.seq (Array.mk []) 0) (Array.mk [])
noncomputable def ob229 (P : Params) : Obj := Obj.mk Value.none Option.none (Data.func (fdm (meth 18 12) (Str.ofString "SendPart.on_lost") 0 [] Value.none Value.none Value.none Value.none Option.none Value.none Value.none 0)) (Array.mk [])
noncomputable def ob230 (P : Params) : Obj := Obj.mk (Value.type "code") Option.none (Data.fields (Array.mk [st "on_lost" 491, st "SendPart.on_lost" 492, st "/claim/cut.py" 493, Value.int 165 0, Value.int 4 0, Value.int 0 0, Value.int 0 0, Value.int 3 0, Value.ref 225, Value.bool Bool.true, Value.int 181 0, Value.ref 226, Value.none, Value.ref 227, Value.ref 228, Value.ref 229, Value.int 500 0, Value.int 165 0, st "/claim/cut.py" 501])) (Array.mk [])
noncomputable def ob231 (P : Params) : Obj := Obj.mk (Value.type "function") Option.none (Data.func (fdm (meth 18 12) (Str.ofString "SendPart.on_lost") 3 [] Value.none Value.none Value.none (st "quic.sendpart" 366) Option.none (Value.ref 230) Value.none 0)) (Array.mk [])
noncomputable def ob232 (P : Params) : Obj := Obj.mk (Value.type "tuple") Option.none (Data.seq (Array.mk []) 0) (Array.mk [])
noncomputable def ob233 (P : Params) : Obj := Obj.mk Value.none Option.none (Data.fields (Array.mk [])) (Array.mk [])
noncomputable def ob234 (P : Params) : Obj := Obj.mk (Value.type "tuple") Option.none (Data.seq (Array.mk [st "self" 506]) 0) (Array.mk [])
noncomputable def ob235 (P : Params) : Obj := Obj.mk (Value.type "tuple") Option.none (Data.seq (Array.mk []) 0) (Array.mk [])
noncomputable def ob236 (P : Params) : Obj := Obj.mk Value.none Option.none (Data.func (fdm (meth 18 13) (Str.ofString "SendPart.on_reset_acked") 0 [] Value.none Value.none Value.none Value.none Option.none Value.none Value.none 0)) (Array.mk [])
noncomputable def ob237 (P : Params) : Obj := Obj.mk (Value.type "code") Option.none (Data.fields (Array.mk [st "on_reset_acked" 503, st "SendPart.on_reset_acked" 504, st "/claim/cut.py" 505, Value.int 173 0, Value.int 1 0, Value.int 0 0, Value.int 0 0, Value.int 3 0, Value.ref 232, Value.bool Bool.true, Value.int 181 0, Value.ref 233, Value.none, Value.ref 234, Value.ref 235, Value.ref 236, Value.int 507 0, Value.int 173 0, st "/claim/cut.py" 508])) (Array.mk [])
noncomputable def ob238 (P : Params) : Obj := Obj.mk (Value.type "function") Option.none (Data.func (fdm (meth 18 13) (Str.ofString "SendPart.on_reset_acked") 3 [] Value.none Value.none Value.none (st "quic.sendpart" 366) Option.none (Value.ref 237) Value.none 0)) (Array.mk [])
noncomputable def ob239 (P : Params) : Obj := Obj.mk (Value.type "tuple") Option.none (Data.seq (Array.mk []) 0) (Array.mk [])
noncomputable def ob240 (P : Params) : Obj := Obj.mk Value.none Option.none (Data.fields (Array.mk [])) (Array.mk [])
noncomputable def ob241 (P : Params) : Obj := Obj.mk (Value.type "tuple") Option.none (Data.seq (Array.mk [st "self" 513]) 0) (Array.mk [])
noncomputable def ob242 (P : Params) : Obj := Obj.mk (Value.type "tuple") Option.none (Data.seq (Array.mk []) 0) (Array.mk [])
noncomputable def ob243 (P : Params) : Obj := Obj.mk Value.none Option.none (Data.func (fdm (meth 18 14) (Str.ofString "SendPart.on_reset_lost") 0 [] Value.none Value.none Value.none Value.none Option.none Value.none Value.none 0)) (Array.mk [])
noncomputable def ob244 (P : Params) : Obj := Obj.mk (Value.type "code") Option.none (Data.fields (Array.mk [st "on_reset_lost" 510, st "SendPart.on_reset_lost" 511, st "/claim/cut.py" 512, Value.int 176 0, Value.int 1 0, Value.int 0 0, Value.int 0 0, Value.int 3 0, Value.ref 239, Value.bool Bool.true, Value.int 181 0, Value.ref 240, Value.none, Value.ref 241, Value.ref 242, Value.ref 243, Value.int 514 0, Value.int 176 0, st "/claim/cut.py" 515])) (Array.mk [])
noncomputable def ob245 (P : Params) : Obj := Obj.mk (Value.type "function") Option.none (Data.func (fdm (meth 18 14) (Str.ofString "SendPart.on_reset_lost") 3 [] Value.none Value.none Value.none (st "quic.sendpart" 366) Option.none (Value.ref 244) Value.none 0)) (Array.mk [])
noncomputable def ob246 (P : Params) : Obj := Obj.mk (Value.type "tuple") Option.none (Data.seq (Array.mk []) 0) (Array.mk [])
noncomputable def ob247 (P : Params) : Obj := Obj.mk Value.none Option.none (Data.fields (Array.mk [])) (Array.mk [])
noncomputable def ob248 (P : Params) : Obj := Obj.mk (Value.type "tuple") Option.none (Data.seq (Array.mk [st "self" 520]) 0) (Array.mk [])
noncomputable def ob249 (P : Params) : Obj := Obj.mk (Value.type "tuple") Option.none (Data.seq (Array.mk []) 0) (Array.mk [])
noncomputable def ob250 (P : Params) : Obj := Obj.mk Value.none Option.none (Data.func (fdm (meth 18 15) (Str.ofString "SendPart.is_over") 0 [] Value.none Value.none Value.none Value.none Option.none Value.none Value.none 0)) (Array.mk [])
noncomputable def ob251 (P : Params) : Obj := Obj.mk (Value.type "code") Option.none (Data.fields (Array.mk [st "is_over" 517, st "SendPart.is_over" 518, st "/claim/cut.py" 519, Value.int 179 0, Value.int 1 0, Value.int 0 0, Value.int 0 0, Value.int 3 0, Value.ref 246, Value.bool Bool.true, Value.int 181 0, Value.ref 247, Value.none, Value.ref 248, Value.ref 249, Value.ref 250, Value.int 521 0, Value.int 179 0, st "/claim/cut.py" 522])) (Array.mk [])
noncomputable def ob252 (P : Params) : Obj := Obj.mk (Value.type "function") Option.none (Data.func (fdm (meth 18 15) (Str.ofString "SendPart.is_over") 3 [] Value.none Value.none Value.none (st "quic.sendpart" 366) Option.none (Value.ref 251) Value.none 0)) (Array.mk [])
noncomputable def ob253 (P : Params) : Obj := Obj.mk (Value.type "tuple") Option.none (Data.seq (Array.mk [st "acked" 524, st "is_end_acked" 525, st "is_finished" 526, st "limit" 527, st "lost" 528, st "owes_end" 529, st "owes_reset" 530, st "reset_code" 531, st "sent_to" 532, st "state" 533, st "written" 534]) 0) (Array.mk [])
noncomputable def ob254 (P : Params) : Obj := Obj.mk (Value.type "dict") Option.none (Data.dict (Array.mk [en P (Str.ofString "__module__") 384 (st "quic.sendpart" 366), en P (Str.ofString "__firstlineno__") 388 (Value.int 89 387), en P (Str.ofString "__init__") 396 (Value.ref 147), en P (Str.ofString "write") 404 (Value.ref 154), en P (Str.ofString "finish") 411 (Value.ref 161), en P (Str.ofString "reset") 419 (Value.ref 168), en P (Str.ofString "on_stop") 427 (Value.ref 175), en P (Str.ofString "raise_limit") 435 (Value.ref 182), en P (Str.ofString "new_room") 444 (Value.ref 189), en P (Str.ofString "blocked_at") 451 (Value.ref 196), en P (Str.ofString "has_to_send") 459 (Value.ref 203), en P (Str.ofString "next_chunk") 473 (Value.ref 210), en P (Str.ofString "next_reset") 480 (Value.ref 217), en P (Str.ofString "on_acked") 490 (Value.ref 224), en P (Str.ofString "on_lost") 502 (Value.ref 231), en P (Str.ofString "on_reset_acked") 509 (Value.ref 238), en P (Str.ofString "on_reset_lost") 516 (Value.ref 245), en P (Str.ofString "is_over") 523 (Value.ref 252), en P (Str.ofString "__static_attributes__") 535 (Value.ref 253), en P (Str.ofString "__dict__") 537 (Value.ref 256), en P (Str.ofString "__weakref__") 539 (Value.ref 257), en P (Str.ofString "__doc__") 540 Value.none]) 4) (Array.mk [])
noncomputable def ob255 (P : Params) : Obj := Obj.mk (Value.type "type") Option.none (Data.cls (ClassData.mk (Str.ofString "SendPart") [Value.type "object"] [Value.ref 255, Value.type "object"] 254 (Str.ofString "SendPart") Bool.true [] [] Bool.false Option.none Bool.false)) (Array.mk [Option.none, Option.none, Option.some (st "SendPart" 377), Option.some (st "SendPart" 385), Option.some (Value.builtin "object.__new__"), Option.some (Value.bool Bool.true)])
noncomputable def ob256 (P : Params) : Obj := Obj.mk (Value.type "getset_descriptor") Option.none (Data.fields (Array.mk [st "__dict__" 536, Value.ref 255, Value.builtin "function.__dict__", Value.builtin "function.__dict__#set"])) (Array.mk [])
noncomputable def ob257 (P : Params) : Obj := Obj.mk (Value.type "getset_descriptor") Option.none (Data.fields (Array.mk [st "__weakref__" 538, Value.ref 255, Value.builtin "ExceptionGroup.__weakref__", Value.none])) (Array.mk [])
noncomputable def ob258 (P : Params) : Obj := Obj.mk (Value.type "super") Option.none (Data.fields (Array.mk [Value.ref 255, Value.ref 255, Value.ref 255])) (Array.mk [])
noncomputable def ob259 (P : Params) : Obj := Obj.mk (Value.type "builtin_function_or_method") Option.none (Data.fields (Array.mk [Value.builtin "object.__init_subclass__", Value.ref 255])) (Array.mk [])
noncomputable def hpa (P : Params) : Heap := Heap.mk (Array.mk [boot_o_0 P, boot_o_1 P, boot_o_2 P, boot_o_3 P, boot_o_4 P, boot_o_5 P, boot_o_6 P, boot_o_7 P, boot_o_8 P, boot_o_9 P, boot_o_10 P, ob11 P, ob12 P, ob13 P, ob14 P]) lif
noncomputable def thpa (P : Params) : BT := (.node (boot_o_0 P) (.node (boot_o_1 P) (.node (boot_o_3 P) (.node (boot_o_7 P) .nil .nil) (.node (ob11 P) .nil .nil)) (.node (boot_o_5 P) (.node (boot_o_9 P) .nil .nil) (.node (ob13 P) .nil .nil))) (.node (boot_o_2 P) (.node (boot_o_4 P) (.node (boot_o_8 P) .nil .nil) (.node (ob12 P) .nil .nil)) (.node (boot_o_6 P) (.node (boot_o_10 P) .nil .nil) (.node (ob14 P) .nil .nil))))
-- hpa 15: toks 187
noncomputable def hpb (P : Params) : Heap := Heap.mk (Array.mk [boot_o_0 P, boot_o_1 P, boot_o_2 P, ob3 P, boot_o_4 P, boot_o_5 P, boot_o_6 P, boot_o_7 P, boot_o_8 P, boot_o_9 P, boot_o_10 P, ob11 P, ob12b P, ob13 P, ob14 P, ob15 P, ob16 P, ob17 P, ob18 P, ob19 P, ob20 P, ob21 P, ob22 P, ob23 P, ob24 P, ob25 P, ob26 P, ob27 P, ob28 P, ob29 P, ob30 P, ob31 P, ob32 P, ob33 P, ob34 P, ob35 P, ob36 P, ob37 P, ob38 P, ob39 P, ob40 P, ob41 P, ob42 P, ob43 P, ob44 P, ob45 P, ob46 P, ob47 P, ob48 P, ob49 P, ob50 P, ob51 P, ob52 P, ob53 P, ob54 P, ob55 P, ob56 P, ob57 P, ob58 P, ob59 P, ob60 P, ob61 P, ob62 P, ob63 P, ob64 P, ob65 P, ob66 P, ob67 P, ob68 P, ob69 P, ob70 P, ob71 P, ob72 P, ob73 P, ob74 P, ob75 P, ob76 P, ob77 P, ob78 P, ob79 P, ob80 P, ob81 P, ob82 P, ob83 P, ob84 P, ob85 P, ob86 P, ob87 P, ob88 P, ob89 P, ob90 P, ob91 P, ob92 P, ob93 P, ob94 P, ob95 P, ob96 P, ob97 P, ob98 P, ob99 P, ob100 P, ob101 P, ob102 P, ob103 P, ob104 P, ob105 P, ob106 P, ob107 P, ob108 P, ob109 P, ob110 P, ob111 P, ob112 P]) lif
noncomputable def thpb (P : Params) : BT := (.node (boot_o_0 P) (.node (boot_o_1 P) (.node (ob3 P) (.node (boot_o_7 P) (.node (ob15 P) (.node (ob31 P) (.node (ob63 P) .nil .nil) (.node (ob95 P) .nil .nil)) (.node (ob47 P) (.node (ob79 P) .nil .nil) (.node (ob111 P) .nil .nil))) (.node (ob23 P) (.node (ob39 P) (.node (ob71 P) .nil .nil) (.node (ob103 P) .nil .nil)) (.node (ob55 P) (.node (ob87 P) .nil .nil) .nil))) (.node (ob11 P) (.node (ob19 P) (.node (ob35 P) (.node (ob67 P) .nil .nil) (.node (ob99 P) .nil .nil)) (.node (ob51 P) (.node (ob83 P) .nil .nil) .nil)) (.node (ob27 P) (.node (ob43 P) (.node (ob75 P) .nil .nil) (.node (ob107 P) .nil .nil)) (.node (ob59 P) (.node (ob91 P) .nil .nil) .nil)))) (.node (boot_o_5 P) (.node (boot_o_9 P) (.node (ob17 P) (.node (ob33 P) (.node (ob65 P) .nil .nil) (.node (ob97 P) .nil .nil)) (.node (ob49 P) (.node (ob81 P) .nil .nil) .nil)) (.node (ob25 P) (.node (ob41 P) (.node (ob73 P) .nil .nil) (.node (ob105 P) .nil .nil)) (.node (ob57 P) (.node (ob89 P) .nil .nil) .nil))) (.node (ob13 P) (.node (ob21 P) (.node (ob37 P) (.node (ob69 P) .nil .nil) (.node (ob101 P) .nil .nil)) (.node (ob53 P) (.node (ob85 P) .nil .nil) .nil)) (.node (ob29 P) (.node (ob45 P) (.node (ob77 P) .nil .nil) (.node (ob109 P) .nil .nil)) (.node (ob61 P) (.node (ob93 P) .nil .nil) .nil))))) (.node (boot_o_2 P) (.node (boot_o_4 P) (.node (boot_o_8 P) (.node (ob16 P) (.node (ob32 P) (.node (ob64 P) .nil .nil) (.node (ob96 P) .nil .nil)) (.node (ob48 P) (.node (ob80 P) .nil .nil) (.node (ob112 P) .nil .nil))) (.node (ob24 P) (.node (ob40 P) (.node (ob72 P) .nil .nil) (.node (ob104 P) .nil .nil)) (.node (ob56 P) (.node (ob88 P) .nil .nil) .nil))) (.node (ob12b P) (.node (ob20 P) (.node (ob36 P) (.node (ob68 P) .nil .nil) (.node (ob100 P) .nil .nil)) (.node (ob52 P) (.node (ob84 P) .nil .nil) .nil)) (.node (ob28 P) (.node (ob44 P) (.node (ob76 P) .nil .nil) (.node (ob108 P) .nil .nil)) (.node (ob60 P) (.node (ob92 P) .nil .nil) .nil)))) (.node (boot_o_6 P) (.node (boot_o_10 P) (.node (ob18 P) (.node (ob34 P) (.node (ob66 P) .nil .nil) (.node (ob98 P) .nil .nil)) (.node (ob50 P) (.node (ob82 P) .nil .nil) .nil)) (.node (ob26 P) (.node (ob42 P) (.node (ob74 P) .nil .nil) (.node (ob106 P) .nil .nil)) (.node (ob58 P) (.node (ob90 P) .nil .nil) .nil))) (.node (ob14 P) (.node (ob22 P) (.node (ob38 P) (.node (ob70 P) .nil .nil) (.node (ob102 P) .nil .nil)) (.node (ob54 P) (.node (ob86 P) .nil .nil) .nil)) (.node (ob30 P) (.node (ob46 P) (.node (ob78 P) .nil .nil) (.node (ob110 P) .nil .nil)) (.node (ob62 P) (.node (ob94 P) .nil .nil) .nil))))))
-- hpb 113: toks 333
noncomputable def hpc (P : Params) : Heap := Heap.mk (Array.mk [boot_o_0 P, boot_o_1 P, ob2 P, ob3b P, boot_o_4 P, boot_o_5 P, boot_o_6 P, boot_o_7 P, boot_o_8 P, boot_o_9 P, boot_o_10 P, ob11 P, ob12c P, ob13 P, ob14 P, ob15 P, ob16 P, ob17 P, ob18 P, ob19 P, ob20 P, ob21 P, ob22 P, ob23 P, ob24 P, ob25 P, ob26 P, ob27 P, ob28 P, ob29 P, ob30 P, ob31 P, ob32 P, ob33 P, ob34 P, ob35 P, ob36 P, ob37 P, ob38 P, ob39 P, ob40 P, ob41 P, ob42 P, ob43 P, ob44 P, ob45 P, ob46 P, ob47 P, ob48 P, ob49 P, ob50 P, ob51 P, ob52 P, ob53 P, ob54 P, ob55 P, ob56 P, ob57 P, ob58 P, ob59 P, ob60 P, ob61 P, ob62 P, ob63 P, ob64 P, ob65 P, ob66 P, ob67 P, ob68 P, ob69 P, ob70 P, ob71 P, ob72 P, ob73 P, ob74 P, ob75 P, ob76 P, ob77 P, ob78 P, ob79 P, ob80 P, ob81 P, ob82 P, ob83 P, ob84 P, ob85 P, ob86 P, ob87 P, ob88 P, ob89 P, ob90 P, ob91 P, ob92 P, ob93 P, ob94 P, ob95 P, ob96 P, ob97 P, ob98 P, ob99 P, ob100 P, ob101 P, ob102 P, ob103 P, ob104 P, ob105 P, ob106 P, ob107 P, ob108 P, ob109 P, ob110 P, ob111 P, ob112 P, ob113 P, ob114 P, ob115 P, ob116 P, ob117 P, ob118 P, ob119 P, ob120 P, ob121 P, ob122 P, ob123 P, ob124 P, ob125 P, ob126 P, ob127 P, ob128 P, ob129 P, ob130 P, ob131 P, ob132 P, ob133 P]) lif
noncomputable def thpc (P : Params) : BT := (.node (boot_o_0 P) (.node (boot_o_1 P) (.node (ob3b P) (.node (boot_o_7 P) (.node (ob15 P) (.node (ob31 P) (.node (ob63 P) (.node (ob127 P) .nil .nil) .nil) (.node (ob95 P) .nil .nil)) (.node (ob47 P) (.node (ob79 P) .nil .nil) (.node (ob111 P) .nil .nil))) (.node (ob23 P) (.node (ob39 P) (.node (ob71 P) .nil .nil) (.node (ob103 P) .nil .nil)) (.node (ob55 P) (.node (ob87 P) .nil .nil) (.node (ob119 P) .nil .nil)))) (.node (ob11 P) (.node (ob19 P) (.node (ob35 P) (.node (ob67 P) (.node (ob131 P) .nil .nil) .nil) (.node (ob99 P) .nil .nil)) (.node (ob51 P) (.node (ob83 P) .nil .nil) (.node (ob115 P) .nil .nil))) (.node (ob27 P) (.node (ob43 P) (.node (ob75 P) .nil .nil) (.node (ob107 P) .nil .nil)) (.node (ob59 P) (.node (ob91 P) .nil .nil) (.node (ob123 P) .nil .nil))))) (.node (boot_o_5 P) (.node (boot_o_9 P) (.node (ob17 P) (.node (ob33 P) (.node (ob65 P) (.node (ob129 P) .nil .nil) .nil) (.node (ob97 P) .nil .nil)) (.node (ob49 P) (.node (ob81 P) .nil .nil) (.node (ob113 P) .nil .nil))) (.node (ob25 P) (.node (ob41 P) (.node (ob73 P) .nil .nil) (.node (ob105 P) .nil .nil)) (.node (ob57 P) (.node (ob89 P) .nil .nil) (.node (ob121 P) .nil .nil)))) (.node (ob13 P) (.node (ob21 P) (.node (ob37 P) (.node (ob69 P) (.node (ob133 P) .nil .nil) .nil) (.node (ob101 P) .nil .nil)) (.node (ob53 P) (.node (ob85 P) .nil .nil) (.node (ob117 P) .nil .nil))) (.node (ob29 P) (.node (ob45 P) (.node (ob77 P) .nil .nil) (.node (ob109 P) .nil .nil)) (.node (ob61 P) (.node (ob93 P) .nil .nil) (.node (ob125 P) .nil .nil)))))) (.node (ob2 P) (.node (boot_o_4 P) (.node (boot_o_8 P) (.node (ob16 P) (.node (ob32 P) (.node (ob64 P) (.node (ob128 P) .nil .nil) .nil) (.node (ob96 P) .nil .nil)) (.node (ob48 P) (.node (ob80 P) .nil .nil) (.node (ob112 P) .nil .nil))) (.node (ob24 P) (.node (ob40 P) (.node (ob72 P) .nil .nil) (.node (ob104 P) .nil .nil)) (.node (ob56 P) (.node (ob88 P) .nil .nil) (.node (ob120 P) .nil .nil)))) (.node (ob12c P) (.node (ob20 P) (.node (ob36 P) (.node (ob68 P) (.node (ob132 P) .nil .nil) .nil) (.node (ob100 P) .nil .nil)) (.node (ob52 P) (.node (ob84 P) .nil .nil) (.node (ob116 P) .nil .nil))) (.node (ob28 P) (.node (ob44 P) (.node (ob76 P) .nil .nil) (.node (ob108 P) .nil .nil)) (.node (ob60 P) (.node (ob92 P) .nil .nil) (.node (ob124 P) .nil .nil))))) (.node (boot_o_6 P) (.node (boot_o_10 P) (.node (ob18 P) (.node (ob34 P) (.node (ob66 P) (.node (ob130 P) .nil .nil) .nil) (.node (ob98 P) .nil .nil)) (.node (ob50 P) (.node (ob82 P) .nil .nil) (.node (ob114 P) .nil .nil))) (.node (ob26 P) (.node (ob42 P) (.node (ob74 P) .nil .nil) (.node (ob106 P) .nil .nil)) (.node (ob58 P) (.node (ob90 P) .nil .nil) (.node (ob122 P) .nil .nil)))) (.node (ob14 P) (.node (ob22 P) (.node (ob38 P) (.node (ob70 P) .nil .nil) (.node (ob102 P) .nil .nil)) (.node (ob54 P) (.node (ob86 P) .nil .nil) (.node (ob118 P) .nil .nil))) (.node (ob30 P) (.node (ob46 P) (.node (ob78 P) .nil .nil) (.node (ob110 P) .nil .nil)) (.node (ob62 P) (.node (ob94 P) .nil .nil) (.node (ob126 P) .nil .nil)))))))
-- hpc 134: toks 377
noncomputable def hpd (P : Params) : Heap := Heap.mk (Array.mk [boot_o_0 P, boot_o_1 P, ob2 P, ob3c P, boot_o_4 P, boot_o_5 P, boot_o_6 P, boot_o_7 P, boot_o_8 P, boot_o_9 P, boot_o_10 P, ob11 P, ob12d P, ob13 P, ob14 P, ob15 P, ob16 P, ob17 P, ob18 P, ob19 P, ob20 P, ob21 P, ob22 P, ob23 P, ob24 P, ob25 P, ob26 P, ob27 P, ob28 P, ob29 P, ob30 P, ob31 P, ob32 P, ob33 P, ob34 P, ob35 P, ob36 P, ob37 P, ob38 P, ob39 P, ob40 P, ob41 P, ob42 P, ob43 P, ob44 P, ob45 P, ob46 P, ob47 P, ob48 P, ob49 P, ob50 P, ob51 P, ob52 P, ob53 P, ob54 P, ob55 P, ob56 P, ob57 P, ob58 P, ob59 P, ob60 P, ob61 P, ob62 P, ob63 P, ob64 P, ob65 P, ob66 P, ob67 P, ob68 P, ob69 P, ob70 P, ob71 P, ob72 P, ob73 P, ob74 P, ob75 P, ob76 P, ob77 P, ob78 P, ob79 P, ob80 P, ob81 P, ob82 P, ob83 P, ob84 P, ob85 P, ob86 P, ob87 P, ob88 P, ob89 P, ob90 P, ob91 P, ob92 P, ob93 P, ob94 P, ob95 P, ob96 P, ob97 P, ob98 P, ob99 P, ob100 P, ob101 P, ob102 P, ob103 P, ob104 P, ob105 P, ob106 P, ob107 P, ob108 P, ob109 P, ob110 P, ob111 P, ob112 P, ob113 P, ob114 P, ob115 P, ob116 P, ob117 P, ob118 P, ob119 P, ob120 P, ob121 P, ob122 P, ob123 P, ob124 P, ob125 P, ob126 P, ob127 P, ob128 P, ob129 P, ob130 P, ob131 P, ob132 P, ob133 P, ob134 P, ob135 P, ob136 P, ob137 P, ob138 P, ob139 P, ob140 P, ob141 P, ob142 P, ob143 P, ob144 P, ob145 P, ob146 P, ob147 P, ob148 P, ob149 P, ob150 P, ob151 P, ob152 P, ob153 P, ob154 P, ob155 P, ob156 P, ob157 P, ob158 P, ob159 P, ob160 P, ob161 P, ob162 P, ob163 P, ob164 P, ob165 P, ob166 P, ob167 P, ob168 P, ob169 P, ob170 P, ob171 P, ob172 P, ob173 P, ob174 P, ob175 P, ob176 P, ob177 P, ob178 P, ob179 P, ob180 P, ob181 P, ob182 P, ob183 P, ob184 P, ob185 P, ob186 P, ob187 P, ob188 P, ob189 P, ob190 P, ob191 P, ob192 P, ob193 P, ob194 P, ob195 P, ob196 P, ob197 P, ob198 P, ob199 P, ob200 P, ob201 P, ob202 P, ob203 P, ob204 P, ob205 P, ob206 P, ob207 P, ob208 P, ob209 P, ob210 P, ob211 P, ob212 P, ob213 P, ob214 P, ob215 P, ob216 P, ob217 P, ob218 P, ob219 P, ob220 P, ob221 P, ob222 P, ob223 P, ob224 P, ob225 P, ob226 P, ob227 P, ob228 P, ob229 P, ob230 P, ob231 P, ob232 P, ob233 P, ob234 P, ob235 P, ob236 P, ob237 P, ob238 P, ob239 P, ob240 P, ob241 P, ob242 P, ob243 P, ob244 P, ob245 P, ob246 P, ob247 P, ob248 P, ob249 P, ob250 P, ob251 P, ob252 P, ob253 P, ob254 P, ob255 P, ob256 P, ob257 P, ob258 P, ob259 P]) lif
noncomputable def thpd (P : Params) : BT := (.node (boot_o_0 P) (.node (boot_o_1 P) (.node (ob3c P) (.node (boot_o_7 P) (.node (ob15 P) (.node (ob31 P) (.node (ob63 P) (.node (ob127 P) (.node (ob255 P) .nil .nil) .nil) (.node (ob191 P) .nil .nil)) (.node (ob95 P) (.node (ob159 P) .nil .nil) (.node (ob223 P) .nil .nil))) (.node (ob47 P) (.node (ob79 P) (.node (ob143 P) .nil .nil) (.node (ob207 P) .nil .nil)) (.node (ob111 P) (.node (ob175 P) .nil .nil) (.node (ob239 P) .nil .nil)))) (.node (ob23 P) (.node (ob39 P) (.node (ob71 P) (.node (ob135 P) .nil .nil) (.node (ob199 P) .nil .nil)) (.node (ob103 P) (.node (ob167 P) .nil .nil) (.node (ob231 P) .nil .nil))) (.node (ob55 P) (.node (ob87 P) (.node (ob151 P) .nil .nil) (.node (ob215 P) .nil .nil)) (.node (ob119 P) (.node (ob183 P) .nil .nil) (.node (ob247 P) .nil .nil))))) (.node (ob11 P) (.node (ob19 P) (.node (ob35 P) (.node (ob67 P) (.node (ob131 P) (.node (ob259 P) .nil .nil) .nil) (.node (ob195 P) .nil .nil)) (.node (ob99 P) (.node (ob163 P) .nil .nil) (.node (ob227 P) .nil .nil))) (.node (ob51 P) (.node (ob83 P) (.node (ob147 P) .nil .nil) (.node (ob211 P) .nil .nil)) (.node (ob115 P) (.node (ob179 P) .nil .nil) (.node (ob243 P) .nil .nil)))) (.node (ob27 P) (.node (ob43 P) (.node (ob75 P) (.node (ob139 P) .nil .nil) (.node (ob203 P) .nil .nil)) (.node (ob107 P) (.node (ob171 P) .nil .nil) (.node (ob235 P) .nil .nil))) (.node (ob59 P) (.node (ob91 P) (.node (ob155 P) .nil .nil) (.node (ob219 P) .nil .nil)) (.node (ob123 P) (.node (ob187 P) .nil .nil) (.node (ob251 P) .nil .nil)))))) (.node (boot_o_5 P) (.node (boot_o_9 P) (.node (ob17 P) (.node (ob33 P) (.node (ob65 P) (.node (ob129 P) (.node (ob257 P) .nil .nil) .nil) (.node (ob193 P) .nil .nil)) (.node (ob97 P) (.node (ob161 P) .nil .nil) (.node (ob225 P) .nil .nil))) (.node (ob49 P) (.node (ob81 P) (.node (ob145 P) .nil .nil) (.node (ob209 P) .nil .nil)) (.node (ob113 P) (.node (ob177 P) .nil .nil) (.node (ob241 P) .nil .nil)))) (.node (ob25 P) (.node (ob41 P) (.node (ob73 P) (.node (ob137 P) .nil .nil) (.node (ob201 P) .nil .nil)) (.node (ob105 P) (.node (ob169 P) .nil .nil) (.node (ob233 P) .nil .nil))) (.node (ob57 P) (.node (ob89 P) (.node (ob153 P) .nil .nil) (.node (ob217 P) .nil .nil)) (.node (ob121 P) (.node (ob185 P) .nil .nil) (.node (ob249 P) .nil .nil))))) (.node (ob13 P) (.node (ob21 P) (.node (ob37 P) (.node (ob69 P) (.node (ob133 P) .nil .nil) (.node (ob197 P) .nil .nil)) (.node (ob101 P) (.node (ob165 P) .nil .nil) (.node (ob229 P) .nil .nil))) (.node (ob53 P) (.node (ob85 P) (.node (ob149 P) .nil .nil) (.node (ob213 P) .nil .nil)) (.node (ob117 P) (.node (ob181 P) .nil .nil) (.node (ob245 P) .nil .nil)))) (.node (ob29 P) (.node (ob45 P) (.node (ob77 P) (.node (ob141 P) .nil .nil) (.node (ob205 P) .nil .nil)) (.node (ob109 P) (.node (ob173 P) .nil .nil) (.node (ob237 P) .nil .nil))) (.node (ob61 P) (.node (ob93 P) (.node (ob157 P) .nil .nil) (.node (ob221 P) .nil .nil)) (.node (ob125 P) (.node (ob189 P) .nil .nil) (.node (ob253 P) .nil .nil))))))) (.node (ob2 P) (.node (boot_o_4 P) (.node (boot_o_8 P) (.node (ob16 P) (.node (ob32 P) (.node (ob64 P) (.node (ob128 P) (.node (ob256 P) .nil .nil) .nil) (.node (ob192 P) .nil .nil)) (.node (ob96 P) (.node (ob160 P) .nil .nil) (.node (ob224 P) .nil .nil))) (.node (ob48 P) (.node (ob80 P) (.node (ob144 P) .nil .nil) (.node (ob208 P) .nil .nil)) (.node (ob112 P) (.node (ob176 P) .nil .nil) (.node (ob240 P) .nil .nil)))) (.node (ob24 P) (.node (ob40 P) (.node (ob72 P) (.node (ob136 P) .nil .nil) (.node (ob200 P) .nil .nil)) (.node (ob104 P) (.node (ob168 P) .nil .nil) (.node (ob232 P) .nil .nil))) (.node (ob56 P) (.node (ob88 P) (.node (ob152 P) .nil .nil) (.node (ob216 P) .nil .nil)) (.node (ob120 P) (.node (ob184 P) .nil .nil) (.node (ob248 P) .nil .nil))))) (.node (ob12d P) (.node (ob20 P) (.node (ob36 P) (.node (ob68 P) (.node (ob132 P) .nil .nil) (.node (ob196 P) .nil .nil)) (.node (ob100 P) (.node (ob164 P) .nil .nil) (.node (ob228 P) .nil .nil))) (.node (ob52 P) (.node (ob84 P) (.node (ob148 P) .nil .nil) (.node (ob212 P) .nil .nil)) (.node (ob116 P) (.node (ob180 P) .nil .nil) (.node (ob244 P) .nil .nil)))) (.node (ob28 P) (.node (ob44 P) (.node (ob76 P) (.node (ob140 P) .nil .nil) (.node (ob204 P) .nil .nil)) (.node (ob108 P) (.node (ob172 P) .nil .nil) (.node (ob236 P) .nil .nil))) (.node (ob60 P) (.node (ob92 P) (.node (ob156 P) .nil .nil) (.node (ob220 P) .nil .nil)) (.node (ob124 P) (.node (ob188 P) .nil .nil) (.node (ob252 P) .nil .nil)))))) (.node (boot_o_6 P) (.node (boot_o_10 P) (.node (ob18 P) (.node (ob34 P) (.node (ob66 P) (.node (ob130 P) (.node (ob258 P) .nil .nil) .nil) (.node (ob194 P) .nil .nil)) (.node (ob98 P) (.node (ob162 P) .nil .nil) (.node (ob226 P) .nil .nil))) (.node (ob50 P) (.node (ob82 P) (.node (ob146 P) .nil .nil) (.node (ob210 P) .nil .nil)) (.node (ob114 P) (.node (ob178 P) .nil .nil) (.node (ob242 P) .nil .nil)))) (.node (ob26 P) (.node (ob42 P) (.node (ob74 P) (.node (ob138 P) .nil .nil) (.node (ob202 P) .nil .nil)) (.node (ob106 P) (.node (ob170 P) .nil .nil) (.node (ob234 P) .nil .nil))) (.node (ob58 P) (.node (ob90 P) (.node (ob154 P) .nil .nil) (.node (ob218 P) .nil .nil)) (.node (ob122 P) (.node (ob186 P) .nil .nil) (.node (ob250 P) .nil .nil))))) (.node (ob14 P) (.node (ob22 P) (.node (ob38 P) (.node (ob70 P) (.node (ob134 P) .nil .nil) (.node (ob198 P) .nil .nil)) (.node (ob102 P) (.node (ob166 P) .nil .nil) (.node (ob230 P) .nil .nil))) (.node (ob54 P) (.node (ob86 P) (.node (ob150 P) .nil .nil) (.node (ob214 P) .nil .nil)) (.node (ob118 P) (.node (ob182 P) .nil .nil) (.node (ob246 P) .nil .nil)))) (.node (ob30 P) (.node (ob46 P) (.node (ob78 P) (.node (ob142 P) .nil .nil) (.node (ob206 P) .nil .nil)) (.node (ob110 P) (.node (ob174 P) .nil .nil) (.node (ob238 P) .nil .nil))) (.node (ob62 P) (.node (ob94 P) (.node (ob158 P) .nil .nil) (.node (ob222 P) .nil .nil)) (.node (ob126 P) (.node (ob190 P) .nil .nil) (.node (ob254 P) .nil .nil))))))))
-- hpd 260: toks 543
noncomputable def ta' (w : World) (os : OsState) : SharedT := ⟨thpa w.params, 15, lif, Array.mk [], boot_drawn, 187, os⟩
noncomputable def tb' (w : World) (os : OsState) : SharedT := ⟨thpb w.params, 113, lif, Array.mk [], boot_drawn, 333, os⟩
noncomputable def tc' (w : World) (os : OsState) : SharedT := ⟨thpc w.params, 134, lif, Array.mk [], boot_drawn, 377, os⟩
noncomputable def td' (w : World) (os : OsState) : SharedT := ⟨thpd w.params, 260, lif, Array.mk [], boot_drawn, 543, os⟩
noncomputable def env0 : Env := { scope := PySem.Challenge.pw_sa0569_01.main.scope, locals := mainNs, globals := mainNs, cells := [], code := .ref 13, frame := some 14 }
noncomputable def cE : Code := .body (behindTheImports PySem.Challenge.pw_sa0569_01) env0
noncomputable def sA : List Stmt := (behindTheImports PySem.Challenge.pw_sa0569_01).take 11
noncomputable def rA : List Stmt := (behindTheImports PySem.Challenge.pw_sa0569_01).drop 11
noncomputable def sB : List Stmt := rA.take 7
noncomputable def rB : List Stmt := rA.drop 7
noncomputable def sC : List Stmt := rB.take 1
noncomputable def rC : List Stmt := rB.drop 1
theorem split5 : sA ++ (sB ++ (sC ++ rC)) = behindTheImports PySem.Challenge.pw_sa0569_01 := by
  unfold sC rC; rw [List.take_append_drop]; unfold sB rB; rw [List.take_append_drop]; unfold sA rA; rw [List.take_append_drop]
noncomputable def s0' (w : World) (os : OsState) : Shared := ⟨boot_heap w.params, Array.mk [], boot_drawn, boot_toks, os⟩
noncomputable def sa' (w : World) (os : OsState) : Shared := ⟨hpa w.params, Array.mk [], boot_drawn, 187, os⟩
noncomputable def sb' (w : World) (os : OsState) : Shared := ⟨hpb w.params, Array.mk [], boot_drawn, 333, os⟩
noncomputable def sc' (w : World) (os : OsState) : Shared := ⟨hpc w.params, Array.mk [], boot_drawn, 377, os⟩
noncomputable def sd' (w : World) (os : OsState) : Shared := ⟨hpd w.params, Array.mk [], boot_drawn, 543, os⟩
noncomputable def B0 : List Frame := [topFrame ⟨0, 0, 0, 0⟩]
theorem hd_pre (w : World) (os : OsState) : topGo treeTable PySem.Challenge.pw_sa0569_01 w 11 (some (.ref 6)) 12 (s0' w os) (topStub PySem.Challenge.pw_sa0569_01) = some (sa' w os, ⟨denote treeTable cE, cE, ⟨0, 0, 0, 0⟩, [topFrame ⟨0, 0, 0, 0⟩]⟩) := by
  kernel_rfl
theorem hd_block (w : World) (os : OsState) : segRun treeTable PySem.Challenge.pw_sa0569_01 w 11 (some (.ref 6)) 1 1 (sa' w os) (blockOf (behindTheImports PySem.Challenge.pw_sa0569_01) env0 cE ⟨0, 0, 0, 0⟩ [topFrame ⟨0, 0, 0, 0⟩]) = some (.next, sa' w os, cE, ⟨0, 0, 0, 0⟩) := by
  kernel_rfl
theorem ta_abs (w : World) (os : OsState) : (ta' w os).abs = sa' w os := by kernel_rfl
theorem tb_abs (w : World) (os : OsState) : (tb' w os).abs = sb' w os := by kernel_rfl
theorem tc_abs (w : World) (os : OsState) : (tc' w os).abs = sc' w os := by kernel_rfl
theorem td_abs (w : World) (os : OsState) : (td' w os).abs = sd' w os := by kernel_rfl

/-! the top up to CryptoOut -/
theorem hd_ta (w : World) (os : OsState) : segRunT treeTable PySem.Challenge.pw_sa0569_01 w 11 (some (.ref 6)) 1 620 (ta' w os) (piecesOf sA env0 cE ⟨0, 0, 0, 0⟩ [topFrame ⟨0, 0, 0, 0⟩]) = some (.next, tb' w os, cE, ⟨75, 0, 75, 18⟩) := by
  kernel_rfl
theorem hd_a (w : World) (os : OsState) : segRun treeTable PySem.Challenge.pw_sa0569_01 w 11 (some (.ref 6)) 1 620 (sa' w os) (piecesOf sA env0 cE ⟨0, 0, 0, 0⟩ [topFrame ⟨0, 0, 0, 0⟩]) = some (.next, sb' w os, cE, ⟨75, 0, 75, 18⟩) := by
  have h := segRun_of (hd_ta w os)
  rw [ta_abs, tb_abs] at h
  exact h

/-! the top, QuicError and the constants -/
theorem hd_tb (w : World) (os : OsState) : segRunT treeTable PySem.Challenge.pw_sa0569_01 w 11 (some (.ref 6)) 1 292 (tb' w os) (piecesOf sB env0 cE ⟨75, 0, 75, 18⟩ [topFrame ⟨0, 0, 0, 0⟩]) = some (.next, tc' w os, cE, ⟨88, 0, 88, 11⟩) := by
  kernel_rfl
theorem hd_b (w : World) (os : OsState) : segRun treeTable PySem.Challenge.pw_sa0569_01 w 11 (some (.ref 6)) 1 292 (sb' w os) (piecesOf sB env0 cE ⟨75, 0, 75, 18⟩ [topFrame ⟨0, 0, 0, 0⟩]) = some (.next, sc' w os, cE, ⟨88, 0, 88, 11⟩) := by
  have h := segRun_of (hd_tb w os)
  rw [tb_abs, tc_abs] at h
  exact h

/-! the top, SendPart -/
theorem hd_tc (w : World) (os : OsState) : segRunT treeTable PySem.Challenge.pw_sa0569_01 w 11 (some (.ref 6)) 1 720 (tc' w os) (piecesOf sC env0 cE ⟨88, 0, 88, 11⟩ [topFrame ⟨0, 0, 0, 0⟩]) = some (.next, td' w os, cE, ⟨89, 0, 180, 16⟩) := by
  kernel_rfl
theorem hd_c (w : World) (os : OsState) : segRun treeTable PySem.Challenge.pw_sa0569_01 w 11 (some (.ref 6)) 1 720 (sc' w os) (piecesOf sC env0 cE ⟨88, 0, 88, 11⟩ [topFrame ⟨0, 0, 0, 0⟩]) = some (.next, sd' w os, cE, ⟨89, 0, 180, 16⟩) := by
  have h := segRun_of (hd_tc w os)
  rw [tc_abs, td_abs] at h
  exact h

/-! the head: the text's top, run -/
noncomputable def qv : Program := view PySem.Challenge.pw_sa0569_01 [0, 2, 3, 4, 5, 6, 8, 10, 11, 13, 14, 15, 16, 17, 18, 20, 21, 22, 23, 24]
noncomputable def lv : List (PySem.Str × WData) := [(Str.ofString "OPEN_STATES", .tuple [.str (Str.ofString "ready"), .str (Str.ofString "send")])]
noncomputable def hook : Hook := kHook Mine.K [2,3,27,28,34,35,41,42,48,49,55,56,69,70,76,77,83,84,90,91,97,98,104,105,107,108,133,146,147,153,154,188,189,202,203,209,210,223,224,230,231,254,255,265,266,272,273,279,280,284,285,291,292] (fun _ => by kernel_rfl)
noncomputable def xt (s : Shared) : Bool := xlAt qv lv s && recOk (RowW.records (OpenRow.toRowW (OpenLaw.row PySem.Challenge.rw_sa0569_01))) s
def tlO (p : Program) (s₀ s₁ : Shared) : Option Shared := match staticsOk (importedModules p.main.body) s₀.heap s₁.heap && namesBound p s₁.heap && gensDone s₁ && laidKept s₀.heap s₁.heap with
  | true => some s₁
  | false => none
theorem hd_d (w : World) (os : OsState) : ((topRun treeTable PySem.Challenge.pw_sa0569_01 w 11 (some (.ref 6)) 2075 (sd' w os) (restOf rC env0 cE ⟨89, 0, 180, 16⟩ [topFrame ⟨0, 0, 0, 0⟩])).bind (tlO PySem.Challenge.pw_sa0569_01 (s0' w os))).map (fun s => (openSeen qv [Str.ofString "OPEN_STATES"] (importedModules PySem.Challenge.pw_sa0569_01.main.body) xt true s, Hook.obs hook s)) = some (openGood qv [Str.ofString "OPEN_STATES"], Hook.val hook w) := by
  kernel_rfl

/-! the head: the text's top, run -/
theorem top_cut {p : Program} {w : World} {N M m : Nat} {ann : Option Value} {s₀ s₁ : Shared} {t : Thread} {α : Type} {obs : Shared → α} {v : α}
    (a : (s₀.heap.isNs mainGlobals && s₀.gens.size == 0, s₀.heap.objs.size, s₀.heap.nsMap mainGlobals "__annotations__") = (true, m, ann))
    (run : ∀ r, topRun treeTable p w m ann M s₁ t = some r → topRun treeTable p w m ann N s₀ (topStub p) = some r)
    (last : ((topRun treeTable p w m ann M s₁ t).bind (tlO p s₀)).map obs = some v) : (topFrom treeTable p w N s₀).map obs = some v := by
  obtain ⟨a1, a2, a3⟩ : _ ∧ _ ∧ _ := by simpa only [Prod.mk.injEq] using a
  unfold topFrom
  rw [a1]
  dsimp only
  rw [a2, a3]
  cases h : topRun treeTable p w m ann M s₁ t with
  | none => rw [h] at last; cases last
  | some r =>
    rw [run r h]
    rw [h] at last
    exact last
theorem hd_run (w : World) (os : OsState) (r : Shared) (h : topRun treeTable PySem.Challenge.pw_sa0569_01 w 11 (some (.ref 6)) 2075 (sd' w os) (restOf rC env0 cE ⟨89, 0, 180, 16⟩ [topFrame ⟨0, 0, 0, 0⟩]) = some r) :
    topRun treeTable PySem.Challenge.pw_sa0569_01 w 11 (some (.ref 6)) 3720 (s0' w os) (topStub PySem.Challenge.pw_sa0569_01) = some r := by
  have k := piece_app (hd_a w os) (piece_app (hd_b w os) (piece_app (hd_c w os) h))
  rw [split5] at k
  exact go_top (hd_pre w os) (piece_block (hd_block w os) k)
theorem hd_size (w : World) (os : OsState) : ((s0' w os).heap.isNs mainGlobals && (s0' w os).gens.size == 0, (s0' w os).heap.objs.size, (s0' w os).heap.nsMap mainGlobals "__annotations__") = (true, 11, some (.ref 6)) := by kernel_rfl
theorem boot5 : ∀ w : World, (fencedOpening treeTable PySem.Challenge.pw_sa0569_01 w 3720).map (fun s => (s.heap, s.gens, s.drawn, s.toks)) = some (boot_heap w.params, Array.mk [], boot_drawn, boot_toks) :=
  boot_open (by kernel_rfl) (by decide) (fun s => by kernel_rfl)
theorem left : LeftO PySem.Challenge.rw_sa0569_01.row.prog qv [Str.ofString "OPEN_STATES"] xt (Hook.obs hook) (Hook.val hook) 3720 := fun w => by
  obtain ⟨s, hs, hv⟩ := Option.map_eq_some_iff.mp (boot5 w)
  have e : s = s0' w s.os := by
    obtain ⟨a, b, c, d, f⟩ := s
    obtain ⟨rfl, rfl, rfl, rfl⟩ : a = _ ∧ b = _ ∧ c = _ ∧ d = _ := by simpa using hv
    rfl
  show ((fencedOpening treeTable PySem.Challenge.pw_sa0569_01 w 3720).bind (topFrom treeTable PySem.Challenge.pw_sa0569_01 w 3720)).map _ = _
  rw [hs]
  show (topFrom treeTable PySem.Challenge.pw_sa0569_01 w 3720 s).map _ = _
  rw [e]
  exact top_cut (hd_size w s.os) (hd_run w s.os) (hd_d w s.os)

end Mine
theorem PySem.Challenge.cw_sa0569_01_holds : PySem.Challenge.rw_sa0569_01.Holds := by
  w_on
  o_law
  refine holds_open (q := Mine.qv) (loose := [Str.ofString "OPEN_STATES"]) (Xt := Mine.xt) (XP := XL Mine.qv Mine.lv) (Yf := Hook.obs Mine.hook) (Ya := Hook.val Mine.hook) (YP := Hook.says Mine.hook) (N := 3720) Mine.left (Hook.of Mine.hook) (Hook.keeps Mine.hook) (fun s e => xl_of s (Bool.and_eq_true_iff.mp e).1) XL.keeps (by rfl) (by rfl) (by rfl) (fun s e => recFacts_of (Bool.and_eq_true_iff.mp e).2) (by rfl) (by assumption) (by decide +kernel) ⟨rfl, rfl, rfl, rfl, rfl, by decide +kernel⟩ ?hw ?hc
  case hw => w_witness2
  case hc =>
    w_strict k_go0
    all_goals (try k_fold)
    rename Fr _ _ _ _ => F0
    rename News _ _ _ _ => N0
    rename Below _ _ _ _ => K0
    rename Frag.In _ _ => X0
    rename Top _ _ _ _ _ _ => T0
    rename Heap.IsList _ _ _ => hL0
    rename IntsAre _ _ => hI0
    rename ¬ _ => hc0
    refine Mine.law_entry Mine.law_run F0 N0 K0 X0 T0 hL0 hI0 (by omega) (by k_dflt k_is) rfl rfl (by passes_own) ?_
    intro h' tk' m' news' F' N'
    k_steps
#print axioms PySem.Challenge.cw_sa0569_01_holds
