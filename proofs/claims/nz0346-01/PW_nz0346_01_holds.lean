import PyProof.Rows.All
import Wide.All
import OpenK.AllK
import Wide.FinOn
import Lean
import PySem.Challenge.RW_nz0346_01
open PySem PySem.W PySem.Calls PyProof.Rows PySem.Spec
set_option Elab.async false
set_option maxRecDepth 100000
set_option maxHeartbeats 8000000
namespace Mine
-- nolocal
-- needs: NONE
/-! the heap behind the top, as far as the walk asks it; the text's own trees are taken from the row's program -/
noncomputable def nthS : List Stmt → Nat → Stmt
  | a :: _, 0 => a
  | _ :: r, n + 1 => nthS r n
  | [], _ => .Pass ⟨0, 0, 0, 0⟩
noncomputable def topFn (i : Nat) : Stmt := nthS PySem.Challenge.pw_nz0346_01.main.body i
noncomputable def methFn (i j : Nat) : Stmt := match nthS PySem.Challenge.pw_nz0346_01.main.body i with
  | .ClassDef _ _ _ b _ _ _ _ _ _ _ => nthS b j
  | s => s
noncomputable def fnO (st : Stmt) (q : Str) (pm code doc d kd ct : Value) : Obj := match st with
  | .FunctionDef n a b _ _ _ sc _ _ _ => ⟨.type "function", none, .func (fnOf n q a b sc d kd doc pm none code ct), #[]⟩
  | _ => ⟨.none, none, .plain, #[]⟩
noncomputable def dE (P : Params) (x : Str) (t : Tok) (v : Value) : DictEntry := ⟨PyData.keyHash P x, .str x t, v⟩
noncomputable def viewE : Program := { PySem.Challenge.pw_nz0346_01 with main := { PySem.Challenge.pw_nz0346_01.main with body := [topFn 0, topFn 2, topFn 3, topFn 4, topFn 5, topFn 6, topFn 8, topFn 9, topFn 10, topFn 11, topFn 12, topFn 14, topFn 15, topFn 16, topFn 17, topFn 18, topFn 19, topFn 20, topFn 22, topFn 23, topFn 24, topFn 25, topFn 26, topFn 27, topFn 28, topFn 29] } }
noncomputable def view : Program := by
  refine (fun (_ : ?V = viewE) => ?V) ?h
  case h => delta viewE topFn PySem.Challenge.pw_nz0346_01; dsimp only [nthS]; exact rfl
noncomputable def fragE (P : Params) : Frag := [
(2, ⟨.none, none, .dict #[] 0, #[]⟩),
  (3, ⟨(.type "dict"), none, .dict #[dE P (Str.ofString "__name__") 165 (.str (Str.ofString "law_nz0346_01") 499), dE P (Str.ofString "__doc__") 166 .none, dE P (Str.ofString "__package__") 167 .none, dE P (Str.ofString "__loader__") 168 (.builtin "__main__.__loader__#opaque"), dE P (Str.ofString "__spec__") 169 .none, dE P (Str.ofString "__annotations__") 170 (.ref 6), dE P (Str.ofString "__builtins__") 171 (.ref 4), dE P (Str.ofString "__file__") 173 (.str (Str.ofString "/claim/cut.py") 172), dE P (Str.ofString "__cached__") 174 .none, dE P (Str.ofString "_wall") 193 (.ref 21), dE P (Str.ofString "NOT_ELICITING") 199 (.ref 22), dE P (Str.ofString "is_eliciting") 206 (.ref 29), dE P (Str.ofString "counts_in_flight") 213 (.ref 36), dE P (Str.ofString "any_eliciting") 219 (.ref 41), dE P (Str.ofString "any_in_flight") 225 (.ref 46), dE P (Str.ofString "add_number") 240 (.ref 53), dE P (Str.ofString "has_number") 246 (.ref 58), dE P (Str.ofString "ack_of") 254 (.ref 65), dE P (Str.ofString "newly_acked") 260 (.ref 70), dE P (Str.ofString "prune") 266 (.ref 75), dE P (Str.ofString "MOST_RANGES") 270 (.int 32 269), dE P (Str.ofString "KEPT_RANGES") 272 (.int 64 271), dE P (Str.ofString "ACK_EACH") 274 (.int 2 273), dE P (Str.ofString "ECN_PLACES") 278 (.ref 76), dE P (Str.ofString "SentPacket") 315 (.ref 93), dE P (Str.ofString "Space") 491 (.ref 220), dE P (Str.ofString "kept_ranges") 498 (.ref 231), dE P (Str.ofString "_law_draw") 510 (.ref 238), dE P (Str.ofString "_law_ranges") 519 (.ref 245), dE P (Str.ofString "_law_comes") 532 (.ref 252), dE P (Str.ofString "_law_acks") 538 (.ref 257), dE P (Str.ofString "_law_sends") 553 (.ref 264), dE P (Str.ofString "_law_told") 559 (.ref 269), dE P (Str.ofString "_law_is_alike") 565 (.ref 274), dE P (Str.ofString "law") 571 (.ref 279)] 35, #[]⟩),
  (20, ⟨(.type "code"), none, .fields #[(.str (Str.ofString "_wall") 187), (.str (Str.ofString "_wall") 188), (.str (Str.ofString "/claim/cut.py") 189), (.int 1 0), (.int 1 0), (.int 0 0), (.int 0 0), (.int 3 0), (.ref 15), (.bool true), (.int 181 0), (.ref 16), .none, (.ref 17), (.ref 18), (.ref 19), (.int 191 0), (.int 1 0), (.str (Str.ofString "/claim/cut.py") 192)], #[]⟩),
  (21, fnO (topFn 0) (Str.ofString "_wall") (.str (Str.ofString "__main__") 164) (.ref 20) .none .none .none .none),
  (22, ⟨(.type "tuple"), none, .seq #[(.str (Str.ofString "ack") 196), (.str (Str.ofString "padding") 197), (.str (Str.ofString "close") 198)] 0, #[]⟩),
  (28, ⟨(.type "code"), none, .fields #[(.str (Str.ofString "is_eliciting") 200), (.str (Str.ofString "is_eliciting") 201), (.str (Str.ofString "/claim/cut.py") 202), (.int 6 0), (.int 1 0), (.int 0 0), (.int 0 0), (.int 3 0), (.ref 23), (.bool true), (.int 181 0), (.ref 24), .none, (.ref 25), (.ref 26), (.ref 27), (.int 204 0), (.int 6 0), (.str (Str.ofString "/claim/cut.py") 205)], #[]⟩),
  (29, fnO (topFn 3) (Str.ofString "is_eliciting") (.str (Str.ofString "quic.framerules") 194) (.ref 28) .none .none .none .none),
  (35, ⟨(.type "code"), none, .fields #[(.str (Str.ofString "counts_in_flight") 207), (.str (Str.ofString "counts_in_flight") 208), (.str (Str.ofString "/claim/cut.py") 209), (.int 8 0), (.int 1 0), (.int 0 0), (.int 0 0), (.int 3 0), (.ref 30), (.bool true), (.int 181 0), (.ref 31), .none, (.ref 32), (.ref 33), (.ref 34), (.int 211 0), (.int 8 0), (.str (Str.ofString "/claim/cut.py") 212)], #[]⟩),
  (36, fnO (topFn 4) (Str.ofString "counts_in_flight") (.str (Str.ofString "quic.framerules") 194) (.ref 35) .none .none .none .none),
  (40, ⟨(.type "code"), none, .fields #[(.str (Str.ofString "any_eliciting") 214), (.str (Str.ofString "any_eliciting") 215), (.str (Str.ofString "/claim/cut.py") 216), (.int 10 0), (.int 1 0), (.int 0 0), (.int 0 0), (.int 3 0), (.ref 37), (.bool true), (.int 181 0), (.ref 38), .none, .none, .none, (.ref 39), (.int 217 0), (.int 10 0), (.str (Str.ofString "/claim/cut.py") 218)], #[]⟩),
  (41, fnO (topFn 5) (Str.ofString "any_eliciting") (.str (Str.ofString "quic.framerules") 194) (.ref 40) .none .none .none .none),
  (45, ⟨(.type "code"), none, .fields #[(.str (Str.ofString "any_in_flight") 220), (.str (Str.ofString "any_in_flight") 221), (.str (Str.ofString "/claim/cut.py") 222), (.int 12 0), (.int 1 0), (.int 0 0), (.int 0 0), (.int 3 0), (.ref 42), (.bool true), (.int 181 0), (.ref 43), .none, .none, .none, (.ref 44), (.int 223 0), (.int 12 0), (.str (Str.ofString "/claim/cut.py") 224)], #[]⟩),
  (46, fnO (topFn 6) (Str.ofString "any_in_flight") (.str (Str.ofString "quic.framerules") 194) (.ref 45) .none .none .none .none),
  (52, ⟨(.type "code"), none, .fields #[(.str (Str.ofString "add_number") 228), (.str (Str.ofString "add_number") 229), (.str (Str.ofString "/claim/cut.py") 230), (.int 15 0), (.int 2 0), (.int 0 0), (.int 0 0), (.int 3 0), (.ref 47), (.bool true), (.int 181 0), (.ref 48), .none, (.ref 49), (.ref 50), (.ref 51), (.int 238 0), (.int 15 0), (.str (Str.ofString "/claim/cut.py") 239)], #[]⟩),
  (53, fnO (topFn 8) (Str.ofString "add_number") (.str (Str.ofString "quic.ranges") 226) (.ref 52) .none .none .none .none),
  (57, ⟨(.type "code"), none, .fields #[(.str (Str.ofString "has_number") 241), (.str (Str.ofString "has_number") 242), (.str (Str.ofString "/claim/cut.py") 243), (.int 28 0), (.int 2 0), (.int 0 0), (.int 0 0), (.int 3 0), (.ref 54), (.bool true), (.int 181 0), (.ref 55), .none, .none, .none, (.ref 56), (.int 244 0), (.int 28 0), (.str (Str.ofString "/claim/cut.py") 245)], #[]⟩),
  (58, fnO (topFn 9) (Str.ofString "has_number") (.str (Str.ofString "quic.ranges") 226) (.ref 57) .none .none .none .none),
  (64, ⟨(.type "code"), none, .fields #[(.str (Str.ofString "ack_of") 247), (.str (Str.ofString "ack_of") 248), (.str (Str.ofString "/claim/cut.py") 249), (.int 30 0), (.int 2 0), (.int 0 0), (.int 0 0), (.int 3 0), (.ref 59), (.bool true), (.int 181 0), (.ref 60), .none, (.ref 61), (.ref 62), (.ref 63), (.int 252 0), (.int 30 0), (.str (Str.ofString "/claim/cut.py") 253)], #[]⟩),
  (65, fnO (topFn 10) (Str.ofString "ack_of") (.str (Str.ofString "quic.ranges") 226) (.ref 64) .none .none .none .none),
  (69, ⟨(.type "code"), none, .fields #[(.str (Str.ofString "newly_acked") 255), (.str (Str.ofString "newly_acked") 256), (.str (Str.ofString "/claim/cut.py") 257), (.int 32 0), (.int 2 0), (.int 0 0), (.int 0 0), (.int 3 0), (.ref 66), (.bool true), (.int 181 0), (.ref 67), .none, .none, .none, (.ref 68), (.int 258 0), (.int 32 0), (.str (Str.ofString "/claim/cut.py") 259)], #[]⟩),
  (70, fnO (topFn 11) (Str.ofString "newly_acked") (.str (Str.ofString "quic.ranges") 226) (.ref 69) .none .none .none .none),
  (74, ⟨(.type "code"), none, .fields #[(.str (Str.ofString "prune") 261), (.str (Str.ofString "prune") 262), (.str (Str.ofString "/claim/cut.py") 263), (.int 34 0), (.int 2 0), (.int 0 0), (.int 0 0), (.int 3 0), (.ref 71), (.bool true), (.int 181 0), (.ref 72), .none, .none, .none, (.ref 73), (.int 264 0), (.int 34 0), (.str (Str.ofString "/claim/cut.py") 265)], #[]⟩),
  (75, fnO (topFn 12) (Str.ofString "prune") (.str (Str.ofString "quic.ranges") 226) (.ref 74) .none .none .none .none),
  (76, ⟨(.type "tuple"), none, .seq #[.none, (.int 1 275), (.int 0 276), (.int 2 277)] 0, #[]⟩),
  (89, ⟨(.type "code"), none, .fields #[(.str (Str.ofString "__init__") 291), (.str (Str.ofString "SentPacket.__init__") 292), (.str (Str.ofString "/claim/cut.py") 293), (.int 43 0), (.int 5 0), (.int 0 0), (.int 0 0), (.int 3 0), (.ref 84), (.bool true), (.int 181 0), (.ref 85), .none, (.ref 86), (.ref 87), (.ref 88), (.int 299 0), (.int 43 0), (.str (Str.ofString "/claim/cut.py") 300)], #[]⟩),
  (90, fnO (methFn 18 0) (Str.ofString "SentPacket.__init__") (.str (Str.ofString "quic.spaces") 267) (.ref 89) .none .none .none .none),
  (92, ⟨(.type "dict"), none, .dict #[dE P (Str.ofString "__module__") 286 (.str (Str.ofString "quic.spaces") 267), dE P (Str.ofString "__firstlineno__") 290 (.int 41 289), dE P (Str.ofString "__init__") 301 (.ref 90), dE P (Str.ofString "__static_attributes__") 308 (.ref 91), dE P (Str.ofString "__dict__") 310 (.ref 94), dE P (Str.ofString "__weakref__") 312 (.ref 95), dE P (Str.ofString "__doc__") 313 .none] 4, #[]⟩),
  (93, ⟨(.type "type"), none, .cls { name := Str.ofString "SentPacket", bases := [(.type "object")], mro := [(.ref 93), (.type "object")], ns := 92, qualname := Str.ofString "SentPacket", hasDict := true, slotNames := [], subclasses := [], abstract := false, hasDel := false  }, #[none, none, some (.str (Str.ofString "SentPacket") 279), some (.str (Str.ofString "SentPacket") 287), some (.builtin "object.__new__"), some (.bool true)]⟩),
  (94, ⟨(.type "getset_descriptor"), none, .fields #[(.str (Str.ofString "__dict__") 309), (.ref 93), (.builtin "function.__dict__"), (.builtin "function.__dict__#set")], #[]⟩),
  (95, ⟨(.type "getset_descriptor"), none, .fields #[(.str (Str.ofString "__weakref__") 311), (.ref 93), (.builtin "ExceptionGroup.__weakref__"), .none], #[]⟩),
  (110, ⟨(.type "code"), none, .fields #[(.str (Str.ofString "__init__") 328), (.str (Str.ofString "Space.__init__") 329), (.str (Str.ofString "/claim/cut.py") 330), (.int 52 0), (.int 2 0), (.int 0 0), (.int 0 0), (.int 3 0), (.ref 105), (.bool true), (.int 181 0), (.ref 106), .none, (.ref 107), (.ref 108), (.ref 109), (.int 333 0), (.int 52 0), (.str (Str.ofString "/claim/cut.py") 334)], #[]⟩),
  (111, fnO (methFn 19 0) (Str.ofString "Space.__init__") (.str (Str.ofString "quic.spaces") 267) (.ref 110) .none .none .none .none),
  (117, ⟨(.type "code"), none, .fields #[(.str (Str.ofString "is_known") 336), (.str (Str.ofString "Space.is_known") 337), (.str (Str.ofString "/claim/cut.py") 338), (.int 70 0), (.int 2 0), (.int 0 0), (.int 0 0), (.int 3 0), (.ref 112), (.bool true), (.int 181 0), (.ref 113), .none, (.ref 114), (.ref 115), (.ref 116), (.int 341 0), (.int 70 0), (.str (Str.ofString "/claim/cut.py") 342)], #[]⟩),
  (118, fnO (methFn 19 1) (Str.ofString "Space.is_known") (.str (Str.ofString "quic.spaces") 267) (.ref 117) .none .none .none .none),
  (124, ⟨(.type "code"), none, .fields #[(.str (Str.ofString "on_received") 344), (.str (Str.ofString "Space.on_received") 345), (.str (Str.ofString "/claim/cut.py") 346), (.int 75 0), (.int 5 0), (.int 0 0), (.int 0 0), (.int 3 0), (.ref 119), (.bool true), (.int 181 0), (.ref 120), .none, (.ref 121), (.ref 122), (.ref 123), (.int 353 0), (.int 75 0), (.str (Str.ofString "/claim/cut.py") 354)], #[]⟩),
  (125, fnO (methFn 19 2) (Str.ofString "Space.on_received") (.str (Str.ofString "quic.spaces") 267) (.ref 124) .none .none .none .none),
  (131, ⟨(.type "code"), none, .fields #[(.str (Str.ofString "ack_frame") 356), (.str (Str.ofString "Space.ack_frame") 357), (.str (Str.ofString "/claim/cut.py") 358), (.int 89 0), (.int 3 0), (.int 0 0), (.int 0 0), (.int 3 0), (.ref 126), (.bool true), (.int 181 0), (.ref 127), .none, (.ref 128), (.ref 129), (.ref 130), (.int 364 0), (.int 89 0), (.str (Str.ofString "/claim/cut.py") 365)], #[]⟩),
  (132, fnO (methFn 19 3) (Str.ofString "Space.ack_frame") (.str (Str.ofString "quic.spaces") 267) (.ref 131) .none .none .none .none),
  (138, ⟨(.type "code"), none, .fields #[(.str (Str.ofString "on_ack_sent") 367), (.str (Str.ofString "Space.on_ack_sent") 368), (.str (Str.ofString "/claim/cut.py") 369), (.int 96 0), (.int 1 0), (.int 0 0), (.int 0 0), (.int 3 0), (.ref 133), (.bool true), (.int 181 0), (.ref 134), .none, (.ref 135), (.ref 136), (.ref 137), (.int 371 0), (.int 96 0), (.str (Str.ofString "/claim/cut.py") 372)], #[]⟩),
  (139, fnO (methFn 19 4) (Str.ofString "Space.on_ack_sent") (.str (Str.ofString "quic.spaces") 267) (.ref 138) .none .none .none .none),
  (145, ⟨(.type "code"), none, .fields #[(.str (Str.ofString "owes_ack") 374), (.str (Str.ofString "Space.owes_ack") 375), (.str (Str.ofString "/claim/cut.py") 376), (.int 102 0), (.int 1 0), (.int 0 0), (.int 0 0), (.int 3 0), (.ref 140), (.bool true), (.int 181 0), (.ref 141), .none, (.ref 142), (.ref 143), (.ref 144), (.int 378 0), (.int 102 0), (.str (Str.ofString "/claim/cut.py") 379)], #[]⟩),
  (146, fnO (methFn 19 5) (Str.ofString "Space.owes_ack") (.str (Str.ofString "quic.spaces") 267) (.ref 145) .none .none .none .none),
  (152, ⟨(.type "code"), none, .fields #[(.str (Str.ofString "take_number") 381), (.str (Str.ofString "Space.take_number") 382), (.str (Str.ofString "/claim/cut.py") 383), (.int 105 0), (.int 1 0), (.int 0 0), (.int 0 0), (.int 3 0), (.ref 147), (.bool true), (.int 181 0), (.ref 148), .none, (.ref 149), (.ref 150), (.ref 151), (.int 385 0), (.int 105 0), (.str (Str.ofString "/claim/cut.py") 386)], #[]⟩),
  (153, fnO (methFn 19 6) (Str.ofString "Space.take_number") (.str (Str.ofString "quic.spaces") 267) (.ref 152) .none .none .none .none),
  (159, ⟨(.type "code"), none, .fields #[(.str (Str.ofString "on_sent") 388), (.str (Str.ofString "Space.on_sent") 389), (.str (Str.ofString "/claim/cut.py") 390), (.int 109 0), (.int 5 0), (.int 0 0), (.int 0 0), (.int 3 0), (.ref 154), (.bool true), (.int 181 0), (.ref 155), .none, (.ref 156), (.ref 157), (.ref 158), (.int 397 0), (.int 109 0), (.str (Str.ofString "/claim/cut.py") 398)], #[]⟩),
  (160, fnO (methFn 19 7) (Str.ofString "Space.on_sent") (.str (Str.ofString "quic.spaces") 267) (.ref 159) .none .none .none .none),
  (164, ⟨(.type "code"), none, .fields #[(.str (Str.ofString "take") 400), (.str (Str.ofString "Space.take") 401), (.str (Str.ofString "/claim/cut.py") 402), (.int 116 0), (.int 2 0), (.int 0 0), (.int 0 0), (.int 3 0), (.ref 161), (.bool true), (.int 181 0), (.ref 162), .none, .none, .none, (.ref 163), (.int 403 0), (.int 116 0), (.str (Str.ofString "/claim/cut.py") 404)], #[]⟩),
  (165, fnO (methFn 19 8) (Str.ofString "Space.take") (.str (Str.ofString "quic.spaces") 267) (.ref 164) .none .none .none .none),
  (171, ⟨(.type "code"), none, .fields #[(.str (Str.ofString "acked_by") 406), (.str (Str.ofString "Space.acked_by") 407), (.str (Str.ofString "/claim/cut.py") 408), (.int 120 0), (.int 2 0), (.int 0 0), (.int 0 0), (.int 3 0), (.ref 166), (.bool true), (.int 181 0), (.ref 167), .none, (.ref 168), (.ref 169), (.ref 170), (.int 411 0), (.int 120 0), (.str (Str.ofString "/claim/cut.py") 412)], #[]⟩),
  (172, fnO (methFn 19 9) (Str.ofString "Space.acked_by") (.str (Str.ofString "quic.spaces") 267) (.ref 171) .none .none .none .none),
  (178, ⟨(.type "code"), none, .fields #[(.str (Str.ofString "note_acked") 414), (.str (Str.ofString "Space.note_acked") 415), (.str (Str.ofString "/claim/cut.py") 416), (.int 123 0), (.int 2 0), (.int 0 0), (.int 0 0), (.int 3 0), (.ref 173), (.bool true), (.int 181 0), (.ref 174), .none, (.ref 175), (.ref 176), (.ref 177), (.int 419 0), (.int 123 0), (.str (Str.ofString "/claim/cut.py") 420)], #[]⟩),
  (179, fnO (methFn 19 10) (Str.ofString "Space.note_acked") (.str (Str.ofString "quic.spaces") 267) (.ref 178) .none .none .none .none),
  (185, ⟨(.type "code"), none, .fields #[(.str (Str.ofString "is_beyond") 422), (.str (Str.ofString "Space.is_beyond") 423), (.str (Str.ofString "/claim/cut.py") 424), (.int 126 0), (.int 2 0), (.int 0 0), (.int 0 0), (.int 3 0), (.ref 180), (.bool true), (.int 181 0), (.ref 181), .none, (.ref 182), (.ref 183), (.ref 184), (.int 427 0), (.int 126 0), (.str (Str.ofString "/claim/cut.py") 428)], #[]⟩),
  (186, fnO (methFn 19 11) (Str.ofString "Space.is_beyond") (.str (Str.ofString "quic.spaces") 267) (.ref 185) .none .none .none .none),
  (192, ⟨(.type "code"), none, .fields #[(.str (Str.ofString "note_largest") 430), (.str (Str.ofString "Space.note_largest") 431), (.str (Str.ofString "/claim/cut.py") 432), (.int 129 0), (.int 2 0), (.int 0 0), (.int 0 0), (.int 3 0), (.ref 187), (.bool true), (.int 181 0), (.ref 188), .none, (.ref 189), (.ref 190), (.ref 191), (.int 435 0), (.int 129 0), (.str (Str.ofString "/claim/cut.py") 436)], #[]⟩),
  (193, fnO (methFn 19 12) (Str.ofString "Space.note_largest") (.str (Str.ofString "quic.spaces") 267) (.ref 192) .none .none .none .none),
  (197, ⟨(.type "code"), none, .fields #[(.str (Str.ofString "eliciting_left") 438), (.str (Str.ofString "Space.eliciting_left") 439), (.str (Str.ofString "/claim/cut.py") 440), (.int 133 0), (.int 1 0), (.int 0 0), (.int 0 0), (.int 3 0), (.ref 194), (.bool true), (.int 181 0), (.ref 195), .none, .none, .none, (.ref 196), (.int 441 0), (.int 133 0), (.str (Str.ofString "/claim/cut.py") 442)], #[]⟩),
  (198, fnO (methFn 19 13) (Str.ofString "Space.eliciting_left") (.str (Str.ofString "quic.spaces") 267) (.ref 197) .none .none .none .none),
  (202, ⟨(.type "code"), none, .fields #[(.str (Str.ofString "octets_out") 444), (.str (Str.ofString "Space.octets_out") 445), (.str (Str.ofString "/claim/cut.py") 446), (.int 136 0), (.int 1 0), (.int 0 0), (.int 0 0), (.int 3 0), (.ref 199), (.bool true), (.int 181 0), (.ref 200), .none, .none, .none, (.ref 201), (.int 447 0), (.int 136 0), (.str (Str.ofString "/claim/cut.py") 448)], #[]⟩),
  (203, fnO (methFn 19 14) (Str.ofString "Space.octets_out") (.str (Str.ofString "quic.spaces") 267) (.ref 202) .none .none .none .none),
  (209, ⟨(.type "code"), none, .fields #[(.str (Str.ofString "sent_rows") 450), (.str (Str.ofString "Space.sent_rows") 451), (.str (Str.ofString "/claim/cut.py") 452), (.int 139 0), (.int 1 0), (.int 0 0), (.int 0 0), (.int 3 0), (.ref 204), (.bool true), (.int 181 0), (.ref 205), .none, (.ref 206), (.ref 207), (.ref 208), (.int 457 0), (.int 139 0), (.str (Str.ofString "/claim/cut.py") 458)], #[]⟩),
  (210, fnO (methFn 19 15) (Str.ofString "Space.sent_rows") (.str (Str.ofString "quic.spaces") 267) (.ref 209) .none .none .none .none),
  (216, ⟨(.type "code"), none, .fields #[(.str (Str.ofString "forget") 460), (.str (Str.ofString "Space.forget") 461), (.str (Str.ofString "/claim/cut.py") 462), (.int 146 0), (.int 1 0), (.int 0 0), (.int 0 0), (.int 3 0), (.ref 211), (.bool true), (.int 181 0), (.ref 212), .none, (.ref 213), (.ref 214), (.ref 215), (.int 465 0), (.int 146 0), (.str (Str.ofString "/claim/cut.py") 466)], #[]⟩),
  (217, fnO (methFn 19 16) (Str.ofString "Space.forget") (.str (Str.ofString "quic.spaces") 267) (.ref 216) .none .none .none .none),
  (219, ⟨(.type "dict"), none, .dict #[dE P (Str.ofString "__module__") 323 (.str (Str.ofString "quic.spaces") 267), dE P (Str.ofString "__firstlineno__") 327 (.int 50 326), dE P (Str.ofString "__init__") 335 (.ref 111), dE P (Str.ofString "is_known") 343 (.ref 118), dE P (Str.ofString "on_received") 355 (.ref 125), dE P (Str.ofString "ack_frame") 366 (.ref 132), dE P (Str.ofString "on_ack_sent") 373 (.ref 139), dE P (Str.ofString "owes_ack") 380 (.ref 146), dE P (Str.ofString "take_number") 387 (.ref 153), dE P (Str.ofString "on_sent") 399 (.ref 160), dE P (Str.ofString "take") 405 (.ref 165), dE P (Str.ofString "acked_by") 413 (.ref 172), dE P (Str.ofString "note_acked") 421 (.ref 179), dE P (Str.ofString "is_beyond") 429 (.ref 186), dE P (Str.ofString "note_largest") 437 (.ref 193), dE P (Str.ofString "eliciting_left") 443 (.ref 198), dE P (Str.ofString "octets_out") 449 (.ref 203), dE P (Str.ofString "sent_rows") 459 (.ref 210), dE P (Str.ofString "forget") 467 (.ref 217), dE P (Str.ofString "__static_attributes__") 484 (.ref 218), dE P (Str.ofString "__dict__") 486 (.ref 221), dE P (Str.ofString "__weakref__") 488 (.ref 222), dE P (Str.ofString "__doc__") 489 .none] 4, #[]⟩),
  (220, ⟨(.type "type"), none, .cls { name := Str.ofString "Space", bases := [(.type "object")], mro := [(.ref 220), (.type "object")], ns := 219, qualname := Str.ofString "Space", hasDict := true, slotNames := [], subclasses := [], abstract := false, hasDel := false  }, #[none, none, some (.str (Str.ofString "Space") 316), some (.str (Str.ofString "Space") 324), some (.builtin "object.__new__"), some (.bool true)]⟩),
  (221, ⟨(.type "getset_descriptor"), none, .fields #[(.str (Str.ofString "__dict__") 485), (.ref 220), (.builtin "function.__dict__"), (.builtin "function.__dict__#set")], #[]⟩),
  (222, ⟨(.type "getset_descriptor"), none, .fields #[(.str (Str.ofString "__weakref__") 487), (.ref 220), (.builtin "ExceptionGroup.__weakref__"), .none], #[]⟩),
  (230, ⟨(.type "code"), none, .fields #[(.str (Str.ofString "kept_ranges") 492), (.str (Str.ofString "kept_ranges") 493), (.str (Str.ofString "/claim/cut.py") 494), (.int 155 0), (.int 1 0), (.int 0 0), (.int 0 0), (.int 3 0), (.ref 225), (.bool true), (.int 181 0), (.ref 226), .none, (.ref 227), (.ref 228), (.ref 229), (.int 496 0), (.int 155 0), (.str (Str.ofString "/claim/cut.py") 497)], #[]⟩),
  (231, fnO (topFn 20) (Str.ofString "kept_ranges") (.str (Str.ofString "quic.spaces") 267) (.ref 230) .none .none .none .none),
  (237, ⟨(.type "code"), none, .fields #[(.str (Str.ofString "_law_draw") 501), (.str (Str.ofString "_law_draw") 502), (.str (Str.ofString "/claim/cut.py") 503), (.int 160 0), (.int 2 0), (.int 0 0), (.int 0 0), (.int 3 0), (.ref 232), (.bool true), (.int 181 0), (.ref 233), .none, (.ref 234), (.ref 235), (.ref 236), (.int 508 0), (.int 160 0), (.str (Str.ofString "/claim/cut.py") 509)], #[]⟩),
  (238, fnO (topFn 22) (Str.ofString "_law_draw") (.str (Str.ofString "law_nz0346_01") 499) (.ref 237) .none .none .none .none),
  (244, ⟨(.type "code"), none, .fields #[(.str (Str.ofString "_law_ranges") 511), (.str (Str.ofString "_law_ranges") 512), (.str (Str.ofString "/claim/cut.py") 513), (.int 166 0), (.int 1 0), (.int 0 0), (.int 0 0), (.int 3 0), (.ref 239), (.bool true), (.int 181 0), (.ref 240), .none, (.ref 241), (.ref 242), (.ref 243), (.int 517 0), (.int 166 0), (.str (Str.ofString "/claim/cut.py") 518)], #[]⟩),
  (245, fnO (topFn 23) (Str.ofString "_law_ranges") (.str (Str.ofString "law_nz0346_01") 499) (.ref 244) .none .none .none .none),
  (251, ⟨(.type "code"), none, .fields #[(.str (Str.ofString "_law_comes") 520), (.str (Str.ofString "_law_comes") 521), (.str (Str.ofString "/claim/cut.py") 522), (.int 174 0), (.int 3 0), (.int 0 0), (.int 0 0), (.int 3 0), (.ref 246), (.bool true), (.int 181 0), (.ref 247), .none, (.ref 248), (.ref 249), (.ref 250), (.int 530 0), (.int 174 0), (.str (Str.ofString "/claim/cut.py") 531)], #[]⟩),
  (252, fnO (topFn 24) (Str.ofString "_law_comes") (.str (Str.ofString "law_nz0346_01") 499) (.ref 251) .none .none .none .none),
  (256, ⟨(.type "code"), none, .fields #[(.str (Str.ofString "_law_acks") 533), (.str (Str.ofString "_law_acks") 534), (.str (Str.ofString "/claim/cut.py") 535), (.int 193 0), (.int 3 0), (.int 0 0), (.int 0 0), (.int 3 0), (.ref 253), (.bool true), (.int 181 0), (.ref 254), .none, .none, .none, (.ref 255), (.int 536 0), (.int 193 0), (.str (Str.ofString "/claim/cut.py") 537)], #[]⟩),
  (257, fnO (topFn 25) (Str.ofString "_law_acks") (.str (Str.ofString "law_nz0346_01") 499) (.ref 256) .none .none .none .none),
  (263, ⟨(.type "code"), none, .fields #[(.str (Str.ofString "_law_sends") 539), (.str (Str.ofString "_law_sends") 540), (.str (Str.ofString "/claim/cut.py") 541), (.int 204 0), (.int 3 0), (.int 0 0), (.int 0 0), (.int 3 0), (.ref 258), (.bool true), (.int 181 0), (.ref 259), .none, (.ref 260), (.ref 261), (.ref 262), (.int 551 0), (.int 204 0), (.str (Str.ofString "/claim/cut.py") 552)], #[]⟩),
  (264, fnO (topFn 26) (Str.ofString "_law_sends") (.str (Str.ofString "law_nz0346_01") 499) (.ref 263) .none .none .none .none),
  (268, ⟨(.type "code"), none, .fields #[(.str (Str.ofString "_law_told") 554), (.str (Str.ofString "_law_told") 555), (.str (Str.ofString "/claim/cut.py") 556), (.int 215 0), (.int 3 0), (.int 0 0), (.int 0 0), (.int 3 0), (.ref 265), (.bool true), (.int 181 0), (.ref 266), .none, .none, .none, (.ref 267), (.int 557 0), (.int 215 0), (.str (Str.ofString "/claim/cut.py") 558)], #[]⟩),
  (269, fnO (topFn 27) (Str.ofString "_law_told") (.str (Str.ofString "law_nz0346_01") 499) (.ref 268) .none .none .none .none),
  (273, ⟨(.type "code"), none, .fields #[(.str (Str.ofString "_law_is_alike") 560), (.str (Str.ofString "_law_is_alike") 561), (.str (Str.ofString "/claim/cut.py") 562), (.int 228 0), (.int 2 0), (.int 0 0), (.int 0 0), (.int 3 0), (.ref 270), (.bool true), (.int 181 0), (.ref 271), .none, .none, .none, (.ref 272), (.int 563 0), (.int 228 0), (.str (Str.ofString "/claim/cut.py") 564)], #[]⟩),
  (274, fnO (topFn 28) (Str.ofString "_law_is_alike") (.str (Str.ofString "law_nz0346_01") 499) (.ref 273) .none .none .none .none),
  (278, ⟨(.type "code"), none, .fields #[(.str (Str.ofString "law") 566), (.str (Str.ofString "law") 567), (.str (Str.ofString "/claim/cut.py") 568), (.int 236 0), (.int 1 0), (.int 0 0), (.int 0 0), (.int 3 0), (.ref 275), (.bool true), (.int 181 0), (.ref 276), .none, .none, .none, (.ref 277), (.int 569 0), (.int 236 0), (.str (Str.ofString "/claim/cut.py") 570)], #[]⟩),
  (279, fnO (topFn 29) (Str.ofString "law") (.str (Str.ofString "law_nz0346_01") 499) (.ref 278) .none .none .none .none)
]
noncomputable def heap : Params → Frag := by
  refine fun P => (fun (K : Frag) (_ : K = fragE P) => K) ((nat_lit 2, ?o2) :: (nat_lit 3, ?o3) :: (nat_lit 20, ?o20) :: (nat_lit 21, ?o21) :: (nat_lit 22, ?o22) :: (nat_lit 28, ?o28) :: (nat_lit 29, ?o29) :: (nat_lit 35, ?o35) :: (nat_lit 36, ?o36) :: (nat_lit 40, ?o40) :: (nat_lit 41, ?o41) :: (nat_lit 45, ?o45) :: (nat_lit 46, ?o46) :: (nat_lit 52, ?o52) :: (nat_lit 53, ?o53) :: (nat_lit 57, ?o57) :: (nat_lit 58, ?o58) :: (nat_lit 64, ?o64) :: (nat_lit 65, ?o65) :: (nat_lit 69, ?o69) :: (nat_lit 70, ?o70) :: (nat_lit 74, ?o74) :: (nat_lit 75, ?o75) :: (nat_lit 76, ?o76) :: (nat_lit 89, ?o89) :: (nat_lit 90, ?o90) :: (nat_lit 92, ?o92) :: (nat_lit 93, ?o93) :: (nat_lit 94, ?o94) :: (nat_lit 95, ?o95) :: (nat_lit 110, ?o110) :: (nat_lit 111, ?o111) :: (nat_lit 117, ?o117) :: (nat_lit 118, ?o118) :: (nat_lit 124, ?o124) :: (nat_lit 125, ?o125) :: (nat_lit 131, ?o131) :: (nat_lit 132, ?o132) :: (nat_lit 138, ?o138) :: (nat_lit 139, ?o139) :: (nat_lit 145, ?o145) :: (nat_lit 146, ?o146) :: (nat_lit 152, ?o152) :: (nat_lit 153, ?o153) :: (nat_lit 159, ?o159) :: (nat_lit 160, ?o160) :: (nat_lit 164, ?o164) :: (nat_lit 165, ?o165) :: (nat_lit 171, ?o171) :: (nat_lit 172, ?o172) :: (nat_lit 178, ?o178) :: (nat_lit 179, ?o179) :: (nat_lit 185, ?o185) :: (nat_lit 186, ?o186) :: (nat_lit 192, ?o192) :: (nat_lit 193, ?o193) :: (nat_lit 197, ?o197) :: (nat_lit 198, ?o198) :: (nat_lit 202, ?o202) :: (nat_lit 203, ?o203) :: (nat_lit 209, ?o209) :: (nat_lit 210, ?o210) :: (nat_lit 216, ?o216) :: (nat_lit 217, ?o217) :: (nat_lit 219, ?o219) :: (nat_lit 220, ?o220) :: (nat_lit 221, ?o221) :: (nat_lit 222, ?o222) :: (nat_lit 230, ?o230) :: (nat_lit 231, ?o231) :: (nat_lit 237, ?o237) :: (nat_lit 238, ?o238) :: (nat_lit 244, ?o244) :: (nat_lit 245, ?o245) :: (nat_lit 251, ?o251) :: (nat_lit 252, ?o252) :: (nat_lit 256, ?o256) :: (nat_lit 257, ?o257) :: (nat_lit 263, ?o263) :: (nat_lit 264, ?o264) :: (nat_lit 268, ?o268) :: (nat_lit 269, ?o269) :: (nat_lit 273, ?o273) :: (nat_lit 274, ?o274) :: (nat_lit 278, ?o278) :: (nat_lit 279, ?o279) :: []) ?h
  case h => delta fragE fnO topFn methFn dE PySem.Challenge.pw_nz0346_01; dsimp only [nthS]; exact rfl
noncomputable def asE : List Addr := [2, 3, 20, 21, 22, 28, 29, 35, 36, 40, 41, 45, 46, 52, 53, 57, 58, 64, 65, 69, 70, 74, 75, 76, 89, 90, 92, 93, 94, 95, 110, 111, 117, 118, 124, 125, 131, 132, 138, 139, 145, 146, 152, 153, 159, 160, 164, 165, 171, 172, 178, 179, 185, 186, 192, 193, 197, 198, 202, 203, 209, 210, 216, 217, 219, 220, 221, 222, 230, 231, 237, 238, 244, 245, 251, 252, 256, 257, 263, 264, 268, 269, 273, 274, 278, 279]
theorem as_is : ∀ P, asE = (heap P).map (·.1) := fun P => by kernel_rfl
noncomputable abbrev HK : Hook := kHook heap asE as_is

-- nolocal
-- needs: head0
/-- the run behind the boot, from the boot's state that the library knows; Fast.te..: the library's quick twins of topRun, treeTable, openSeen -/
theorem left_boot {p q : Program} {loose : List Str} {Xt : Shared → Bool} {α : Type} {Yf : Shared → α} {Ya : World → α} {N : Nat} (e : opening p = plainProg p.main.scope.names) (hN : Nat.ble 600 N = true) (f : ∀ s, fenceModules? p s = some s)
    (h : ∀ w : World, (fun os : OsState => (topFrom treeTable p w N ⟨boot_heap w.params, Array.mk [], boot_drawn, boot_toks, os⟩).map (fun s => (openSeen q loose (importedModules p.main.body) Xt true s, Yf s))) = fun _ => some (openGood q loose, Ya w)) : LeftO p q loose Xt Yf Ya N := fun w => by
  obtain ⟨⟨h0, gs, d, k, os⟩, e1, e2⟩ := Option.map_eq_some_iff.mp (boot_open (N := N) e hN f w)
  obtain ⟨rfl, rfl, rfl, rfl⟩ : h0 = boot_heap w.params ∧ gs = Array.mk [] ∧ d = boot_drawn ∧ k = boot_toks := by simpa [and_assoc, and_comm, and_left_comm] using e2
  unfold openEnds
  rw [e1]
  exact congrFun (h w) os
theorem left_open : opening PySem.Challenge.rw_nz0346_01.row.prog = plainProg PySem.Challenge.rw_nz0346_01.row.prog.main.scope.names := by kernel_rfl
theorem left_fence : ∀ s, fenceModules? PySem.Challenge.rw_nz0346_01.row.prog s = some s := by
  intro s
  kernel_rfl
set_option maxHeartbeats 0 in
theorem left0 : LeftO PySem.Challenge.rw_nz0346_01.row.prog view [] (fun s => xlAt view [] s && recOk (RowW.records PySem.Challenge.rw_nz0346_01.row.toRowW) s) (Hook.obs HK) (Hook.val HK) 3358 := by
  refine left_boot left_open (by rfl) left_fence ?_
  intro w
  delta topFrom
  rw [Fast.te14082659384304107361, Fast.te14364793385576792824, Fast.te4187177175401517315]
  kernel_rfl

-- nolocal
-- needs: head0
/-- a level: nothing is known of the frames, the depth and the units are at most n -/
noncomputable abbrev AL (n : Nat) : Around := { handled := none, depth := n, frames := none, guards := none, units := n }

theorem to_AL {α : Type} {M : Model} {A : Around} {n : Nat} {t : Sem α} {Q : α → Shared → Prop} {E : Value → Shared → Prop} {s : Shared}
    (hA : A.handled = none) (hd : A.depth ≤ n) (hu : A.units ≤ n) (h : wpAny M (AL n) t Q (fun _ _ => False) s) : wpAny M A t Q E s :=
  wpAny_mono (E := fun _ _ => False) (fun Γ p hΓ => h Γ p ⟨hΓ.1.trans hA, Nat.le_trans hΓ.2.1 hd, (fun _ hl => nomatch hl), (fun _ hl => nomatch hl), Nat.le_trans hΓ.2.2.2.2 hu⟩) (fun _ _ x => x) fun _ _ x => x.elim

section
variable {prog : Program} {w : World} {A : Around} {E : Value → Shared → Prop} {s : Shared} {h₀ : Heap} {L : Addr} {m mg mb : Str → Option Value} {K : Frag}
  {p : Program} {loose : List Str} {mean : ExcName → Option Value} {Q : Value → Shared → Prop} {W news : List (Addr × Obj)}

theorem stays_hide (F : Fr h₀ L s.heap m) (hW : ∀ q ∈ W, h₀.get? q.1 = none) : h₀.StaysIn (hideAll s.heap (W.map (·.1))) := fun b o e => hideAll_get _ (F.keep b o e) fun q => by
  obtain ⟨p, hp, rfl⟩ := List.mem_map.mp q
  rw [hW p hp] at e; cases e

/-- a def of the text's is entered: its ledger is W, what else stands is kept -/
theorem enter {d : Nat} {name qual : Str} {params : Arguments} {body : List Stmt} {scope : Scope} {dV kV doc pm cdv ct oc : Value} {an od : Option Addr} {osl : Array (Option Value)} {f : Addr} {args : List Value} {binds : List (Str × Value)}
    (F : Fr h₀ L s.heap m) (N : News h₀ L s.heap news) (X₀ : K.In h₀) (T : Top p loose mean mg mb h₀) (hW : ∀ q ∈ W, q ∈ news)
    (ho : K.lookup f = some ⟨oc, od, .func (fnOf name qual params body scope dV kV doc pm an cdv ct), osl⟩) (hcd : codeIn K cdv qual = true) (hroom : d < recursionLimit)
    (hbind : BindsTo s (fnOf name qual params body scope dV kV doc pm an cdv ct) ⟨args, []⟩ binds) (hloc : ∀ y ∈ binds, scope.names.lookup y.1 = some .local)
    (h : ∀ g L' h₁ tk, g = hideAll s.heap (W.map (·.1)) → Fr g L' h₁ (fun y => binds.reverse.lookup y) → News g L' h₁ W → K.In g → Top p loose mean mg mb g →
      wpAny (model prog w) ((AL d).deeper (envOf qual scope L' f cdv)) (execs body (envOf qual scope L' f cdv))
        (fun fl s' => Q (match fl with | .ret v => v | _ => .none) s') (fun _ _ => False) { s with heap := h₁, toks := tk })
    (hco : scope.isCoroutine = false) (hgen : scope.isGenerator = false) (hk : scope.kind = .function)
    (hcell : ∀ x ∈ scope.names, x.2 ≠ .cell) : wpAny (model prog w) (AL d) (call (.ref f) args) Q (fun _ _ => False) s := by
  have hN : ∀ q ∈ W, h₀.get? q.1 = none := fun q hq => (N q (hW q hq)).2.2
  have st := stays_hide F hN
  refine wpAny_call (codeAny_call_def (fd := fnOf name qual params body scope dV kV doc pm an cdv ct) (body := body) (binds := binds) hroom ((X₀.keeps F.keep) _ _ ho) rfl (T.nolimit.keeps F.keep) (codeRec_of (X₀.keeps F.keep) hcd) rfl hbind hcell hloc (fun h₁ hns hk₁ => ?_) hco hgen hk)
  exact wpAny_mono (h _ s.heap.objs.size h₁ (s.toks + binds.length) rfl ⟨hns, fun b o e => hk₁ b o (of_hideAll _ e), Nat.le_of_eq (hideAll_size _ _)⟩
    (fun q hq => ⟨hk₁ _ _ (N q (hW q hq)).1, Nat.ne_of_lt (Heap.lt_size (N q (hW q hq)).1), hideAll_none _ (List.mem_map_of_mem hq)⟩) (X₀.keeps st) (T.keeps st)) (fun fl s' hl => hl) fun _ _ y => y.elim

section
variable {g h h' : Heap} {L' : Addr} {m' : Str → Option Value} {W' : List (Addr × Obj)}
/-- back in the caller's frame -/
theorem backF (F : Fr h₀ L h m) (N : News h₀ L h news) (hW : ∀ q ∈ W, q ∈ news) (hg : g = hideAll h (W.map (·.1))) (F' : Fr g L' h' m') : Fr h₀ L h' m := by
  subst hg
  obtain ⟨oL, es, ep, hL, hLd, hLk, hLf⟩ := F.ns
  have nL : L ∉ W.map (·.1) := fun q => by
    obtain ⟨p, hp, e⟩ := List.mem_map.mp q
    exact (N p (hW p hp)).2.1 e
  refine ⟨⟨oL, es, ep, F'.keep L oL (hideAll_get _ hL nL), hLd, hLk, hLf⟩, fun b o e => F'.keep b o (hideAll_get _ (F.keep b o e) fun q => ?_), F.above⟩
  obtain ⟨p, hp, rfl⟩ := List.mem_map.mp q
  rw [(N p (hW p hp)).2.2] at e; cases e
/-- what the callee's ledger holds at its end, in the caller's words -/
theorem backN (F : Fr h₀ L h m) (N : News h₀ L h news) (hW : ∀ q ∈ W, q ∈ news) (hg : g = hideAll h (W.map (·.1))) (N' : News g L' h' W') : News h₀ L h' W' := by
  subst hg
  obtain ⟨oL, es, ep, hL, hLd, hLk, hLf⟩ := F.ns
  have nL : L ∉ W.map (·.1) := fun q => by
    obtain ⟨p, hp, e⟩ := List.mem_map.mp q
    exact (N p (hW p hp)).2.1 e
  refine fun q hq => ⟨(N' q hq).1, fun e => ?_, ?_⟩
  · have h1 := (N' q hq).2.2
    rw [e, hideAll_get _ hL nL] at h1; cases h1
  · cases e : h₀.get? q.1 with
    | none => rfl
    | some o =>
      have h1 := (N' q hq).2.2
      rw [hideAll_get _ (F.keep _ _ e) (fun hm => by
        obtain ⟨p, hp, e'⟩ := List.mem_map.mp hm
        have := (N p (hW p hp)).2.2
        rw [e', e] at this; cases this)] at h1
      cases h1
/-- what else the caller's ledger holds -/
theorem backK (N : News h₀ L h news) (hg : g = hideAll h (W.map (·.1))) (F' : Fr g L' h' m') : ∀ q ∈ news, q.1 ∉ W.map (·.1) → h'.get? q.1 = some q.2 ∧ q.1 ≠ L ∧ h₀.get? q.1 = none := by
  subst hg
  exact fun q hq hn => ⟨F'.keep _ _ (hideAll_get _ (N q hq).1 hn), (N q hq).2⟩
/-- one object turned: the whole ledger -/
theorem back1 {d : Addr} {o o' : Obj} {gg : Obj → List (Addr × Obj)} {ro : List (Addr × Obj)} (F : Fr h₀ L h m) (N : News h₀ L h news) (U : UpdF d o news gg) (hW : ∀ q ∈ (d, o) :: ro, q ∈ news) (hg : g = hideAll h (((d, o) :: ro).map (·.1))) (F' : Fr g L' h' m') (N' : News g L' h' ((d, o') :: ro)) : News h₀ L h' (gg o') := by
  obtain ⟨pre, post, rfl, hgg, a, b⟩ := U.split
  rw [hgg]
  have hk := backK N hg F'
  have hb := backN F N hW hg N'
  have one : ∀ q ∈ pre ++ (d, o) :: post, q.1 ≠ d → h'.get? q.1 = some q.2 ∧ q.1 ≠ L ∧ h₀.get? q.1 = none := fun q hq hne => by
    by_cases hm : q.1 ∈ ((d, o) :: ro).map (·.1)
    · obtain ⟨z, hz, e⟩ := List.mem_map.mp hm
      have h1 := (N z (hW z hz)).1
      have h2 := (N q hq).1
      rw [e, h2] at h1
      have : z = q := Prod.ext e (Option.some.inj h1.symm)
      subst this
      rcases List.mem_cons.mp hz with rfl | hz
      · exact absurd rfl hne
      · exact hb z (List.mem_cons_of_mem _ hz)
    · exact hk q hq hm
  intro q hq
  rcases List.mem_append.mp hq with hq | hq
  · exact one q (List.mem_append_left _ hq) (a q hq)
  · rcases List.mem_cons.mp hq with rfl | hq
    · exact hb _ (.head _)
    · exact one q (List.mem_append_right _ (.tail _ hq)) (b q hq)
end
end

-- nolocal
-- needs: base
section
variable {prog : Program} {w : World} {A : Around} {E : Value → Shared → Prop} {s : Shared} {h₀ : Heap} {L : Addr} {m mg mb : Str → Option Value} {K : Frag}
  {p : Program} {loose : List Str} {mean : ExcName → Option Value} {Q : Value → Shared → Prop} {W news : List (Addr × Obj)}
theorem newsSub {h : Heap} {news' : List (Addr × Obj)} (N : News h₀ L h news) (hs : ∀ q ∈ news', q ∈ news) : News h₀ L h news' := fun q hq => N q (hs q hq)

/-- a def of the text's is entered in the walk: the whole ledger goes along; nothing is raised -/
theorem code_defM {R : Result → Shared → Prop} {name qual : Str} {params : Arguments} {body : List Stmt} {scope : Scope} {dV kV doc pm cdv ct oc : Value} {an od : Option Addr} {osl : Array (Option Value)} {f : Addr} {args : List Value}
    (F : Fr h₀ L s.heap m) (X₀ : K.In h₀) (N : News h₀ L s.heap news) (T : Top p loose mean mg mb h₀)
    (ho : K.lookup f = some ⟨oc, od, .func (fnOf name qual params body scope dV kV doc pm an cdv ct), osl⟩) (hcd : codeIn K cdv qual = true) (hroom : A.depth < recursionLimit)
    (hbind : bindArgs (fnOf name qual params body scope dV kV doc pm an cdv ct) ⟨args, []⟩ = pure ((params.args.map (·.arg)).zip args)) (hloc : ∀ y ∈ (params.args.map (·.arg)).zip args, scope.names.lookup y.1 = some .local)
    (h : ∀ g L' h₁, Fr h₀ L g m → Fr g L' h₁ (fun y => ((params.args.map (·.arg)).zip args).reverse.lookup y) → News g L' h₁ news → K.In g → Top p loose mean mg mb g →
      wpAny (model prog w) (A.deeper (envOf qual scope L' f cdv)) (execs body (envOf qual scope L' f cdv))
        (fun fl s' => LeaveK h₀ L m g R (match fl with | .ret v => v | _ => .none) s') (fun _ _ => False) { s with heap := h₁, toks := s.toks + ((params.args.map (·.arg)).zip args).length })
    (hco : scope.isCoroutine = false) (hgen : scope.isGenerator = false) (hk : scope.kind = .function)
    (hcell : ∀ x ∈ scope.names, x.2 ≠ .cell) : codeAny (model prog w) A (.call (.ref f) ⟨args, []⟩) R s := by
  have nm : ∀ b o, h₀.get? b = some o → b ∉ news.map (·.1) := fun b o e q => by
    obtain ⟨p, hp, rfl⟩ := List.mem_map.mp q
    rw [(N p hp).2.2] at e; cases e
  have st : h₀.StaysIn (hideAll s.heap (news.map (·.1))) := fun b o e => hideAll_get _ (F.keep b o e) (nm b o e)
  obtain ⟨oL, es, ep, hL, hLd, hLk, hLf⟩ := F.ns
  have nL : L ∉ news.map (·.1) := fun q => by
    obtain ⟨p, hp, e⟩ := List.mem_map.mp q
    exact (N p hp).2.1 e
  have hLg := hideAll_get (news.map (·.1)) hL nL
  refine codeAny_call_def (fd := fnOf name qual params body scope dV kV doc pm an cdv ct) (body := body) (binds := (params.args.map (·.arg)).zip args) hroom ((X₀.keeps F.keep) _ _ ho) rfl (T.nolimit.keeps F.keep) (codeRec_of (X₀.keeps F.keep) hcd) rfl (BindsTo.of_eq hbind) hcell hloc (fun h₁ hns hk₁ => ?_) hco hgen hk
  refine wpAny_mono (h _ s.heap.objs.size h₁ ⟨⟨oL, es, ep, hLg, hLd, hLk, hLf⟩, st, F.above⟩ ⟨hns, fun b o e => hk₁ b o (of_hideAll _ e), Nat.le_of_eq (hideAll_size _ _)⟩
    (fun p hp => ⟨hk₁ _ _ (N p hp).1, Nat.ne_of_lt (Heap.lt_size (N p hp).1), hideAll_none _ (List.mem_map_of_mem hp)⟩) (X₀.keeps st) (T.keeps st)) (fun fl s' hl => ?_) fun _ _ y => y.elim
  obtain ⟨L', m', news', F', N', k⟩ := hl
  refine k ⟨⟨oL, es, ep, F'.keep L oL hLg, hLd, hLk, hLf⟩, fun b o e => F'.keep b o (st b o e), F.above⟩ fun p hp => ⟨(N' p hp).1, fun q => ?_, ?_⟩
  · have := (N' p hp).2.2; rw [q, hLg] at this; cases this
  · cases q : h₀.get? p.1 with
    | none => rfl
    | some o => have := (N' p hp).2.2; rw [st _ _ q] at this; cases this

/-- a def of the text's with cells is entered: its ledger is its cells and W -/
theorem enterC {d : Nat} {name qual : Str} {params : Arguments} {body : List Stmt} {scope : Scope} {dV kV doc pm cdv ct oc : Value} {an od : Option Addr} {osl : Array (Option Value)} {f : Addr} {args : List Value} {binds : List (Str × Value)}
    (F : Fr h₀ L s.heap m) (N : News h₀ L s.heap news) (X₀ : K.In h₀) (T : Top p loose mean mg mb h₀) (hW : ∀ q ∈ W, q ∈ news)
    (ho : K.lookup f = some ⟨oc, od, .func (fnOf name qual params body scope dV kV doc pm an cdv ct), osl⟩) (hcd : codeIn K cdv qual = true) (hroom : d < recursionLimit)
    (hbind : BindsTo s (fnOf name qual params body scope dV kV doc pm an cdv ct) ⟨args, []⟩ binds)
    (hkind : (binds.all fun y => scope.names.lookup y.1 == some .local || scope.names.lookup y.1 == some .cell) = true)
    (hnd : ((cellsFrom 0 scope.names []).map (·.1)).Nodup)
    (h : ∀ g L' h₁ tk cells, g = hideAll s.heap (W.map (·.1)) → Fr g L' h₁ (bindL (envOfC qual scope L' f cdv).kindOf binds fun _ => none) → News g L' h₁ (cells ++ W) →
      CellsAre (bindC (envOfC qual scope L' f cdv).kindOf binds fun _ => none) (cellsFrom (L' + 1) scope.names []) cells → (∀ q ∈ W, q.1 < L') → K.In g → Top p loose mean mg mb g →
      wpAny (model prog w) ((AL d).deeper (envOfC qual scope L' f cdv)) (execs body (envOfC qual scope L' f cdv))
        (fun fl s' => Q (match fl with | .ret v => v | _ => .none) s') (fun _ _ => False) { s with heap := h₁, toks := tk })
    (hco : scope.isCoroutine = false) (hgen : scope.isGenerator = false) (hk : scope.kind = .function) : wpAny (model prog w) (AL d) (call (.ref f) args) Q (fun _ _ => False) s := by
  have hN : ∀ q ∈ W, h₀.get? q.1 = none := fun q hq => (N q (hW q hq)).2.2
  have st := stays_hide F hN
  refine wpAny_call (codeAny_call_function hroom ((X₀.keeps F.keep) _ _ ho) rfl hco hgen rfl (codeRec_of (X₀.keeps F.keep) hcd) (hbind _ _ _ _ ?_))
  refine wpAny_newFunctionEnv_cells hk (kindsX hkind _) fun env' he s' x => ?_
  subst he
  refine ⟨(T.nolimit.keeps F.keep).keeps x.toInCall.keep, codeAny_func ?_⟩
  obtain ⟨h₁, tk, rfl, _⟩ := x.done
  have hk₁ := x.toInCall.keep
  obtain ⟨cells, NC, Y⟩ := Cl.news (h₀ := s.heap) (Nat.le_refl _) fun n c hm => ⟨x.cell n c (lookup_of_mem_nodup (cellsFrom_names scope.names 0 (s.heap.objs.size + 1) [] [] rfl ▸ hnd) hm), x.above n c hm⟩
  refine wpAny_mono (h _ s.heap.objs.size h₁ tk cells rfl ⟨x.toInCall.ns, fun b o e => hk₁ b o (of_hideAll _ e), Nat.le_of_eq (hideAll_size _ _)⟩ (fun q hq => ?_) Y (fun q hq => Heap.lt_size (N q (hW q hq)).1) (X₀.keeps st) (T.keeps st)) (fun fl s' hl => hl) fun _ _ y => y.elim
  rcases List.mem_append.mp hq with hq | hq
  · refine ⟨(NC q hq).1, (NC q hq).2.1, ?_⟩
    cases z : (hideAll s.heap (W.map (·.1))).get? q.1 with
    | none => rfl
    | some o => have := of_hideAll _ z; rw [(NC q hq).2.2] at this; cases this
  · exact ⟨hk₁ _ _ (N q (hW q hq)).1, Nat.ne_of_lt (Heap.lt_size (N q (hW q hq)).1), hideAll_none _ (List.mem_map_of_mem hq)⟩
end

/-! a for over any walk -/
section
variable {prog : Program} {w : World} {A : Around} {s : Shared} {env : Env} {h₀ : Heap}
noncomputable def ForEnd (h₀ : Heap) (L I : Addr) (oI : Obj) (S : List (Addr × Obj) → Prop) (Jn : (Str → Option Value) → List (Addr × Obj) → Prop) (s s₂ : Shared) : Prop :=
  ∃ h' tk m' news', s₂ = { s with heap := h', toks := tk } ∧ Fr h₀ L h' m' ∧ News h₀ L h' ((I, oI) :: news') ∧ (∀ q ∈ news', q.1 ≠ I) ∧ S news' ∧ Jn m' news'
theorem ForEnd.intro {L I : Addr} {oI : Obj} {S : List (Addr × Obj) → Prop} {Jn : (Str → Option Value) → List (Addr × Obj) → Prop} {h' : Heap} {tk : Nat} {m' : Str → Option Value} {all : List (Addr × Obj)} (news' : List (Addr × Obj))
    (F : Fr h₀ L h' m') (N : News h₀ L h' all) (hs : ∀ q ∈ (I, oI) :: news', q ∈ all) (off : ∀ q ∈ news', q.1 ≠ I) (hS : S news') (hJ : Jn m' news') : ForEnd h₀ L I oI S Jn s { s with heap := h', toks := tk } :=
  ⟨h', tk, m', news', rfl, F, newsSub N hs, off, hS, hJ⟩
noncomputable def ForStep (h₀ : Heap) (L I : Addr) (oI : Obj) (S : List (Addr × Obj) → Prop) (Jn : (Str → Option Value) → List (Addr × Obj) → Prop) (s : Shared) (Q : Flow → Shared → Prop) (f : Flow) (s₂ : Shared) : Prop :=
  match f with
  | .ret v => Q (.ret v) s₂
  | .brk => Q .next s₂
  | _ => ForEnd h₀ L I oI S Jn s s₂

theorem for_U {Q : Flow → Shared → Prop} {R : Result → Shared → Prop} {x : Str} {px : Pos} {body : List Stmt} {I : Addr} {fp : List Addr} {n : Nat} {P : Nat → Value → Prop} {St : Nat → Heap → Prop} {S : List (Addr × Obj) → Prop} {m : Str → Option Value} {news : List (Addr × Obj)}
    (W : Walks prog w A I fp [I] n P St) (Tg : Obj → Prop) (hIo : ∀ i h, St i h → ∃ o, h.get? I = some o ∧ Tg o)
    (hSt : ∀ i h h' o nw, St i h → h.get? I = some o → h'.get? I = some o → (∀ b o, h₀.get? b = some o → h'.get? b = some o) → News h₀ env.locals h' nw → S nw → St i h')
    (hx : env.kindOf x = some .local) (hp : (env.scope.kind == .class || (env.scope.kind == .module && env.locals != env.globals)) = false)
    (hLf : env.locals ∉ fp) (hI₀ : h₀.get? I = none) (off : ∀ q ∈ news, q.1 ≠ I) (hst : St 0 s.heap) (F : Fr h₀ env.locals s.heap m) (N : News h₀ env.locals s.heap news) (hS : S news)
    (J : Nat → (Str → Option Value) → List (Addr × Obj) → Prop) (h0 : J 0 m news)
    (hR : ∀ f s', Q f s' → R (.ok f) s')
    (turn : ∀ i v m₁ news₁ oI h tk, i < n → P i v → J i m₁ news₁ → S news₁ → (∀ q ∈ news₁, q.1 ≠ I) → Fr h₀ env.locals h (fun y => if y = x then some v else m₁ y) → News h₀ env.locals h ((I, oI) :: news₁) → Tg oI →
      wpAny (model prog w) A (execs body env) (ForStep h₀ env.locals I oI S (J (i + 1)) s Q) (fun _ _ => False) { s with heap := h, toks := tk })
    (done : ∀ m₁ news₁ h tk, J n m₁ news₁ → S news₁ → Fr h₀ env.locals h m₁ → News h₀ env.locals h news₁ → Q .next { s with heap := h, toks := tk }) :
    codeAny (model prog w) A (.forLoop (.Name x px) (.ref I) body [] env) R s := by
  have hIf : I ∈ fp := W.sub I (List.mem_singleton.mpr rfl)
  have hLI : env.locals ≠ I := fun q => hLf (q ▸ hIf)
  refine codeAny_forLoop
    (fun k s' => ∃ h' tk m' news' i, s' = { s with heap := h', toks := tk } ∧ St i h' ∧ Fr h₀ env.locals h' m' ∧ News h₀ env.locals h' news' ∧ (∀ q ∈ news', q.1 ≠ I) ∧ S news' ∧ J i m' news' ∧ i ≤ n ∧ k = n + 1 - i) ?_ (n + 1)
    ⟨s.heap, s.toks, m, news, 0, rfl, hst, F, N, off, hS, h0, Nat.zero_le _, rfl⟩
  rintro k s' ⟨h', tk, m', news', i, rfl, hst', F', N', off', hS', hJ, hi, rfl⟩
  by_cases hlt : i < n
  · refine W.item i _ _ _ hlt hst' fun v h₁ tk₁ hP hst₁ hk₁ => ?_
    have F₁ := LCg.fr_but F' hk₁ hLI hI₀
    have N₁ := LCg.news_but N' hk₁ off'
    refine wpAny_assign_Name (wpAny_storeName_local hx F₁.ns (fun h₂ hn₂ hs₂ => ?_) hp)
    have F₂ := F₁.set hn₂ hs₂
    have N₂ := N₁.set hs₂
    have hst₂ : St (i + 1) h₂ := W.frame _ _ _ hst₁ fun b hb o e => (hs₂.2 b fun q => hLf (q ▸ hb)).trans e
    obtain ⟨oI, heI, tgI⟩ := hIo _ _ hst₂
    have N₃ : News h₀ env.locals h₂ ((I, oI) :: news') := fun q hq => by
      rcases List.mem_cons.mp hq with rfl | hq
      · exact ⟨heI, Ne.symm hLI, hI₀⟩
      · exact N₂ q hq
    refine wpAny_mono (turn i v m' news' oI h₂ _ hlt hP hJ hS' off' F₂ N₃ tgI) (fun f s₃ h₃ => ?_) fun _ _ e => e.elim
    have fin : ForEnd h₀ env.locals I oI S (J (i + 1)) s s₃ → ∃ k' < n + 1 - i, ∃ h' tk m' news' i', s₃ = { s with heap := h', toks := tk } ∧ St i' h' ∧ Fr h₀ env.locals h' m' ∧ News h₀ env.locals h' news' ∧ (∀ q ∈ news', q.1 ≠ I) ∧ S news' ∧ J i' m' news' ∧ i' ≤ n ∧ k' = n + 1 - i' := by
      rintro ⟨h₃', tk₃, m₂, news₂, rfl, F₃, N₃', off₃, hS₃, hJ₃⟩
      refine ⟨n + 1 - (i + 1), by omega, h₃', tk₃, m₂, news₂, i + 1, rfl, ?_, F₃, fun q hq => N₃' q (List.mem_cons_of_mem _ hq), off₃, hS₃, hJ₃, hlt, rfl⟩
      exact hSt _ _ _ oI _ hst₂ heI (N₃' _ List.mem_cons_self).1 F₃.keep (fun q hq => N₃' q (List.mem_cons_of_mem _ hq)) hS₃
    cases f with
    | ret v => exact hR _ _ h₃
    | brk => exact hR _ _ h₃
    | cont => exact fin h₃
    | next => exact fin h₃
  · have hin : i = n := by omega
    subst hin
    refine W.done _ _ _ hst' fun h₁ tk₁ hk₁ => wpAny_execs_nil ?_
    exact hR _ _ (done m' news' h₁ tk₁ hJ hS' (LCg.fr_but F' hk₁ hLI hI₀) (LCg.news_but N' hk₁ off'))

/-- what stands behind pyIter in a for: a walk, the state, the turn -/
noncomputable def ForAt (prog : Program) (w : World) (A : Around) (h₀ : Heap) (env : Env) (x : Str) (body : List Stmt) (Q : Flow → Shared → Prop) (it : Value) (s : Shared) : Prop :=
  ∀ (R : Result → Shared → Prop) (px : Pos), (∀ f s', Q f s' → R (.ok f) s') → ∃ I, it = .ref I ∧ codeAny (model prog w) A (.forLoop (.Name x px) (.ref I) body [] env) R s

theorem For_at {Q : Flow → Shared → Prop} {x : Str} {px pos : Pos} {iter : Expr} {body : List Stmt} (h₀ : Heap)
    (h : wpAny (model prog w) A (eval iter env) (fun xv s₁ => wpAny (model prog w) A (pyIter xv) (ForAt prog w A h₀ env x body Q) (fun _ _ => False) s₁) (fun _ _ => False) s)
    (hs : ∀ x, foldedSetIterable iter env x = pure x := by intro _; rfl) :
    wpAny (model prog w) A (exec (.For (.Name x px) iter body [] pos) env) Q (fun _ _ => False) s := by
  refine wpAny_For (wpAny_mono h (fun xv s₁ h₁ => wpAny_mono h₁ (fun it s₂ h₂ => ?_) fun _ _ e => e.elim) fun _ _ e => e.elim) hs
  obtain ⟨I, rfl, hc⟩ := h₂ (fun r s' => match r with | .ok f => Q f s' | .error e => cameBackBy (model prog w) A env (fun _ _ => False) e s') px (fun _ _ q => q)
  exact hc

theorem ne_of_news {L : Addr} {h : Heap} {m : Str → Option Value} {news : List (Addr × Obj)} {ax : Addr} {its : Array Value} (F : Fr h₀ L h m) (N : News h₀ L h news) (S : LCg.SrcAt h₀ ax its news) : L ≠ ax := fun q => by
  rcases S with ⟨o, e, _⟩ | ⟨o, hm, _⟩
  · exact absurd (Nat.lt_of_lt_of_le (Heap.lt_size e) F.above) (q ▸ Nat.lt_irrefl _)
  · exact (N _ hm).2.1 q.symm

/-- a for over a list, of the base or of the ledger -/
theorem iter_list {Q : Flow → Shared → Prop} {x : Str} {body : List Stmt} {ax : Addr} {its : Array Value} {m : Str → Option Value} {news : List (Addr × Obj)}
    (hh : A.handled = none) (hx : env.kindOf x = some .local) (hp : (env.scope.kind == .class || (env.scope.kind == .module && env.locals != env.globals)) = false)
    (F : Fr h₀ env.locals s.heap m) (N : News h₀ env.locals s.heap news) (S : LCg.SrcAt h₀ ax its news)
    (J : Nat → (Str → Option Value) → List (Addr × Obj) → Prop) (h0 : J 0 m news)
    (turn : ∀ i v m₁ news₁ I oI h tk s', i < its.size → its[i]? = some v → J i m₁ news₁ → LCg.SrcAt h₀ ax its news₁ → (∀ q ∈ news₁, q.1 ≠ I) → Fr h₀ env.locals h (fun y => if y = x then some v else m₁ y) → News h₀ env.locals h ((I, oI) :: news₁) → (∃ g, s' = { s with heap := g }) →
      wpAny (model prog w) A (execs body env) (ForStep h₀ env.locals I oI (LCg.SrcAt h₀ ax its) (J (i + 1)) s' Q) (fun _ _ => False) { s with heap := h, toks := tk })
    (done : ∀ m₁ news₁ h tk, J its.size m₁ news₁ → LCg.SrcAt h₀ ax its news₁ → Fr h₀ env.locals h m₁ → News h₀ env.locals h news₁ → Q .next { s with heap := h, toks := tk }) :
    wpAny (model prog w) A (pyIter (.ref ax)) (ForAt prog w A h₀ env x body Q) (fun _ _ => False) s := by
  have hl := S.list F.keep N
  have hlt : ax < s.heap.objs.size := by obtain ⟨_, e, _⟩ := hl; exact Heap.lt_size e
  have hLx := ne_of_news F N S
  have hLlt : env.locals < s.heap.objs.size := F.ns.lt
  refine wpAny_pyIter_list hl ?_
  have up : ∀ b o, s.heap.get? b = some o → (s.heap.push { cls := .type "list_iterator", data := .fields #[.ref ax, .int 0 0] }).get? b = some o := fun b o e => Heap.get?_push_of_some _ e
  intro R px hR
  refine ⟨_, rfl, for_U (Q := Q) (Walks.list hh s.heap.objs.size ax (Nat.ne_of_lt hlt) its) (fun _ => True) (fun i h st => by obtain ⟨o, e, _⟩ := st.1; exact ⟨o, e, trivial⟩) LCg.list_st hx hp (fun hm => ?_) (next_is_new F) (fun q hq => Nat.ne_of_lt (Heap.lt_size (N q hq).1))
    ⟨⟨_, Heap.get?_push_size _ rfl, rfl, rfl⟩, hl.push _⟩ (F.keeps up) (N.grown up) S J h0 hR (fun i v m₁ news₁ oI h tk hi hP hJ hS off F₁ N₁ _ => turn i v m₁ news₁ _ oI h tk _ hi hP hJ hS off F₁ N₁ ⟨_, rfl⟩) done⟩
  rcases List.mem_cons.mp hm with q | hm
  · exact absurd hLlt (q ▸ Nat.lt_irrefl _)
  · exact hLx (List.mem_singleton.mp hm)

/-- a for over a range from nought -/
theorem iter_range {Q : Flow → Shared → Prop} {x : Str} {body : List Stmt} {r : Addr} {a b : Int} {t u v : Tok} {n : Nat} {m : Str → Option Value} {news : List (Addr × Obj)}
    (hh : A.handled = none) (hx : env.kindOf x = some .local) (hp : (env.scope.kind == .class || (env.scope.kind == .module && env.locals != env.globals)) = false)
    (F : Fr h₀ env.locals s.heap m) (N : News h₀ env.locals s.heap news) (hr : IsRange s.heap r a b 1 t u v) (hsm : Builtin.Range.small a b 1 = true) (hn : Builtin.Range.rangeSize a b 1 = ((n : Nat) : Int))
    (J : Nat → (Str → Option Value) → List (Addr × Obj) → Prop) (h0 : J 0 m news)
    (turn : ∀ i t m₁ news₁ I oI h tk s', i < n → J i m₁ news₁ → (∀ q ∈ news₁, q.1 ≠ I) → Fr h₀ env.locals h (fun y => if y = x then some (.int (a + (i : Int)) t) else m₁ y) → News h₀ env.locals h ((I, oI) :: news₁) → (∃ g, s' = { s with heap := g }) → oI.cls = .type "range_iterator" →
      wpAny (model prog w) A (execs body env) (ForStep h₀ env.locals I oI (fun _ => True) (J (i + 1)) s' Q) (fun _ _ => False) { s with heap := h, toks := tk })
    (done : ∀ m₁ news₁ h tk, J n m₁ news₁ → Fr h₀ env.locals h m₁ → News h₀ env.locals h news₁ → Q .next { s with heap := h, toks := tk }) :
    wpAny (model prog w) A (pyIter (.ref r)) (ForAt prog w A h₀ env x body Q) (fun _ _ => False) s := by
  have hLlt : env.locals < s.heap.objs.size := F.ns.lt
  refine wpAny_pyIter_range hr hsm ?_
  intro R px hR
  refine ⟨_, rfl, for_U (Q := Q) (S := fun _ => True) (LCg.range_walks hh a n) (fun o => o.cls = .type "range_iterator") (fun i h st => ⟨_, st, rfl⟩) LCg.range_st hx hp (fun hm => ?_) (next_is_new F) (fun q hq => Nat.ne_of_lt (Heap.lt_size (N q hq).1))
    (by show IsRangeIter _ _ _ _ _; rw [hn]; simpa using Heap.get?_push_size _ rfl) (F.keeps fun _ _ e => Heap.get?_push_of_some _ e) (N.grown fun _ _ e => Heap.get?_push_of_some _ e) trivial J h0 hR
    (fun i v m₁ news₁ oI h tk hi hP hJ hS off F₁ N₁ tg => by obtain ⟨t, rfl⟩ := hP; exact turn i t m₁ news₁ _ oI h tk _ hi hJ off F₁ N₁ ⟨_, rfl⟩ tg) (fun m₁ news₁ h tk hJ _ F₁ N₁ => done m₁ news₁ h tk hJ F₁ N₁)⟩
  exact absurd hLlt ((List.mem_singleton.mp hm : env.locals = _) ▸ Nat.lt_irrefl _)

/-- a for over a dict's keys -/
theorem iter_dict {K : Type} [DecidableEq K] {knd : KeyKind prog w K} {Q : Flow → Shared → Prop} {x : Str} {body : List Stmt} {d : Addr} {od : Obj} {kvs : List (K × Value)} {m : Str → Option Value} {news : List (Addr × Obj)}
    (hh : A.handled = none) (hx : env.kindOf x = some .local) (hp : (env.scope.kind == .class || (env.scope.kind == .module && env.locals != env.globals)) = false)
    (F : Fr h₀ env.locals s.heap m) (N : News h₀ env.locals s.heap news) (hm : (d, od) ∈ news) (hd : od.IsDictOf knd kvs) (lo : (d == sysModules) = false)
    (J : Nat → (Str → Option Value) → List (Addr × Obj) → Prop) (h0 : J 0 m news)
    (turn : ∀ i k y v m₁ news₁ I oI h tk s', i < kvs.length → kvs[i]? = some (k, y) → knd.is k v = true → J i m₁ news₁ → (d, od) ∈ news₁ → (∀ q ∈ news₁, q.1 ≠ I) → Fr h₀ env.locals h (fun y => if y = x then some v else m₁ y) → News h₀ env.locals h ((I, oI) :: news₁) → (∃ g, s' = { s with heap := g }) →
      wpAny (model prog w) A (execs body env) (ForStep h₀ env.locals I oI (fun nw => (d, od) ∈ nw) (J (i + 1)) s' Q) (fun _ _ => False) { s with heap := h, toks := tk })
    (done : ∀ m₁ news₁ h tk, J kvs.length m₁ news₁ → (d, od) ∈ news₁ → Fr h₀ env.locals h m₁ → News h₀ env.locals h news₁ → Q .next { s with heap := h, toks := tk }) :
    wpAny (model prog w) A (pyIter (.ref d)) (ForAt prog w A h₀ env x body Q) (fun _ _ => False) s := by
  obtain ⟨ep, ha⟩ := KdkAt.of hd
  have hlt : d < s.heap.objs.size := Heap.lt_size (N _ hm).1
  have hLlt : env.locals < s.heap.objs.size := F.ns.lt
  have hLd : env.locals ≠ d := fun q => (N _ hm).2.1 q.symm
  refine wpAny_pyIter_dict lo (ha.dictAt (N _ hm).1) ?_
  intro R px hR
  refine ⟨_, rfl, for_U (Q := Q) (S := fun nw => (d, od) ∈ nw) (Walks.dictKeys (knd := knd) hh s.heap.objs.size d (Nat.ne_of_lt hlt) kvs ep) (fun _ => True) (fun i h st => by obtain ⟨o, e, _⟩ := st.1; exact ⟨o, e, trivial⟩)
    (fun i h h' o nw st e e' k N S => ⟨by obtain ⟨o', q, r⟩ := st.1; rw [e] at q; cases q; exact ⟨o, e', r⟩, ha.dictAt (N _ S).1⟩) hx hp (fun hm => ?_) (next_is_new F) (fun q hq => Nat.ne_of_lt (Heap.lt_size (N q hq).1))
    ⟨⟨_, Heap.get?_push_size _ rfl, rfl, rfl⟩, ha.dictAt (Heap.get?_push_of_some _ (N _ hm).1)⟩ (F.keeps fun _ _ e => Heap.get?_push_of_some _ e) (N.grown fun _ _ e => Heap.get?_push_of_some _ e) hm J h0 hR
    (fun i v m₁ news₁ oI h tk hi hP hJ hS off F₁ N₁ _ => by obtain ⟨k, y, e, hk⟩ := hP; exact turn i k y v m₁ news₁ _ oI h tk _ hi e hk hJ hS off F₁ N₁ ⟨_, rfl⟩) done⟩
  rcases List.mem_cons.mp hm with q | hm
  · exact absurd hLlt (q ▸ Nat.lt_irrefl _)
  · exact hLd (List.mem_singleton.mp hm)
end

-- nolocal
-- needs: base2
section
variable {prog : Program} {w : World} {A : Around} {E : Value → Shared → Prop} {s : Shared} {h₀ : Heap} {L : Addr} {m : Str → Option Value} {env : Env}
open LCg LCt
/-- what stands behind pyIter in a comprehension with a test: a walk, the turns -/
noncomputable def CompT (prog : Program) (w : World) (A : Around) (h₀ : Heap) (L : Addr) (m : Str → Option Value) (env : Env) (ct elt : PySem.Expr) (x : Str) (scope : Scope) (cl : List (Str × Addr)) (Fin : Shared → List Value → List (Addr × Obj) → Prop) (it : Value) (s₂ : Shared) : Prop :=
  ∃ I fp n P St S news, it = .ref I ∧ Walks prog w A I fp [I] n P St ∧ n ≤ sizeLine ∧ (∀ i h, St i h → ∃ o, h.get? I = some o) ∧
    (∀ i h h' o nw, St i h → h.get? I = some o → h'.get? I = some o → (∀ b o, h₀.get? b = some o → h'.get? b = some o) → News h₀ L h' nw → S nw → St i h') ∧
    St 0 s₂.heap ∧ (∀ b ∈ fp, b < s₂.heap.objs.size) ∧ Fr h₀ L s₂.heap m ∧ News h₀ L s₂.heap news ∧ L ≠ I ∧ h₀.get? I = none ∧ (∀ q ∈ news, q.1 ≠ I) ∧ S news ∧
    CompRestT prog w A h₀ L m env ct elt x scope cl s₂ S P (Fin s₂) n 0 [] news
noncomputable def CompU (prog : Program) (w : World) (A : Around) (h₀ : Heap) (L : Addr) (m : Str → Option Value) (env : Env) (elt : PySem.Expr) (x : Str) (scope : Scope) (cl : List (Str × Addr)) (Fin : Shared → List Value → List (Addr × Obj) → Prop) (it : Value) (s₂ : Shared) : Prop :=
  ∃ I fp n P St S news, it = .ref I ∧ Walks prog w A I fp [I] n P St ∧ n ≤ sizeLine ∧ (∀ i h, St i h → ∃ o, h.get? I = some o) ∧
    (∀ i h h' o nw, St i h → h.get? I = some o → h'.get? I = some o → (∀ b o, h₀.get? b = some o → h'.get? b = some o) → News h₀ L h' nw → S nw → St i h') ∧
    St 0 s₂.heap ∧ (∀ b ∈ fp, b < s₂.heap.objs.size) ∧ Fr h₀ L s₂.heap m ∧ News h₀ L s₂.heap news ∧ L ≠ I ∧ h₀.get? I = none ∧ (∀ q ∈ news, q.1 ≠ I) ∧ S news ∧
    CompRest prog w A h₀ L m env elt x scope cl s₂ S P (Fin s₂) n 0 [] news

theorem comp_T {ct elt iter : PySem.Expr} {x : Str} {px : Pos} {scope : Scope} {cl : List (Str × Addr)} {pos : Pos} {Q : Value → Shared → Prop}
    (hclos : closureFor scope env = pure cl) (hcell : ∀ y ∈ scope.names, y.2 ≠ .cell) (hkind : scope.kind = .function)
    (hnames : ∀ y ∈ scope.names, y.2 = .local → scope.names.lookup y.1 = some .local) (hx : scope.names.lookup x = some .local)
    (h : wpAny (model prog w) A (eval iter env) (fun xv s₁ => wpAny (model prog w) A (pyIter xv) (CompT prog w A h₀ L m env ct elt x scope cl (fun s₂ => FinE h₀ L m s₂ Q)) E s₁) E s)
    (hs : ∀ x, foldedSetIterable iter env x = pure x := by intro _; rfl) :
    wpAny (model prog w) A (eval (.ListComp elt [⟨.Name x px, iter, [ct], 0⟩] scope pos) env) Q E s := by
  rw [eval_ListComp]
  refine wpAny_comprehension_free (use := none) rfl hs hclos hkind hnames (wpAny_mono h (fun xv s₁ h₁ => wpAny_mono h₁ (fun it s₂ h₂ => ?_) fun _ _ e => e) fun _ _ e => e)
  obtain ⟨I, fp, n, P, St, S, news, rfl, W, hsz, hIo, hSt, hst, hfp, F, N, hIL, hI₀, off, hS, R⟩ := h₂
  refine block_T W hsz hIo hSt hcell hkind hx hst hfp F N hIL hI₀ off hS R ?_
  intro D C h' tk m' ys news' F' N' o1 hn hC₀ hD₀ hCL hDL hCD offC fin
  refine ⟨m', hn, fun h'' hs'' => fin D h'' tk (F'.change hs'' hCL hC₀) (fun p hp => ?_) o1⟩
  refine ⟨hs''.extBut _ _ ?_ (N' p hp).1, (N' p hp).2⟩
  rcases List.mem_cons.mp hp with rfl | hp
  · exact Ne.symm hCD
  · exact offC p hp

theorem comp_U {elt iter : PySem.Expr} {x : Str} {px : Pos} {scope : Scope} {cl : List (Str × Addr)} {pos : Pos} {Q : Value → Shared → Prop}
    (hclos : closureFor scope env = pure cl) (hcell : ∀ y ∈ scope.names, y.2 ≠ .cell) (hkind : scope.kind = .function)
    (hnames : ∀ y ∈ scope.names, y.2 = .local → scope.names.lookup y.1 = some .local) (hx : scope.names.lookup x = some .local)
    (h : wpAny (model prog w) A (eval iter env) (fun xv s₁ => wpAny (model prog w) A (pyIter xv) (CompU prog w A h₀ L m env elt x scope cl (fun s₂ => FinE h₀ L m s₂ Q)) E s₁) E s)
    (hs : ∀ x, foldedSetIterable iter env x = pure x := by intro _; rfl) :
    wpAny (model prog w) A (eval (.ListComp elt [⟨.Name x px, iter, [], 0⟩] scope pos) env) Q E s := by
  rw [eval_ListComp]
  refine wpAny_comprehension_free (use := none) rfl hs hclos hkind hnames (wpAny_mono h (fun xv s₁ h₁ => wpAny_mono h₁ (fun it s₂ h₂ => ?_) fun _ _ e => e) fun _ _ e => e)
  obtain ⟨I, fp, n, P, St, S, news, rfl, W, hsz, hIo, hSt, hst, hfp, F, N, hIL, hI₀, off, hS, R⟩ := h₂
  refine block_U W hsz hIo hSt hcell hkind hx hst hfp F N hIL hI₀ off hS R ?_
  intro D C h' tk m' ys news' F' N' o1 hn hC₀ hD₀ hCL hDL hCD offC fin
  refine ⟨m', hn, fun h'' hs'' => fin D h'' tk (F'.change hs'' hCL hC₀) (fun p hp => ?_) o1⟩
  refine ⟨hs''.extBut _ _ ?_ (N' p hp).1, (N' p hp).2⟩
  rcases List.mem_cons.mp hp with rfl | hp
  · exact Ne.symm hCD
  · exact offC p hp

section
variable {ct elt : PySem.Expr} {x : Str} {scope : Scope} {cl : List (Str × Addr)} {Fin : Shared → List Value → List (Addr × Obj) → Prop} {news : List (Addr × Obj)}
/-- over a list -/
theorem compT_list {ax : Addr} {its : Array Value} (hh : A.handled = none) (F : Fr h₀ L s.heap m) (N : News h₀ L s.heap news) (S : SrcAt h₀ ax its news) (hsz : its.size ≤ sizeLine)
    (R : ∀ s₂ : Shared, (∃ h, s₂ = { s with heap := h }) → CompRestT prog w A h₀ L m env ct elt x scope cl s₂ (SrcAt h₀ ax its) (fun i v => its[i]? = some v) (Fin s₂) its.size 0 [] news) :
    wpAny (model prog w) A (pyIter (.ref ax)) (CompT prog w A h₀ L m env ct elt x scope cl Fin) E s := by
  have hl := S.list F.keep N
  have hlt : ax < s.heap.objs.size := by obtain ⟨_, e, _⟩ := hl; exact Heap.lt_size e
  refine wpAny_pyIter_list hl ?_
  have up : ∀ b o, s.heap.get? b = some o → (s.heap.push { cls := .type "list_iterator", data := .fields #[.ref ax, .int 0 0] }).get? b = some o := fun b o e => Heap.get?_push_of_some _ e
  refine ⟨_, _, _, _, _, _, news, rfl, Walks.list hh s.heap.objs.size ax (Nat.ne_of_lt hlt) its, hsz, (fun i h st => by obtain ⟨o, e, _⟩ := st.1; exact ⟨o, e⟩), list_st, ⟨⟨_, Heap.get?_push_size _ rfl, rfl, rfl⟩, hl.push _⟩, (fun b hb => ?_),
    F.keeps up, N.grown up, Nat.ne_of_lt F.ns.lt, next_is_new F, (fun q hq => Nat.ne_of_lt (Heap.lt_size (N q hq).1)), S, R _ ⟨_, rfl⟩⟩
  show b < (s.heap.push _).objs.size
  rw [Heap.size_push]
  rcases List.mem_cons.mp hb with rfl | hb
  · exact Nat.lt_succ_self _
  · rw [List.mem_singleton.mp hb]; exact Nat.lt_succ_of_lt hlt
theorem compU_list {ax : Addr} {its : Array Value} (hh : A.handled = none) (F : Fr h₀ L s.heap m) (N : News h₀ L s.heap news) (S : SrcAt h₀ ax its news) (hsz : its.size ≤ sizeLine)
    (R : ∀ s₂ : Shared, (∃ h, s₂ = { s with heap := h }) → CompRest prog w A h₀ L m env elt x scope cl s₂ (SrcAt h₀ ax its) (fun i v => its[i]? = some v) (Fin s₂) its.size 0 [] news) :
    wpAny (model prog w) A (pyIter (.ref ax)) (CompU prog w A h₀ L m env elt x scope cl Fin) E s := by
  have hl := S.list F.keep N
  have hlt : ax < s.heap.objs.size := by obtain ⟨_, e, _⟩ := hl; exact Heap.lt_size e
  refine wpAny_pyIter_list hl ?_
  have up : ∀ b o, s.heap.get? b = some o → (s.heap.push { cls := .type "list_iterator", data := .fields #[.ref ax, .int 0 0] }).get? b = some o := fun b o e => Heap.get?_push_of_some _ e
  refine ⟨_, _, _, _, _, _, news, rfl, Walks.list hh s.heap.objs.size ax (Nat.ne_of_lt hlt) its, hsz, (fun i h st => by obtain ⟨o, e, _⟩ := st.1; exact ⟨o, e⟩), list_st, ⟨⟨_, Heap.get?_push_size _ rfl, rfl, rfl⟩, hl.push _⟩, (fun b hb => ?_),
    F.keeps up, N.grown up, Nat.ne_of_lt F.ns.lt, next_is_new F, (fun q hq => Nat.ne_of_lt (Heap.lt_size (N q hq).1)), S, R _ ⟨_, rfl⟩⟩
  show b < (s.heap.push _).objs.size
  rw [Heap.size_push]
  rcases List.mem_cons.mp hb with rfl | hb
  · exact Nat.lt_succ_self _
  · rw [List.mem_singleton.mp hb]; exact Nat.lt_succ_of_lt hlt
/-- over a range -/
theorem compU_range {r : Addr} {a b : Int} {t u v : Tok} {n : Nat} (hh : A.handled = none) (F : Fr h₀ L s.heap m) (N : News h₀ L s.heap news) (hr : IsRange s.heap r a b 1 t u v) (hsm : Builtin.Range.small a b 1 = true) (hn : Builtin.Range.rangeSize a b 1 = ((n : Nat) : Int)) (hsz : n ≤ sizeLine)
    (R : ∀ s₂ : Shared, (∃ h, s₂ = { s with heap := h }) → CompRest prog w A h₀ L m env elt x scope cl s₂ (fun _ => True) (fun i v => ∃ t, v = .int (a + (i : Int)) t) (Fin s₂) n 0 [] news) :
    wpAny (model prog w) A (pyIter (.ref r)) (CompU prog w A h₀ L m env elt x scope cl Fin) E s := by
  refine wpAny_pyIter_range hr hsm ?_
  refine ⟨_, _, _, _, _, _, news, rfl, range_walks hh a n, hsz, (fun i h st => ⟨_, st⟩), range_st, (by show IsRangeIter _ _ _ _ _; rw [hn]; simpa using Heap.get?_push_size _ rfl), (fun b hb => ?_),
    F.keeps fun _ _ e => Heap.get?_push_of_some _ e, N.grown fun _ _ e => Heap.get?_push_of_some _ e, Nat.ne_of_lt F.ns.lt, next_is_new F, (fun q hq => Nat.ne_of_lt (Heap.lt_size (N q hq).1)), trivial, R _ ⟨_, rfl⟩⟩
  rw [List.mem_singleton.mp hb]
  show s.heap.objs.size < (s.heap.push _).objs.size
  rw [Heap.size_push]; exact Nat.lt_succ_self _
variable {K : Type} [DecidableEq K] {knd : KeyKind prog w K}
/-- over a dict's keys -/
theorem compT_keys {d : Addr} {od : Obj} {kvs : List (K × Value)} (hh : A.handled = none) (F : Fr h₀ L s.heap m) (N : News h₀ L s.heap news) (hm : (d, od) ∈ news) (hd : od.IsDictOf knd kvs) (lo : (d == sysModules) = false) (hsz : kvs.length ≤ sizeLine)
    (R : ∀ s₂ : Shared, (∃ h, s₂ = { s with heap := h }) → CompRestT prog w A h₀ L m env ct elt x scope cl s₂ (fun nw => (d, od) ∈ nw) (fun i v => ∃ k y, kvs[i]? = some (k, y) ∧ knd.is k v = true) (Fin s₂) kvs.length 0 [] news) :
    wpAny (model prog w) A (pyIter (.ref d)) (CompT prog w A h₀ L m env ct elt x scope cl Fin) E s := by
  obtain ⟨ep, ha⟩ := KdkAt.of hd
  have hlt : d < s.heap.objs.size := Heap.lt_size (N _ hm).1
  refine wpAny_pyIter_dict lo (ha.dictAt (N _ hm).1) ?_
  refine ⟨_, _, _, _, _, _, news, rfl, Walks.dictKeys (knd := knd) hh s.heap.objs.size d (Nat.ne_of_lt hlt) kvs ep, hsz, (fun i h st => by obtain ⟨o, e, _⟩ := st.1; exact ⟨o, e⟩),
    (fun i h h' o nw st e e' k N S => ⟨by obtain ⟨o', q, r⟩ := st.1; rw [e] at q; cases q; exact ⟨o, e', r⟩, ha.dictAt (N _ S).1⟩), ⟨⟨_, Heap.get?_push_size _ rfl, rfl, rfl⟩, ha.dictAt (Heap.get?_push_of_some _ (N _ hm).1)⟩, (fun b hb => ?_),
    F.keeps fun _ _ e => Heap.get?_push_of_some _ e, N.grown fun _ _ e => Heap.get?_push_of_some _ e, Nat.ne_of_lt F.ns.lt, next_is_new F, (fun q hq => Nat.ne_of_lt (Heap.lt_size (N q hq).1)), hm, R _ ⟨_, rfl⟩⟩
  show b < (s.heap.push _).objs.size
  rw [Heap.size_push]
  rcases List.mem_cons.mp hb with rfl | hb
  · exact Nat.lt_succ_self _
  · rw [List.mem_singleton.mp hb]; exact Nat.lt_succ_of_lt hlt
/-- over a dict's values -/
theorem compT_values {V d : Addr} {od : Obj} {kvs : List (K × Value)} (hh : A.handled = none) (F : Fr h₀ L s.heap m) (N : News h₀ L s.heap news) (hv : (V, ({ cls := .type "dict_values", data := .fields #[.ref d] } : Obj)) ∈ news) (hm : (d, od) ∈ news) (hd : od.IsDictOf knd kvs) (hsz : kvs.length ≤ sizeLine)
    (R : ∀ s₂ : Shared, (∃ h, s₂ = { s with heap := h }) → CompRestT prog w A h₀ L m env ct elt x scope cl s₂ (fun nw => (d, od) ∈ nw) (fun i v => ∃ k, kvs[i]? = some (k, v)) (Fin s₂) kvs.length 0 [] news) :
    wpAny (model prog w) A (pyIter (.ref V)) (CompT prog w A h₀ L m env ct elt x scope cl Fin) E s := by
  obtain ⟨ep, ha⟩ := KdkAt.of hd
  have hlt : d < s.heap.objs.size := Heap.lt_size (N _ hm).1
  refine wpAny_pyIter_values ⟨_, (N _ hv).1, rfl, rfl⟩ (ha.dictAt (N _ hm).1) ?_
  refine ⟨_, _, _, _, _, _, news, rfl, Walks.dictValues (knd := knd) hh s.heap.objs.size d (Nat.ne_of_lt hlt) kvs ep, hsz, (fun i h st => by obtain ⟨o, e, _⟩ := st.1; exact ⟨o, e⟩),
    (fun i h h' o nw st e e' k N S => ⟨by obtain ⟨o', q, r⟩ := st.1; rw [e] at q; cases q; exact ⟨o, e', r⟩, ha.dictAt (N _ S).1⟩), ⟨⟨_, Heap.get?_push_size _ rfl, rfl, rfl⟩, ha.dictAt (Heap.get?_push_of_some _ (N _ hm).1)⟩, (fun b hb => ?_),
    F.keeps fun _ _ e => Heap.get?_push_of_some _ e, N.grown fun _ _ e => Heap.get?_push_of_some _ e, Nat.ne_of_lt F.ns.lt, next_is_new F, (fun q hq => Nat.ne_of_lt (Heap.lt_size (N q hq).1)), hm, R _ ⟨_, rfl⟩⟩
  show b < (s.heap.push _).objs.size
  rw [Heap.size_push]
  rcases List.mem_cons.mp hb with rfl | hb
  · exact Nat.lt_succ_self _
  · rw [List.mem_singleton.mp hb]; exact Nat.lt_succ_of_lt hlt
theorem compU_values {V d : Addr} {od : Obj} {kvs : List (K × Value)} (hh : A.handled = none) (F : Fr h₀ L s.heap m) (N : News h₀ L s.heap news) (hv : (V, ({ cls := .type "dict_values", data := .fields #[.ref d] } : Obj)) ∈ news) (hm : (d, od) ∈ news) (hd : od.IsDictOf knd kvs) (hsz : kvs.length ≤ sizeLine)
    (R : ∀ s₂ : Shared, (∃ h, s₂ = { s with heap := h }) → CompRest prog w A h₀ L m env elt x scope cl s₂ (fun nw => (d, od) ∈ nw) (fun i v => ∃ k, kvs[i]? = some (k, v)) (Fin s₂) kvs.length 0 [] news) :
    wpAny (model prog w) A (pyIter (.ref V)) (CompU prog w A h₀ L m env elt x scope cl Fin) E s := by
  obtain ⟨ep, ha⟩ := KdkAt.of hd
  have hlt : d < s.heap.objs.size := Heap.lt_size (N _ hm).1
  refine wpAny_pyIter_values ⟨_, (N _ hv).1, rfl, rfl⟩ (ha.dictAt (N _ hm).1) ?_
  refine ⟨_, _, _, _, _, _, news, rfl, Walks.dictValues (knd := knd) hh s.heap.objs.size d (Nat.ne_of_lt hlt) kvs ep, hsz, (fun i h st => by obtain ⟨o, e, _⟩ := st.1; exact ⟨o, e⟩),
    (fun i h h' o nw st e e' k N S => ⟨by obtain ⟨o', q, r⟩ := st.1; rw [e] at q; cases q; exact ⟨o, e', r⟩, ha.dictAt (N _ S).1⟩), ⟨⟨_, Heap.get?_push_size _ rfl, rfl, rfl⟩, ha.dictAt (Heap.get?_push_of_some _ (N _ hm).1)⟩, (fun b hb => ?_),
    F.keeps fun _ _ e => Heap.get?_push_of_some _ e, N.grown fun _ _ e => Heap.get?_push_of_some _ e, Nat.ne_of_lt F.ns.lt, next_is_new F, (fun q hq => Nat.ne_of_lt (Heap.lt_size (N q hq).1)), hm, R _ ⟨_, rfl⟩⟩
  show b < (s.heap.push _).objs.size
  rw [Heap.size_push]
  rcases List.mem_cons.mp hb with rfl | hb
  · exact Nat.lt_succ_self _
  · rw [List.mem_singleton.mp hb]; exact Nat.lt_succ_of_lt hlt
end
end

-- nolocal
-- needs: base3
theorem allLt_off {d : Addr} : ∀ {l : List (Addr × Obj)}, AllLt d l → ∀ q ∈ l, q.1 ≠ d
  | [], _, _, h => nomatch h
  | _ :: _, h, q, hq => by
    rcases List.mem_cons.mp hq with rfl | hq
    · exact Nat.ne_of_lt h.1
    · exact allLt_off h.2 q hq

theorem allLt_lt {d : Addr} : ∀ {l : List (Addr × Obj)}, AllLt d l → ∀ q ∈ l, @LT.lt Nat _ q.1 d
  | [], _, _, h => nomatch h
  | _ :: _, h, q, hq => by
    rcases List.mem_cons.mp hq with rfl | hq
    · exact h.1
    · exact allLt_lt h.2 q hq

/-- a range (low, high) as it lies: its tuple's address, its ints' tokens -/
structure RZ where
  a : Addr
  lo : Int
  hi : Int
  t : Tok
  u : Tok
noncomputable abbrev tup2 (lo : Int) (t : Tok) (hi : Int) (u : Tok) : Obj := { cls := .type "tuple", data := .seq #[.int lo t, .int hi u] }
noncomputable abbrev RZ.obj (z : RZ) : Obj := tup2 z.lo z.t z.hi z.u
noncomputable abbrev RZ.rng (z : RZ) : Int × Int := (z.lo, z.hi)
noncomputable def tz (zs : List RZ) : List (Addr × Obj) := zs.map fun z => (z.a, z.obj)
noncomputable def vz (zs : List RZ) : List Value := zs.map fun z => .ref z.a
noncomputable def rz (zs : List RZ) : List (Int × Int) := zs.map fun z => z.rng
theorem tz_mem {zs : List RZ} {z : RZ} (h : z ∈ zs) : (z.a, z.obj) ∈ tz zs := List.mem_map_of_mem h
theorem vz_length (zs : List RZ) : (vz zs).length = zs.length := by simp [vz]
theorem vz_push (zs : List RZ) (z : RZ) : (vz zs).toArray.push (.ref z.a) = (vz (zs ++ [z])).toArray := by simp [vz]
theorem vz_push' (zs : List RZ) (a : Addr) (lo hi : Int) (t u : Tok) : (vz zs).toArray.push (.ref a) = (vz (zs ++ [⟨a, lo, hi, t, u⟩])).toArray := by simp [vz]
theorem vz_get {zs : List RZ} {i : Nat} {v : Value} (h : (vz zs)[i]? = some v) : ∃ z, zs[i]? = some z ∧ v = .ref z.a := by
  unfold vz at h
  rw [List.getElem?_map] at h
  obtain ⟨z, hz, rfl⟩ := Option.map_eq_some_iff.mp h
  exact ⟨z, hz, rfl⟩

section
variable {prog : Program} {w : World} {A : Around} {E : Value → Shared → Prop} {s : Shared} {h₀ : Heap} {L : Addr} {m : Str → Option Value} {Q : Value → Shared → Prop} {news : List (Addr × Obj)}
theorem lenL {a : Addr} {vs : List Value} {k : Nat} (N : News h₀ L s.heap news) (ha : (a, listOf vs.toArray k) ∈ news) (hz : vs.length ≤ 100000)
    (h : Q (.int (vs.length : Int) (s.toks + 1)) { s with toks := s.toks + 1 + 1 }) : wpAny (model prog w) A (call (.builtin "len") [.ref a]) Q E s :=
  call_len_list ⟨_, (N _ ha).1, rfl, _, rfl⟩ (by simp only [List.size_toArray]; omega) (by simpa only [List.size_toArray] using h)
/-- nothing of the caller's is turned: its whole ledger, and what is new ahead of it -/
theorem backAll {g h h' : Heap} {L' : Addr} {m' : Str → Option Value} {W pre : List (Addr × Obj)} (F : Fr h₀ L h m) (N : News h₀ L h news) (hW : ∀ q ∈ W, q ∈ news) (hg : g = hideAll h (W.map (·.1))) (F' : Fr g L' h' m') (N' : News g L' h' (pre ++ W)) : News h₀ L h' (pre ++ news) := by
  have hb := backN F N hW hg N'
  have hk := backK N hg F'
  intro q hq
  rcases List.mem_append.mp hq with hq | hq
  · exact hb q (List.mem_append_left _ hq)
  · by_cases hm : q.1 ∈ W.map (·.1)
    · obtain ⟨z, hz, e⟩ := List.mem_map.mp hm
      have h1 := (N z (hW z hz)).1
      have h2 := (N q hq).1
      rw [e, h2] at h1
      have : z = q := Prod.ext e (Option.some.inj h1.symm)
      subst this
      exact hb z (List.mem_append_right _ hz)
    · exact hk q hq hm
theorem backNe {g h h' : Heap} {L' a : Addr} {o : Obj} {W nw : List (Addr × Obj)} (N : News h₀ L h news) (hg : g = hideAll h (W.map (·.1))) (N' : News g L' h' nw) (ha : (a, o) ∈ nw) (hn : ∀ q ∈ W, @Ne Nat q.1 a) : ∀ q ∈ news, @Ne Nat q.1 a := by
  intro q hq e
  have h1 := (N' _ ha).2.2
  subst hg
  rw [hideAll_get _ (by rw [show (a, o).1 = q.1 from e.symm]; exact (N q hq).1) (fun hm => by
    obtain ⟨z, hz, e'⟩ := List.mem_map.mp hm
    exact hn z hz e')] at h1
  cases h1
theorem addL {a b : Addr} {vs ws : List Value} {ka kb : Nat} (F : Fr h₀ L s.heap m) (N : News h₀ L s.heap news) (ha : (a, listOf vs.toArray ka) ∈ news) (hb : (b, listOf ws.toArray kb) ∈ news) (hz : vs.length + ws.length ≤ sizeLine)
    (h : ∀ D h', Fr h₀ L h' m → News h₀ L h' ((D, listOf (vs ++ ws).toArray 0) :: news) → (∀ p ∈ news, p.1 < D) → Q (.ref D) { s with heap := h' }) : wpAny (model prog w) A (binaryOp .Add (.ref a) (.ref b)) Q E s :=
  add_lists F N ⟨_, (N _ ha).1, rfl, _, rfl⟩ ⟨_, (N _ hb).1, rfl, _, rfl⟩ (fun h' F' N' => h _ h' F' N' fun p hp => Heap.lt_size (N p hp).1) hz
end

/-! ranges: what add_number and has_number reckon -/
structure RS where
  found : List (Int × Int)
  lo : Int
  hi : Int
  b : Bool
noncomputable def stepR (s : RS) (o : Int × Int) : RS :=
  if o.1 > s.hi + 1 then { s with found := s.found ++ [o] }
  else if o.2 < s.lo - 1 then (if s.b then { s with found := s.found ++ [o] } else { s with found := s.found ++ [(s.lo, s.hi), o], b := true })
  else { s with lo := min s.lo o.1, hi := max s.hi o.2 }
noncomputable def endR (s : RS) : List (Int × Int) := if s.b then s.found else s.found ++ [(s.lo, s.hi)]
noncomputable def addR (rs : List (Int × Int)) (n : Int) : List (Int × Int) := endR (rs.foldl stepR ⟨[], n, n, false⟩)
noncomputable def hasR (rs : List (Int × Int)) (n : Int) : Bool := rs.any fun r => decide (r.1 ≤ n) && decide (n ≤ r.2)

-- nolocal
-- needs: defs
section
open LCg LCt LCp
variable {prog : Program} {w : World} {A : Around} {s : Shared} {h₀ : Heap} {L : Addr} {m : Str → Option Value} {env : Env} {ct elt : PySem.Expr} {x x₂ : Str} {scope : Scope} {cl : List (Str × Addr)}
  {S : List (Addr × Obj) → Prop} {P : Nat → Value → Prop} {Fin : List Value → List (Addr × Obj) → Prop} {news : List (Addr × Obj)} {n : Nat}
theorem invU (J : Nat → List Value → List (Addr × Obj) → Prop) (h0 : J 0 [] news)
    (turn : ∀ i ys nw v I oI C oC D m₂ h tk (E' : Value → Shared → Prop), i < n → J i ys nw → P i v → NsObj oC m₂ → m₂ x = some v → Fr h₀ L h m → News h₀ L h ((I, oI) :: (C, oC) :: (D, lst ys) :: nw) → Off3 I C D nw → ((@Ne Nat I C) ∧ (@Ne Nat I D) ∧ (@Ne Nat C D)) →
      wpAny (model prog w) A (eval elt (compEnvC scope cl C env)) (CompEnd h₀ L m { s with heap := h, toks := tk } I oI C oC D (lst ys) S (fun y nw' => J (i + 1) (ys ++ [y]) nw')) E' { s with heap := h, toks := tk })
    (done : ∀ ys nw, J n ys nw → Fin ys nw) : CompRest prog w A h₀ L m env elt x scope cl s S P Fin n 0 [] news := by
  suffices H : ∀ k i ys nw, i + k = n → J i ys nw → CompRest prog w A h₀ L m env elt x scope cl s S P Fin k i ys nw from H n 0 [] news (Nat.zero_add _) h0
  intro k
  induction k with
  | zero => intro i ys nw e hJ; exact CompRest.zero (done ys nw (by rw [← e]; exact hJ))
  | succ k ih =>
    intro i ys nw e hJ
    refine CompRest.succ fun v I oI C oC D m₂ h tk E' hP hC hx F N off ne => ?_
    refine wpAny_mono (turn i ys nw v I oI C oC D m₂ h tk E' (by omega) hJ hP hC hx F N off ne) (fun y s' hy => ?_) fun _ _ e => e
    obtain ⟨h', tk', nw', rfl, F', N', off', hS, hJ'⟩ := hy
    exact ⟨h', tk', nw', rfl, F', N', off', hS, ih _ _ _ (by omega) hJ'⟩
theorem invP (J : Nat → List Value → List (Addr × Obj) → Prop) (h0 : J 0 [] news)
    (turn : ∀ i ys nw v, i < n → J i ys nw → P i v → ∃ (t : Addr) (ot : Obj) (v₁ v₂ : Value) (nt : Nat), v = .ref t ∧ (t, ot) ∈ nw ∧ ot.cls = .type "tuple" ∧ ot.data = .seq #[v₁, v₂] nt ∧
      ∀ I oI C oC D m₂ h tk (E' : Value → Shared → Prop), NsObj oC m₂ → m₂ x = some v₁ → m₂ x₂ = some v₂ → Fr h₀ L h m → News h₀ L h ((I, oI) :: (C, oC) :: (D, lst ys) :: nw) → Off3 I C D nw → ((@Ne Nat I C) ∧ (@Ne Nat I D) ∧ (@Ne Nat C D)) →
      wpAny (model prog w) A (eval elt (compEnvC scope cl C env)) (CompEnd h₀ L m { s with heap := h, toks := tk } I oI C oC D (lst ys) S (fun y nw' => J (i + 1) (ys ++ [y]) nw')) E' { s with heap := h, toks := tk })
    (done : ∀ ys nw, J n ys nw → Fin ys nw) : CompRestP prog w A h₀ L m env elt x x₂ scope cl s S P Fin n 0 [] news := by
  suffices H : ∀ k i ys nw, i + k = n → J i ys nw → CompRestP prog w A h₀ L m env elt x x₂ scope cl s S P Fin k i ys nw from H n 0 [] news (Nat.zero_add _) h0
  intro k
  induction k with
  | zero => intro i ys nw e hJ; exact CompRestP.zero (done ys nw (by rw [← e]; exact hJ))
  | succ k ih =>
    intro i ys nw e hJ
    refine CompRestP.succ fun v hP => ?_
    obtain ⟨t, ot, v₁, v₂, nt, e1, e2, e3, e4, r⟩ := turn i ys nw v (by omega) hJ hP
    refine ⟨t, ot, v₁, v₂, nt, e1, e2, e3, e4, fun I oI C oC D m₂ h tk E' hC hx hx' F N off ne => ?_⟩
    refine wpAny_mono (r I oI C oC D m₂ h tk E' hC hx hx' F N off ne) (fun y s' hy => ?_) fun _ _ e => e
    obtain ⟨h', tk', nw', rfl, F', N', off', hS, hJ'⟩ := hy
    exact ⟨h', tk', nw', rfl, F', N', off', hS, ih _ _ _ (by omega) hJ'⟩
theorem invT (J : Nat → List Value → List (Addr × Obj) → Prop) (h0 : J 0 [] news)
    (turn : ∀ i ys nw v I oI C oC D m₂ h tk (E' : Value → Shared → Prop), i < n → J i ys nw → P i v → NsObj oC m₂ → m₂ x = some v → Fr h₀ L h m → News h₀ L h ((I, oI) :: (C, oC) :: (D, lst ys) :: nw) → Off3 I C D nw → ((@Ne Nat I C) ∧ (@Ne Nat I D) ∧ (@Ne Nat C D)) →
      wpAny (model prog w) A (isTrue ct (compEnvC scope cl C env) (eval ct (compEnvC scope cl C env))) (fun ok s' => if ok = true then
        wpAny (model prog w) A (eval elt (compEnvC scope cl C env)) (CompEnd h₀ L m { s with heap := h, toks := tk } I oI C oC D (lst ys) S (fun y nw' => J (i + 1) (ys ++ [y]) nw')) E' s'
        else CompEnd h₀ L m { s with heap := h, toks := tk } I oI C oC D (lst ys) S (fun _ nw' => J (i + 1) ys nw') Value.none s') E' { s with heap := h, toks := tk })
    (done : ∀ ys nw, J n ys nw → Fin ys nw) : CompRestT prog w A h₀ L m env ct elt x scope cl s S P Fin n 0 [] news := by
  suffices H : ∀ k i ys nw, i + k = n → J i ys nw → CompRestT prog w A h₀ L m env ct elt x scope cl s S P Fin k i ys nw from H n 0 [] news (Nat.zero_add _) h0
  intro k
  induction k with
  | zero => intro i ys nw e hJ; exact CompRestT.zero (done ys nw (by rw [← e]; exact hJ))
  | succ k ih =>
    intro i ys nw e hJ
    refine CompRestT.succ fun v I oI C oC D m₂ h tk E' hP hC hx F N off ne => ?_
    refine wpAny_mono (turn i ys nw v I oI C oC D m₂ h tk E' (by omega) hJ hP hC hx F N off ne) (fun ok s' hy => ?_) fun _ _ e => e
    by_cases hok : ok = true
    · rw [if_pos hok] at hy ⊢
      refine wpAny_mono hy (fun y s'' hy => ?_) fun _ _ e => e
      obtain ⟨h', tk', nw', rfl, F', N', off', hS, hJ'⟩ := hy
      exact ⟨h', tk', nw', rfl, F', N', off', hS, ih _ _ _ (by omega) hJ'⟩
    · rw [if_neg hok] at hy ⊢
      obtain ⟨h', tk', nw', rfl, F', N', off', hS, hJ'⟩ := hy
      exact ⟨h', tk', nw', rfl, F', N', off', hS, ih _ _ _ (by omega) hJ'⟩
theorem off3_sym {I C D : Addr} {l : List (Addr × Obj)} (h : Off3 I C D l) : (∀ q ∈ l, q.1 ≠ I) ∧ (∀ q ∈ l, q.1 ≠ C) ∧ (∀ q ∈ l, q.1 ≠ D) :=
  ⟨fun q hq => (h.mem q hq).1, fun q hq => (h.mem q hq).2.1, fun q hq => (h.mem q hq).2.2⟩
end
section
theorem bools_map {α : Type} {f : α → Bool} {l : List α} : LSm.BoolsAre (l.map fun z => .bool (f z)) (l.map f) := by
  induction l with
  | nil => exact .nil
  | cons a l ih => exact .cons _ ih

theorem take_map {α β : Type} {f : α → β} {l : List α} {i : Nat} {a : α} {y : β} (h : l[i]? = some a) (hy : y = f a) : (l.take i).map f ++ [y] = (l.take (i + 1)).map f := by
  rw [List.take_add_one, h, hy]; simp
theorem take_filterMap {α β : Type} {f : α → Option β} {l : List α} {i : Nat} {a : α} {y : β} (h : l[i]? = some a) (hy : f a = some y) : (l.take i).filterMap f ++ [y] = (l.take (i + 1)).filterMap f := by
  rw [List.take_add_one, h]; simp [hy]
theorem take_filterMap0 {α β : Type} {f : α → Option β} {l : List α} {i : Nat} {a : α} (h : l[i]? = some a) (hy : f a = none) : (l.take i).filterMap f = (l.take (i + 1)).filterMap f := by
  rw [List.take_add_one, h]; simp [hy]
/-- the walk stops here -/
structure Halt (P : Prop) : Prop where
  out : P
end

-- nolocal
-- needs: comp
noncomputable abbrev en (w : World) (nm : Str) (t : Tok) (v : Value) : DictEntry := { hash := PyData.keyHash w.params nm, key := .str nm t, val := v }
/-- a Space's own dict -/
noncomputable abbrev xdO (w : World) (k : Nat → Tok) (vName vNext vSent vLA vAK vLET vLT vRec vLS vLTm vFU vUn vWN vHN vECN vGone : Value) : Obj := dictOf [
  en w (Str.ofString "name") (k 0) vName, en w (Str.ofString "next_number") (k 1) vNext, en w (Str.ofString "sent") (k 2) vSent, en w (Str.ofString "largest_acked") (k 3) vLA, en w (Str.ofString "acked") (k 4) vAK,
  en w (Str.ofString "last_eliciting_time") (k 5) vLET, en w (Str.ofString "loss_time") (k 6) vLT, en w (Str.ofString "received") (k 7) vRec, en w (Str.ofString "largest_seen") (k 8) vLS, en w (Str.ofString "largest_time") (k 9) vLTm,
  en w (Str.ofString "first_unacked") (k 10) vFU, en w (Str.ofString "unacked") (k 11) vUn, en w (Str.ofString "wants_now") (k 12) vWN, en w (Str.ofString "has_new") (k 13) vHN, en w (Str.ofString "ecn") (k 14) vECN, en w (Str.ofString "is_gone") (k 15) vGone] 16
/-- the law's own dict -/
noncomputable abbrev odK (vName vSeen vMarks vHigh vHighAt vSince vAsked vOnce vOut vNext vTop vLast vNow : Value) : List (Str × Value) := [
  (Str.ofString "name", vName), (Str.ofString "seen", vSeen), (Str.ofString "marks", vMarks), (Str.ofString "high", vHigh), (Str.ofString "high_at", vHighAt), (Str.ofString "since", vSince), (Str.ofString "asked", vAsked),
  (Str.ofString "at_once", vOnce), (Str.ofString "out", vOut), (Str.ofString "next", vNext), (Str.ofString "top", vTop), (Str.ofString "last", vLast), (Str.ofString "now", vNow)]
/-- an int or None -/
noncomputable def OI (v : Value) : Option Int → Prop
  | none => v = .none
  | some n => ∃ t, v = .int n t
/-- a packet that is out: its number, time, size, whether it asks and counts; its instance, that one's dict, the law's row; its frames -/
structure OZ where
  n : Int
  tm : Int
  sz : Int
  ak : Bool
  ct : Bool
  pa : Addr
  pd : Addr
  ta : Addr
  fr : Value
  k : Nat → Tok
noncomputable abbrev pkO (w : World) (o : OZ) : Obj := dictOf [en w (Str.ofString "number") (o.k 0) (.int o.n (o.k 6)), en w (Str.ofString "time") (o.k 1) (.int o.tm (o.k 7)), en w (Str.ofString "size") (o.k 2) (.int o.sz (o.k 8)),
  en w (Str.ofString "frames") (o.k 3) o.fr, en w (Str.ofString "is_eliciting") (o.k 4) (.bool o.ak), en w (Str.ofString "in_flight") (o.k 5) (.bool o.ct)] 6
noncomputable abbrev rowO (o : OZ) : Obj := { cls := .type "tuple", data := .seq #[.int o.tm (o.k 9), .int o.sz (o.k 10), .bool o.ak, .bool o.ct] }
noncomputable def pz (os : List OZ) : List (Addr × Obj) := os.map fun o => (o.pa, instObj 93 o.pd)
noncomputable def qz (w : World) (os : List OZ) : List (Addr × Obj) := os.map fun o => (o.pd, pkO w o)
noncomputable def wz (os : List OZ) : List (Addr × Obj) := os.map fun o => (o.ta, rowO o)
noncomputable def sentK (os : List OZ) : List (Int × Value) := os.map fun o => (o.n, .ref o.pa)
noncomputable def outK (os : List OZ) : List (Int × Value) := os.map fun o => (o.n, .ref o.ta)
theorem pz_mem {os : List OZ} {o : OZ} (h : o ∈ os) : (o.pa, instObj 93 o.pd) ∈ pz os := List.mem_map_of_mem h
theorem qz_mem {w : World} {os : List OZ} {o : OZ} (h : o ∈ os) : (o.pd, pkO w o) ∈ qz w os := List.mem_map_of_mem h
theorem wz_mem {os : List OZ} {o : OZ} (h : o ∈ os) : (o.ta, rowO o) ∈ wz os := List.mem_map_of_mem h

/-- known, but not looked at -/
structure Hid (P : Prop) : Prop where
  out : P
/-- what kind of thing it is -/
noncomputable def tagO (o : Obj) : Nat := match o.cls with
  | .type n => if n = "list" then 1 else if n = "dict" then 2 else if n = "tuple" then 3 else 4
  | .ref a => 10 + a
  | _ => 0
section
variable {h₀ h h' g : Heap} {L L' : Addr} {m m' : Str → Option Value} {W W' rest news : List (Addr × Obj)} {U : List Addr}
/-- back in the caller's frame: what the callee has turned (at U), what it has left, what else stands -/
theorem backG (F : Fr h₀ L h m) (N : News h₀ L h (W ++ rest)) (hg : g = hideAll h (W.map (·.1))) (F' : Fr g L' h' m') (N' : News g L' h' W') (keep : ∀ z ∈ W, z ∈ W' ∨ z.1 ∈ U) (off : ∀ q ∈ rest, q.1 ∉ U) : News h₀ L h' (W' ++ rest) := by
  have hW : ∀ q ∈ W, q ∈ W ++ rest := fun q hq => List.mem_append_left _ hq
  have hb := backN F N hW hg N'
  have hk := backK N hg F'
  intro q hq
  rcases List.mem_append.mp hq with hq | hq
  · exact hb q hq
  · by_cases hm : q.1 ∈ W.map (·.1)
    · obtain ⟨z, hz, e⟩ := List.mem_map.mp hm
      have h1 := (N z (hW z hz)).1
      have h2 := (N q (List.mem_append_right _ hq)).1
      rw [e, h2] at h1
      have : z = q := Prod.ext e (Option.some.inj h1.symm)
      subst this
      rcases keep z hz with hz | hz
      · exact hb z hz
      · exact absurd hz (off z hq)
    · exact hk q (List.mem_append_right _ hq) hm
/-- what the callee has made is not the caller's -/
theorem backFr (N : News h₀ L h (W ++ rest)) (hg : g = hideAll h (W.map (·.1))) (N' : News g L' h' W') {a : Addr} {o : Obj} (ha : (a, o) ∈ W') (hn : ∀ q ∈ W, @Ne Nat q.1 a) : ∀ q ∈ W ++ rest, @Ne Nat q.1 a := by
  intro q hq e
  have h1 := (N' _ ha).2.2
  subst hg
  rw [hideAll_get _ (by rw [show (a, o).1 = q.1 from e.symm]; exact (N q hq).1) (fun hm => by
    obtain ⟨z, hz, e'⟩ := List.mem_map.mp hm
    exact hn z hz e')] at h1
  cases h1
/-- other objects lie elsewhere -/
theorem ne_obj {a b : Addr} {o o' : Obj} (N : News h₀ L h news) (ha : (a, o) ∈ news) (hb : (b, o') ∈ news) (hne : o ≠ o') : @Ne Nat a b := by
  intro e
  have h1 := (N _ ha).1
  have h2 := (N _ hb).1
  dsimp only at h1 h2
  rw [show a = b from e, h2] at h1
  exact hne (Option.some.inj h1).symm
theorem ne_cls {a b : Addr} {o o' : Obj} (N : News h₀ L h news) (ha : (a, o) ∈ news) (hb : (b, o') ∈ news) (hne : (tagO o == tagO o') = false) : @Ne Nat a b := ne_obj N ha hb fun e => by
  rw [e, beq_self_eq_true] at hne
  cases hne
end

local macro_rules | `(tactic| k_enter) => `(tactic| k_extra "k_enter")
local macro_rules | `(tactic| k_mem) => `(tactic| k_extra "k_mem")
local macro_rules | `(tactic| k_all) => `(tactic| k_extra "k_all")
local macro_rules | `(tactic| size_fits) => `(tactic| k_extra "size_fits")
local macro_rules | `(tactic| k_sub) => `(tactic| k_extra "k_sub")
local macro_rules | `(tactic| lsm_bools) => `(tactic| k_extra "lsm_bools")
local macro_rules | `(tactic| k_ne) => `(tactic| k_extra "k_ne")
local macro_rules | `(tactic| k_updF) => `(tactic| k_extra "k_updF")
local macro_rules | `(tactic| k_upd) => `(tactic| k_extra "k_upd")
local macro_rules | `(tactic| k_sweep) => `(tactic| k_extra "k_sweep")
local macro_rules | `(tactic| k_handed) => `(tactic| k_extra "k_handed")
local macro_rules | `(tactic| k_lt $h:ident) => `(tactic| first | (k_extra "k_lt_off") | (replace $h := allLt_of $h; simp only [AllLt, and_true] at $h:ident; repeat (have hl' := And.left $h; replace $h := And.right $h)))
local macro_rules | `(tactic| walk_at $s:str) => `(tactic| k_extra $s)
local macro_rules | `(tactic| walk_at "pyIter ref") => `(tactic| k_extra "pyIter_ref")
theorem fill_all : PySem.Challenge.rw_nz0346_01.prog = PySem.Challenge.rw_nz0346_01.prog ∧ heap = heap := by k_fill; exact ⟨rfl, rfl⟩
-- needs: comp
section
variable {prog : Program} {w : World} {A : Around} {E : Value → Shared → Prop} {s : Shared} {h₀ : Heap} {L : Addr} {m mg mb : Str → Option Value}
  {p : Program} {loose : List Str} {mean : ExcName → Option Value} {Q : Value → Shared → Prop} {news : List (Addr × Obj)}
/-- the pool: an int below 2147483647, the script, a counter -/
noncomputable def PoolO (S : Addr) (o : Obj) : Prop := ∃ a ta c tc n, o = listOf #[.int a ta, .ref S, .int c tc] n ∧ 0 ≤ a ∧ a < 2147483647 ∧ 0 ≤ c
theorem words_draw_1 : True := by
  k_with_none
  k_with "k_enter" => (refine' code_defM ?k1ₓ ?k2ₓ ?k3ₓ ?k5ₓ ?k6ₓ ?k7ₓ ?k8ₓ ?k9ₓ ?kBₓ ?_ ?c2ₓ ?c3ₓ ?c4ₓ ?c5ₓ; (case k1ₓ => k_asm); (case k2ₓ => k_asm); (case k3ₓ => k_asm); (case k5ₓ => k_asm); (case k6ₓ => k_is); (case k7ₓ => k_is); (case k8ₓ => exact Nat.le_of_ble_eq_true rfl); (case k9ₓ => exact rfl); (case c5ₓ => decide); (case kBₓ => exact locs rfl); (case c2ₓ => exact rfl); (case c3ₓ => exact rfl); (case c4ₓ => exact rfl); k_whole; intro g'ₓ L'ₓ h'ₓ FG'ₓ F'ₓ N'ₓ X'ₓ T'ₓ; (try dsimp only [List.map, List.zip, List.zipWith] at F'ₓ); (try dsimp only); (try k_fold))
  k_with "k_mem" => first | with_reducible assumption | with_reducible exact List.mem_cons_self | (with_reducible apply List.mem_cons_of_mem; k_mem)
  k_with "k_all" => first | assumption | exact allLt_off (by assumption)
  k_with "size_fits" => first | assumption | (simp only [Array.size_push, List.size_toArray, List.length_append, List.length_cons, List.length_nil, vz_length, PySem.sizeLine_eq]; omega)
  k_with "binaryOp Add ref ref" => (k_here; (with_reducible show wpAny _ _ (binaryOp _ (Value.ref _) (Value.ref _)) _ _ _); k_dflt (refine' addL ?Fₓ ?Nₓ ?aₓ ?bₓ ?zₓ ?_; (case Fₓ => k_asm); (case Nₓ => k_asm); (case aₓ => k_mem); (case bₓ => k_mem); (case zₓ => (simp only [List.length_cons, List.length_nil, vz_length, sizeLine_eq]; omega))); intro D'ₓ h'ₓ F'ₓ N'ₓ l1ₓ; (try k_lt l1ₓ); (try k_sweep))
  k_with "k_sub" => ((try simp only [List.cons_append, List.nil_append]); (repeat ((with_reducible refine List.forall_mem_cons.mpr ⟨?_, ?_⟩); (next => (first | ((repeat (first | with_reducible exact List.mem_cons_self | with_reducible apply List.mem_cons_of_mem)); done) | (repeat (first | exact List.mem_cons_self | apply List.mem_cons_of_mem)))))); intro qₓ hqₓ; first | with_reducible exact absurd hqₓ List.not_mem_nil | (repeat (first | with_reducible exact hqₓ | with_reducible exact List.mem_append_left _ hqₓ | with_reducible exact List.mem_append_right _ hqₓ | with_reducible apply List.mem_cons_of_mem)))
  k_with "SrcLP" => (k_here; k_dflt (refine LCp.SrcLP.ledger (by rfl) (by k_asm) (by k_asm) (by k_mem) (by size_fits) ?_); intro g'ₓ; refine Halt.out ?_)
  k_with "CompSrc" => (k_here; k_dflt (refine LCg.CompSrc.ledger (by rfl) (by k_asm) (by k_asm) (by k_mem) (by size_fits) ?_); intro g'ₓ; refine Halt.out ?_)
  k_with "CompSrcT" => (k_here; k_dflt (refine LCt.CompSrcT.ledger (by rfl) (by k_asm) (by k_asm) (by k_mem) (by size_fits) ?_); intro g'ₓ; refine Halt.out ?_)
  k_with "CompEnd" => (refine Halt.out ?_)
  k_with "lsm_bools" => assumption
  k_with "eval Name" => (k_here; k_dflt (refine' nameX_L ?Fₓ ?vₓ ?_ ?aₓ ?bₓ; (case Fₓ => k_asm); (case aₓ => rfl); (case bₓ => rfl); (case vₓ => first | exact rfl | assumption); k_whole))
  k_with "eval Name" => (k_here; (with_reducible show wpAny _ _ (eval (Expr.Name _ _) (envOf _ _ _ _ _)) _ _ _); k_dflt (refine' ld ?k1ₓ ?k2ₓ ?_; (case k1ₓ => k_asm); (case k2ₓ => first | exact rfl | assumption); k_whole))
  k_with "k_ne" => (first | assumption | (apply Ne.symm; assumption) | exact Nat.ne_of_lt (by assumption) | exact Nat.ne_of_gt (by assumption))
  k_with "call builtin:len" => (k_here; (with_reducible show wpAny _ _ (call (Value.builtin "len") [Value.ref _]) _ _ _); k_dflt (refine' lenL ?Nₓ ?aₓ ?zₓ ?_; (case Nₓ => k_asm); (case aₓ => k_mem); (case zₓ => (simp only [vz_length]; omega))); (try simp only [vz_length]))
  k_with "setItem ref int" => (k_here; k_dflt (refine' kda_set (knd := PySem.intKind _ _) ?Fₓ ?Nₓ ?Uₓ ?dₓ (intKind_is _ _ _ _) ?zₓ ?_; (case Fₓ => k_asm); (case Nₓ => k_asm); (case Uₓ => k_updF); (case dₓ => assumption); (case zₓ => assumption)); intro h'ₓ o'ₓ F'ₓ N'ₓ hd'ₓ; (try k_sweep))
  trivial
theorem draw_at {P S : Addr} {many : Int} {tm : Tok} {oP : Obj} {nS : Nat} {vs : List Value} {ns : List Int} {gg : Obj → List (Addr × Obj)}
    (F : Fr h₀ L s.heap m) (N : News h₀ L s.heap news) (X₀ : (heap w.params).In h₀) (T : Top p loose mean mg mb h₀)
    (U : UpdF P oP news gg) (oP' : PoolO S oP)
    (hP : (P, oP) ∈ news) (hS : (S, listOf vs.toArray nS) ∈ news) (hi : IntsAre vs ns) (hl : ns.length ≤ 63) (hPS : S ≠ P)
    (hm : 1 ≤ many)
    (h : ∀ v t o' h' tk', 0 ≤ v → v < many → PoolO S o' → Fr h₀ L h' m → News h₀ L h' (gg o') → Q (.int v t) { s with heap := h', toks := tk' }) :
    wpAny (model prog w) (AL 350) (call (.ref 238) [.ref P, .int many tm]) Q (fun _ _ => False) s := by
  obtain ⟨a, ta, c, tc, n, rfl, ha, ha', hc⟩ := oP'
  have hW : ∀ q ∈ [(P, listOf #[.int a ta, .ref S, .int c tc] n), (S, listOf vs.toArray nS)], q ∈ news := by simp [hP, hS]
  refine enter (binds := [(Str.ofString "pool", .ref P), (Str.ofString "many", .int many tm)]) (W := [(P, listOf #[.int a ta, .ref S, .int c tc] n), (S, listOf vs.toArray nS)]) F N X₀ T hW (by k_dflt k_is) (by k_dflt k_is) (by decide) (BindsTo.of_eq rfl) (locs rfl) ?_ rfl rfl rfl (by decide)
  intro g L' h₁ tk hg F' N' X T'
  have fin : ∀ v t a' ta' c' tc' h' tk' m', 0 ≤ v → v < many → 0 ≤ a' → a' < 2147483647 → 0 ≤ c' → Fr g L' h' m' → News g L' h' [(P, (listOf #[.int a' ta', .ref S, .int c' tc'] n)), (S, listOf vs.toArray nS)] → Q (.int v t) { s with heap := h', toks := tk' } :=
    fun v t a' ta' c' tc' h' tk' m' x1 x2 x3 x4 x5 F' N' => h v t _ h' tk' x1 x2 ⟨a', ta', c', tc', n, rfl, x3, x4, x5⟩ (backF F N hW hg F') (back1 F N U hW hg F' N')
  clear h hW hP hS U N X₀ T F hg
  have hne : ns = [] ∨ (ns.length : Int) ≠ 0 := by
    cases ns with
    | nil => exact .inl rfl
    | cons _ _ => right; simp only [List.length_cons]; omega
  (try dsimp only)
  k_unmd
  k_fold
  k_steps
  all_goals first
    | ((try dsimp only); refine fin _ _ _ _ _ _ _ _ _ ?_ ?_ ?_ ?_ ?_ (by assumption) (newsSub (by assumption) (by k_sub)))
    | (exfalso; have hz : ns = [] := List.length_eq_zero_iff.mp (by omega); simp_all; done)
  all_goals first | exact Int.fmod_nonneg_of_pos _ (by omega) | exact Int.fmod_lt_of_pos _ (by omega) | omega
end

-- needs: comp
section
variable {prog : Program} {w : World} {A : Around} {E : Value → Shared → Prop} {s : Shared} {h₀ : Heap} {L : Addr} {m mg mb : Str → Option Value}
  {p : Program} {loose : List Str} {mean : ExcName → Option Value} {Q : Value → Shared → Prop} {news : List (Addr × Obj)}
theorem words_add_1 : True := by
  k_with_none
  k_with "k_enter" => (refine' code_defM ?k1ₓ ?k2ₓ ?k3ₓ ?k5ₓ ?k6ₓ ?k7ₓ ?k8ₓ ?k9ₓ ?kBₓ ?_ ?c2ₓ ?c3ₓ ?c4ₓ ?c5ₓ; (case k1ₓ => k_asm); (case k2ₓ => k_asm); (case k3ₓ => k_asm); (case k5ₓ => k_asm); (case k6ₓ => k_is); (case k7ₓ => k_is); (case k8ₓ => exact Nat.le_of_ble_eq_true rfl); (case k9ₓ => exact rfl); (case c5ₓ => decide); (case kBₓ => exact locs rfl); (case c2ₓ => exact rfl); (case c3ₓ => exact rfl); (case c4ₓ => exact rfl); k_whole; intro g'ₓ L'ₓ h'ₓ FG'ₓ F'ₓ N'ₓ X'ₓ T'ₓ; (try dsimp only [List.map, List.zip, List.zipWith] at F'ₓ); (try dsimp only); (try k_fold))
  k_with "k_mem" => first | with_reducible assumption | with_reducible exact List.mem_cons_self | (with_reducible apply List.mem_cons_of_mem; k_mem)
  k_with "k_all" => first | assumption | exact allLt_off (by assumption)
  k_with "size_fits" => first | assumption | (simp only [Array.size_push, List.size_toArray, List.length_append, List.length_cons, List.length_nil, vz_length, PySem.sizeLine_eq]; omega)
  k_with "binaryOp Add ref ref" => (k_here; (with_reducible show wpAny _ _ (binaryOp _ (Value.ref _) (Value.ref _)) _ _ _); k_dflt (refine' addL ?Fₓ ?Nₓ ?aₓ ?bₓ ?zₓ ?_; (case Fₓ => k_asm); (case Nₓ => k_asm); (case aₓ => k_mem); (case bₓ => k_mem); (case zₓ => (simp only [List.length_cons, List.length_nil, vz_length, sizeLine_eq]; omega))); intro D'ₓ h'ₓ F'ₓ N'ₓ l1ₓ; (try k_lt l1ₓ); (try k_sweep))
  k_with "k_sub" => ((try simp only [List.cons_append, List.nil_append]); (repeat ((with_reducible refine List.forall_mem_cons.mpr ⟨?_, ?_⟩); (next => (first | ((repeat (first | with_reducible exact List.mem_cons_self | with_reducible apply List.mem_cons_of_mem)); done) | (repeat (first | exact List.mem_cons_self | apply List.mem_cons_of_mem)))))); intro qₓ hqₓ; first | with_reducible exact absurd hqₓ List.not_mem_nil | (repeat (first | with_reducible exact hqₓ | with_reducible exact List.mem_append_left _ hqₓ | with_reducible exact List.mem_append_right _ hqₓ | with_reducible apply List.mem_cons_of_mem)))
  k_with "SrcLP" => (k_here; k_dflt (refine LCp.SrcLP.ledger (by rfl) (by k_asm) (by k_asm) (by k_mem) (by size_fits) ?_); intro g'ₓ; refine Halt.out ?_)
  k_with "CompSrc" => (k_here; k_dflt (refine LCg.CompSrc.ledger (by rfl) (by k_asm) (by k_asm) (by k_mem) (by size_fits) ?_); intro g'ₓ; refine Halt.out ?_)
  k_with "CompSrcT" => (k_here; k_dflt (refine LCt.CompSrcT.ledger (by rfl) (by k_asm) (by k_asm) (by k_mem) (by size_fits) ?_); intro g'ₓ; refine Halt.out ?_)
  k_with "CompEnd" => (refine Halt.out ?_)
  k_with "lsm_bools" => assumption
  k_with "eval Name" => (k_here; k_dflt (refine' nameX_L ?Fₓ ?vₓ ?_ ?aₓ ?bₓ; (case Fₓ => k_asm); (case aₓ => rfl); (case bₓ => rfl); (case vₓ => first | exact rfl | assumption); k_whole))
  k_with "eval Name" => (k_here; (with_reducible show wpAny _ _ (eval (Expr.Name _ _) (envOf _ _ _ _ _)) _ _ _); k_dflt (refine' ld ?k1ₓ ?k2ₓ ?_; (case k1ₓ => k_asm); (case k2ₓ => first | exact rfl | assumption); k_whole))
  k_with "k_ne" => (first | assumption | (apply Ne.symm; assumption) | exact Nat.ne_of_lt (by assumption) | exact Nat.ne_of_gt (by assumption))
  k_with "call builtin:len" => (k_here; (with_reducible show wpAny _ _ (call (Value.builtin "len") [Value.ref _]) _ _ _); k_dflt (refine' lenL ?Nₓ ?aₓ ?zₓ ?_; (case Nₓ => k_asm); (case aₓ => k_mem); (case zₓ => (simp only [vz_length]; omega))); (try simp only [vz_length]))
  k_with "setItem ref int" => (k_here; k_dflt (refine' kda_set (knd := PySem.intKind _ _) ?Fₓ ?Nₓ ?Uₓ ?dₓ (intKind_is _ _ _ _) ?zₓ ?_; (case Fₓ => k_asm); (case Nₓ => k_asm); (case Uₓ => k_updF); (case dₓ => assumption); (case zₓ => assumption)); intro h'ₓ o'ₓ F'ₓ N'ₓ hd'ₓ; (try k_sweep))
  k_with "call ref" => (k_here; (with_reducible show wpAny _ _ (call (Value.ref 238) _) _ _ _); k_dflt (refine' to_AL rfl ?dₓ ?uₓ (draw_at ?Fₓ ?Nₓ ?Xₓ ?Tₓ ?Uₓ ?oₓ ?hPₓ ?hSₓ ?hiₓ ?hlₓ ?psₓ ?hmₓ ?_); (case dₓ => exact Nat.le_of_ble_eq_true rfl); (case uₓ => exact Nat.le_of_ble_eq_true rfl); (case Fₓ => k_asm); (case Nₓ => k_asm); (case Xₓ => k_asm); (case Tₓ => k_asm); (case Uₓ => k_updF); (case oₓ => assumption); (case hPₓ => k_mem); (case hSₓ => k_mem); (case hiₓ => assumption); (case hlₓ => assumption); (case psₓ => k_ne); (case hmₓ => first | decide | assumption)); intro v'ₓ t'ₓ o'ₓ h'ₓ tk'ₓ hv0'ₓ hv1'ₓ oP'ₓ F'ₓ N'ₓ; (try dsimp only at N'ₓ); (try k_sweep))
  trivial
theorem take_fold {α β : Type} {f : β → α → β} {a : β} {xs : List α} {i : Nat} {x : α} (h : xs[i]? = some x) : (xs.take (i + 1)).foldl f a = f ((xs.take i).foldl f a) x := by
  rw [List.take_add_one, h]; simp
theorem rz_get {zs : List RZ} {i : Nat} {z : RZ} (h : zs[i]? = some z) : (rz zs)[i]? = some z.rng := by
  unfold rz; rw [List.getElem?_map, h]; rfl
inductive AddJ (zs : List RZ) (n : Int) (FL : Addr) (TN : List (Addr × Obj)) (i : Nat) (m : Str → Option Value) : List (Addr × Obj) → Prop
  | a {lo hi : Int} {tl th : Tok} {k : Nat} (fz : List RZ) (h1 : m (Str.ofString "low") = some (.int lo tl)) (h2 : m (Str.ofString "high") = some (.int hi th)) (h3 : m (Str.ofString "found") = some (.ref FL)) (h4 : m (Str.ofString "is_in") = some (.bool false))
      (h5 : ((rz zs).take i).foldl stepR ⟨[], n, n, false⟩ = ⟨rz fz, lo, hi, false⟩) (h6 : fz.length ≤ i + false.toNat) (h7 : ∀ y ∈ fz, y ∈ zs) : AddJ zs n FL TN i m ((FL, listOf (vz fz).toArray k) :: TN)
  | b {lo hi : Int} {tl th : Tok} {k : Nat} (fz : List RZ) (z : RZ) (h1 : m (Str.ofString "low") = some (.int lo tl)) (h2 : m (Str.ofString "high") = some (.int hi th)) (h3 : m (Str.ofString "found") = some (.ref FL)) (h4 : m (Str.ofString "is_in") = some (.bool true))
      (h5 : ((rz zs).take i).foldl stepR ⟨[], n, n, false⟩ = ⟨rz fz, lo, hi, true⟩) (h6 : fz.length ≤ i + true.toNat) (h7 : ∀ y ∈ fz, y ∈ zs ∨ y = z) (h8 : @LT.lt Nat _ FL z.a) (h9 : ∀ q ∈ TN, @LT.lt Nat _ q.1 z.a) : AddJ zs n FL TN i m ((FL, listOf (vz fz).toArray k) :: (z.a, z.obj) :: TN)
theorem add_at {RL : Addr} {zs : List RZ} {k : Nat} {n : Int} {tn : Tok}
    (F : Fr h₀ L s.heap m) (N : News h₀ L s.heap news) (X₀ : (heap w.params).In h₀) (T : Top p loose mean mg mb h₀)
    (hL : (RL, listOf (vz zs).toArray k) ∈ news) (hz : ∀ q ∈ tz zs, q ∈ news) (hlen : zs.length ≤ 1000)
    (h : ∀ (RL' : Addr) (z : RZ) rs k' h' tk', Fr h₀ L h' m → News h₀ L h' ((RL', listOf (vz rs).toArray k') :: (z.a, z.obj) :: news) → (∀ q ∈ news, @Ne Nat q.1 RL') → (∀ q ∈ news, @Ne Nat q.1 z.a) → @Ne Nat RL' z.a →
      rz rs = addR (rz zs) n → (∀ y ∈ rs, y ∈ zs ∨ y = z) → rs.length ≤ zs.length + 1 → Q (.ref RL') { s with heap := h', toks := tk' }) :
    wpAny (model prog w) (AL 360) (call (.ref 53) [.ref RL, .int n tn]) Q (fun _ _ => False) s := by
  have hW : ∀ q ∈ (RL, listOf (vz zs).toArray k) :: tz zs, q ∈ news := by
    intro q hq
    rcases List.mem_cons.mp hq with rfl | hq
    · exact hL
    · exact hz q hq
  refine enter (binds := [(Str.ofString "ranges", .ref RL), (Str.ofString "n", .int n tn)]) (W := (RL, listOf (vz zs).toArray k) :: tz zs) F N X₀ T hW (by k_dflt k_is) (by k_dflt k_is) (by decide) (BindsTo.of_eq rfl) (locs rfl) ?_ rfl rfl rfl (by decide)
  intro g L' h₁ tk hg F' N' X T'
  have fin : ∀ (RL' : Addr) (z : RZ) rs k' h' tk' m', Fr g L' h' m' → News g L' h' ((RL', listOf (vz rs).toArray k') :: (z.a, z.obj) :: (RL, listOf (vz zs).toArray k) :: tz zs) → @Ne Nat RL' z.a →
      (∀ q ∈ (RL, listOf (vz zs).toArray k) :: tz zs, @Ne Nat q.1 RL') → (∀ q ∈ (RL, listOf (vz zs).toArray k) :: tz zs, @Ne Nat q.1 z.a) →
      rz rs = addR (rz zs) n → (∀ y ∈ rs, y ∈ zs ∨ y = z) → rs.length ≤ zs.length + 1 → Q (.ref RL') { s with heap := h', toks := tk' } := fun RL' z rs k' h' tk' m' F' N' a b b' c d e =>
    h RL' z rs k' h' tk' (backF F N hW hg F') (backAll F N hW hg F' (pre := [(RL', _), (z.a, z.obj)]) N') (backNe N hg N' (.head _) b) (backNe N hg N' (.tail _ (.head _)) b') a c d e
  clear h hW hL hz N X₀ T F hg
  try dsimp only
  k_unmd
  k_fold
  k_steps
  have D'ₓ := True.intro; have F'ₓ := True.intro; have FG'ₓ := True.intro; have L'ₓ := True.intro; have N'ₓ := True.intro; have T'ₓ := True.intro; have X'ₓ := True.intro; have g'ₓ := True.intro; have h'ₓ := True.intro; have hd'ₓ := True.intro; have hqₓ := True.intro; have hv0'ₓ := True.intro; have hv1'ₓ := True.intro; have l1ₓ := True.intro; have o'ₓ := True.intro; have oP'ₓ := True.intro; have qₓ := True.intro; have t'ₓ := True.intro; have tk'ₓ := True.intro; have v'ₓ := True.intro
  rename_i FL _ _ _ _ _ _ _ _ _ _ _ _ _ F' N'
  clear D'ₓ F'ₓ FG'ₓ L'ₓ N'ₓ T'ₓ X'ₓ g'ₓ h'ₓ hd'ₓ hqₓ hv0'ₓ hv1'ₓ l1ₓ o'ₓ oP'ₓ qₓ t'ₓ tk'ₓ v'ₓ
  refine For_at g ?_
  k_steps
  have hT : AllLt FL (tz zs) := by assumption
  have hR : @LT.lt Nat _ RL FL := by assumption
  have N₁ := newsSub (news' := (FL, listOf #[] 0) :: (RL, listOf (vz zs).toArray k) :: tz zs) N' (by k_sub)
  clear N'
  k_dflt refine iter_list (its := (vz zs).toArray) rfl rfl rfl F' N₁ (.inr ⟨_, by k_mem, rfl, _, rfl⟩) (AddJ zs n FL ((RL, listOf (vz zs).toArray k) :: tz zs)) ?h0 ?turn ?done
  case h0 => exact .a [] rfl rfl rfl rfl rfl (Nat.zero_le _) (fun _ h => nomatch h)
  case turn =>
    clear N₁ F'
    intro i v m₁ nw I oI h₁ tk₁ s' hi hv hJ _ off F₁ N₁ hs'
    obtain ⟨g', rfl⟩ := hs'
    obtain ⟨z, hz, rfl⟩ := vz_get (i := i) (v := v) (by simpa using hv)
    have hzm := tz_mem (List.mem_of_getElem? hz)
    have hzz := List.mem_of_getElem? hz
    have hi' : i < zs.length := by simpa [vz_length] using hi
    have hnext := take_fold (f := stepR) (a := ⟨[], n, n, false⟩) (rz_get hz)
    replace F₁ : Fr g L' h₁ (fun y => if y = Str.ofString "one" then some (.ref z.a) else m₁ y) := F₁
    rcases hJ with @⟨lo, hi, tl, th, k', fz, hlo, hhi, hfd, hin, hfold, hfl, hfz⟩ | @⟨lo, hi, tl, th, k', fz, y, hlo, hhi, hfd, hin, hfold, hfl, hfz, hFy, hTy⟩
    · rw [hfold] at hnext
      have hbn : Bool.toNat false ≤ 1 := by decide
      have hsz : (vz fz).toArray.size ≤ sizeLine := by rw [List.size_toArray, vz_length, sizeLine_eq]; simp only [Bool.toNat_false] at hfl; omega
      have o1 : @Ne Nat FL I := off _ (.head _)
      have o2 : @Ne Nat RL I := off _ (.tail _ (.head _))
      have o3 : ∀ q ∈ tz zs, q.1 ≠ I := fun q hq => off q (.tail _ (.tail _ hq))
      have o4 := allLt_off hT
      replace N₁ : News g L' h₁ ((I, oI) :: (FL, listOf (vz fz).toArray k') :: (RL, listOf (vz zs).toArray k) :: tz zs) := N₁
      k_unmd
      k_fold
      k_steps
      all_goals (try k_unfold)
      · rename News _ _ _ _ => N9
        rename Fr _ _ _ _ => F9
        rw [vz_push] at N9
        refine ForEnd.intro ((FL, listOf (vz (fz ++ [z])).toArray (k' + 1)) :: (RL, listOf (vz zs).toArray k) :: tz zs) F9 N9 (fun _ h => h) (List.forall_mem_cons.mpr ⟨o1, List.forall_mem_cons.mpr ⟨o2, o3⟩⟩) (.inr ⟨_, by k_mem, rfl, _, rfl⟩)
          (AddJ.a (i := i + 1) (fz ++ [z]) (by exact hlo) (by exact hhi) (by exact hfd) (by exact hin) ?_ (by (simp at hfl ⊢; omega)) ?_)
        · rw [hnext]; unfold stepR; rw [if_pos (by dsimp only; omega)]; simp [rz]
        · intro y hy
          rcases List.mem_append.mp hy with hy | hy
          · exact hfz y hy
          · rw [List.mem_singleton.mp hy]; exact hzz
      · rename News _ _ _ _ => N9
        rename Fr _ _ _ _ => F9
        rename AllLt _ _ => lt9
        have D'ₓ := True.intro; have F'ₓ := True.intro; have FG'ₓ := True.intro; have L'ₓ := True.intro; have N'ₓ := True.intro; have T'ₓ := True.intro; have X'ₓ := True.intro; have g'ₓ := True.intro; have h'ₓ := True.intro; have hd'ₓ := True.intro; have hqₓ := True.intro; have hv0'ₓ := True.intro; have hv1'ₓ := True.intro; have l1ₓ := True.intro; have o'ₓ := True.intro; have oP'ₓ := True.intro; have qₓ := True.intro; have t'ₓ := True.intro; have tk'ₓ := True.intro; have v'ₓ := True.intro
        rename_i _ _ D9 _ ltI ltF ltR _ _ _ _
        clear D'ₓ F'ₓ FG'ₓ L'ₓ N'ₓ T'ₓ X'ₓ g'ₓ h'ₓ hd'ₓ hqₓ hv0'ₓ hv1'ₓ l1ₓ o'ₓ oP'ₓ qₓ t'ₓ tk'ₓ v'ₓ
        rw [vz_push' fz D9 lo hi tl th, vz_push] at N9
        refine ForEnd.intro ((FL, listOf (vz ((fz ++ [⟨D9, lo, hi, tl, th⟩]) ++ [z])).toArray (k' + 1 + 1)) :: (D9, { cls := .type "tuple", data := .seq #[.int lo tl, .int hi th] }) :: (RL, listOf (vz zs).toArray k) :: tz zs) F9 N9 (by k_sub)
          (List.forall_mem_cons.mpr ⟨o1, List.forall_mem_cons.mpr ⟨Ne.symm (Nat.ne_of_lt ltI), List.forall_mem_cons.mpr ⟨o2, o3⟩⟩⟩) (.inr ⟨_, by k_mem, rfl, _, rfl⟩)
          (AddJ.b (i := i + 1) (fz ++ [⟨D9, lo, hi, tl, th⟩] ++ [z]) ⟨D9, lo, hi, tl, th⟩ (by exact hlo) (by exact hhi) (by exact hfd) (by rfl) ?_ (by (simp at hfl ⊢; omega)) ?_ ltF (List.forall_mem_cons.mpr ⟨ltR, allLt_lt lt9⟩))
        · rw [hnext]; unfold stepR; rw [if_neg (by dsimp only; omega), if_pos (by dsimp only; omega)]; simp [rz]
        · intro y hy
          rcases List.mem_append.mp hy with hy | hy
          · rcases List.mem_append.mp hy with hy | hy
            · exact .inl (hfz y hy)
            · exact .inr (List.mem_singleton.mp hy)
          · rw [List.mem_singleton.mp hy]; exact .inl hzz
      · rename News _ _ _ _ => N9
        rename Fr _ _ _ _ => F9
        refine ForEnd.intro ((FL, listOf (vz fz).toArray k') :: (RL, listOf (vz zs).toArray k) :: tz zs) F9 N9 (by k_sub) (List.forall_mem_cons.mpr ⟨o1, List.forall_mem_cons.mpr ⟨o2, o3⟩⟩) (.inr ⟨_, by k_mem, rfl, _, rfl⟩)
          (AddJ.a (i := i + 1) fz (by rfl) (by rfl) (by exact hfd) (by exact hin) ?_ (Nat.le_trans hfl (by simp only [Bool.toNat]; omega)) hfz)
        rw [hnext]; unfold stepR; rw [if_neg (by dsimp only; omega), if_neg (by dsimp only; omega)]
        dsimp only
        congr 1 <;> (split <;> omega)
    · rw [hfold] at hnext
      have hbn : Bool.toNat true ≤ 1 := by decide
      have hsz : (vz fz).toArray.size ≤ sizeLine := by rw [List.size_toArray, vz_length, sizeLine_eq]; simp only [Bool.toNat_true] at hfl; omega
      have o1 : @Ne Nat FL I := off _ (.head _)
      have o5 : @Ne Nat y.a I := off _ (.tail _ (.head _))
      have o2 : @Ne Nat RL I := off _ (.tail _ (.tail _ (.head _)))
      have o3 : ∀ q ∈ tz zs, q.1 ≠ I := fun q hq => off q (.tail _ (.tail _ (.tail _ hq)))
      have o4 := allLt_off hT
      replace N₁ : News g L' h₁ ((I, oI) :: (FL, listOf (vz fz).toArray k') :: (y.a, y.obj) :: (RL, listOf (vz zs).toArray k) :: tz zs) := N₁
      have o6 : ∀ q ∈ (FL, listOf (vz fz).toArray k') :: (y.a, y.obj) :: (RL, listOf (vz zs).toArray k) :: tz zs, q.1 ≠ I := off
      k_unmd
      k_fold
      k_steps
      all_goals (try k_unfold)
      · rename News _ _ _ _ => N9
        rename Fr _ _ _ _ => F9
        rw [vz_push] at N9
        refine ForEnd.intro ((FL, listOf (vz (fz ++ [z])).toArray (k' + 1)) :: (y.a, y.obj) :: (RL, listOf (vz zs).toArray k) :: tz zs) F9 N9 (fun _ h => h) (List.forall_mem_cons.mpr ⟨o1, List.forall_mem_cons.mpr ⟨o5, List.forall_mem_cons.mpr ⟨o2, o3⟩⟩⟩) (.inr ⟨_, by k_mem, rfl, _, rfl⟩)
          (AddJ.b (i := i + 1) (fz ++ [z]) y (by exact hlo) (by exact hhi) (by exact hfd) (by exact hin) ?_ (by (simp at hfl ⊢; omega)) ?_ (by exact hFy) (by exact hTy))
        · rw [hnext]; unfold stepR; rw [if_pos (by dsimp only; omega)]; simp [rz]
        · intro x hx
          rcases List.mem_append.mp hx with hx | hx
          · exact hfz x hx
          · rw [List.mem_singleton.mp hx]; exact .inl hzz
      · rename News _ _ _ _ => N9
        rename Fr _ _ _ _ => F9
        rw [vz_push] at N9
        refine ForEnd.intro ((FL, listOf (vz (fz ++ [z])).toArray (k' + 1)) :: (y.a, y.obj) :: (RL, listOf (vz zs).toArray k) :: tz zs) F9 N9 (fun _ h => h) (List.forall_mem_cons.mpr ⟨o1, List.forall_mem_cons.mpr ⟨o5, List.forall_mem_cons.mpr ⟨o2, o3⟩⟩⟩) (.inr ⟨_, by k_mem, rfl, _, rfl⟩)
          (AddJ.b (i := i + 1) (fz ++ [z]) y (by exact hlo) (by exact hhi) (by exact hfd) (by exact hin) ?_ (by (simp at hfl ⊢; omega)) ?_ (by exact hFy) (by exact hTy))
        · rw [hnext]; unfold stepR; rw [if_neg (by dsimp only; omega), if_pos (by dsimp only; omega)]; simp [rz]
        · intro x hx
          rcases List.mem_append.mp hx with hx | hx
          · exact hfz x hx
          · rw [List.mem_singleton.mp hx]; exact .inl hzz
      · rename News _ _ _ _ => N9
        rename Fr _ _ _ _ => F9
        refine ForEnd.intro ((FL, listOf (vz fz).toArray k') :: (y.a, y.obj) :: (RL, listOf (vz zs).toArray k) :: tz zs) F9 N9 (by k_sub) (List.forall_mem_cons.mpr ⟨o1, List.forall_mem_cons.mpr ⟨o5, List.forall_mem_cons.mpr ⟨o2, o3⟩⟩⟩) (.inr ⟨_, by k_mem, rfl, _, rfl⟩)
          (AddJ.b (i := i + 1) fz y (by rfl) (by rfl) (by exact hfd) (by exact hin) ?_ (Nat.le_trans hfl (by simp only [Bool.toNat]; omega)) hfz (by exact hFy) (by exact hTy))
        rw [hnext]; unfold stepR; rw [if_neg (by dsimp only; omega), if_neg (by dsimp only; omega)]
        dsimp only
        congr 1 <;> (split <;> omega)
  case done =>
    clear N₁ F'
    intro m₁ nw h₁ tk₁ hJ _ F₁ N₁
    rcases hJ with @⟨lo, hi, tl, th, k', fz, hlo, hhi, hfd, hin, hfold, hfl, hfz⟩ | @⟨lo, hi, tl, th, k', fz, y, hlo, hhi, hfd, hin, hfold, hfl, hfz, hFy, hTy⟩ <;>
      rw [show (vz zs).toArray.size = (rz zs).length by simp [vz, rz], List.take_length] at hfold <;>
      have hfl2 : fz.length ≤ 1001 := by
        simp only [List.size_toArray, vz_length, Bool.toNat_false, Bool.toNat_true] at hfl
        omega
    · dsimp only
      k_unmd
      try k_fold
      k_steps
      have D'ₓ := True.intro; have F'ₓ := True.intro; have FG'ₓ := True.intro; have L'ₓ := True.intro; have N'ₓ := True.intro; have T'ₓ := True.intro; have X'ₓ := True.intro; have g'ₓ := True.intro; have h'ₓ := True.intro; have hd'ₓ := True.intro; have hqₓ := True.intro; have hv0'ₓ := True.intro; have hv1'ₓ := True.intro; have l1ₓ := True.intro; have o'ₓ := True.intro; have oP'ₓ := True.intro; have qₓ := True.intro; have t'ₓ := True.intro; have tk'ₓ := True.intro; have v'ₓ := True.intro
      rename_i D8 _ _ _ _ _ _ _ _ _ _ D9 _ F9 N9 _ c4 _ _ _
      clear D'ₓ F'ₓ FG'ₓ L'ₓ N'ₓ T'ₓ X'ₓ g'ₓ h'ₓ hd'ₓ hqₓ hv0'ₓ hv1'ₓ l1ₓ o'ₓ oP'ₓ qₓ t'ₓ tk'ₓ v'ₓ
      rw [show vz fz ++ [Value.ref D8] = vz (fz ++ [⟨D8, lo, hi, tl, th⟩]) by simp [vz]] at N9
      refine fin D9 ⟨D8, lo, hi, tl, th⟩ (fz ++ [⟨D8, lo, hi, tl, th⟩]) 0 _ _ _ F9 (newsSub N9 (by k_sub)) (Nat.ne_of_gt c4) ?_ ?_ ?_ ?_ (by simp [vz_length] at hfl ⊢; omega)
      · exact List.forall_mem_cons.mpr ⟨Nat.ne_of_lt ‹@LT.lt Nat _ RL D9›, allLt_off (by assumption)⟩
      · exact List.forall_mem_cons.mpr ⟨Nat.ne_of_lt ‹@LT.lt Nat _ RL D8›, allLt_off (by assumption)⟩
      · unfold addR; rw [hfold]; simp [endR, rz]
      · intro y hy
        rcases List.mem_append.mp hy with hy | hy
        · exact .inl (hfz y hy)
        · exact .inr (List.mem_singleton.mp hy)
    · dsimp only
      k_unmd
      try k_fold
      k_steps
      refine fin FL y fz k' _ _ _ F₁ N₁ (Nat.ne_of_lt hFy) ?_ ?_ ?_ hfz (by simp [vz_length] at hfl ⊢; omega)
      · exact List.forall_mem_cons.mpr ⟨Nat.ne_of_lt hR, allLt_off hT⟩
      · exact fun q hq => Nat.ne_of_lt (hTy q hq)
      · unfold addR; rw [hfold]; rfl
end
-- needs: comp
section
variable {prog : Program} {w : World} {A : Around} {E : Value → Shared → Prop} {s : Shared} {h₀ : Heap} {L : Addr} {m mg mb : Str → Option Value}
  {p : Program} {loose : List Str} {mean : ExcName → Option Value} {Q : Value → Shared → Prop} {news : List (Addr × Obj)}
theorem words_has_1 : True := by
  k_with_none
  k_with "k_enter" => (refine' code_defM ?k1ₓ ?k2ₓ ?k3ₓ ?k5ₓ ?k6ₓ ?k7ₓ ?k8ₓ ?k9ₓ ?kBₓ ?_ ?c2ₓ ?c3ₓ ?c4ₓ ?c5ₓ; (case k1ₓ => k_asm); (case k2ₓ => k_asm); (case k3ₓ => k_asm); (case k5ₓ => k_asm); (case k6ₓ => k_is); (case k7ₓ => k_is); (case k8ₓ => exact Nat.le_of_ble_eq_true rfl); (case k9ₓ => exact rfl); (case c5ₓ => decide); (case kBₓ => exact locs rfl); (case c2ₓ => exact rfl); (case c3ₓ => exact rfl); (case c4ₓ => exact rfl); k_whole; intro g'ₓ L'ₓ h'ₓ FG'ₓ F'ₓ N'ₓ X'ₓ T'ₓ; (try dsimp only [List.map, List.zip, List.zipWith] at F'ₓ); (try dsimp only); (try k_fold))
  k_with "k_mem" => first | with_reducible assumption | with_reducible exact List.mem_cons_self | (with_reducible apply List.mem_cons_of_mem; k_mem)
  k_with "k_all" => first | assumption | exact allLt_off (by assumption)
  k_with "size_fits" => first | assumption | (simp only [Array.size_push, List.size_toArray, List.length_append, List.length_cons, List.length_nil, vz_length, PySem.sizeLine_eq]; omega)
  k_with "binaryOp Add ref ref" => (k_here; (with_reducible show wpAny _ _ (binaryOp _ (Value.ref _) (Value.ref _)) _ _ _); k_dflt (refine' addL ?Fₓ ?Nₓ ?aₓ ?bₓ ?zₓ ?_; (case Fₓ => k_asm); (case Nₓ => k_asm); (case aₓ => k_mem); (case bₓ => k_mem); (case zₓ => (simp only [List.length_cons, List.length_nil, vz_length, sizeLine_eq]; omega))); intro D'ₓ h'ₓ F'ₓ N'ₓ l1ₓ; (try k_lt l1ₓ); (try k_sweep))
  k_with "k_sub" => ((try simp only [List.cons_append, List.nil_append]); (repeat ((with_reducible refine List.forall_mem_cons.mpr ⟨?_, ?_⟩); (next => (first | ((repeat (first | with_reducible exact List.mem_cons_self | with_reducible apply List.mem_cons_of_mem)); done) | (repeat (first | exact List.mem_cons_self | apply List.mem_cons_of_mem)))))); intro qₓ hqₓ; first | with_reducible exact absurd hqₓ List.not_mem_nil | (repeat (first | with_reducible exact hqₓ | with_reducible exact List.mem_append_left _ hqₓ | with_reducible exact List.mem_append_right _ hqₓ | with_reducible apply List.mem_cons_of_mem)))
  k_with "SrcLP" => (k_here; k_dflt (refine LCp.SrcLP.ledger (by rfl) (by k_asm) (by k_asm) (by k_mem) (by size_fits) ?_); intro g'ₓ; refine Halt.out ?_)
  k_with "CompSrc" => (k_here; k_dflt (refine LCg.CompSrc.ledger (by rfl) (by k_asm) (by k_asm) (by k_mem) (by size_fits) ?_); intro g'ₓ; refine Halt.out ?_)
  k_with "CompSrcT" => (k_here; k_dflt (refine LCt.CompSrcT.ledger (by rfl) (by k_asm) (by k_asm) (by k_mem) (by size_fits) ?_); intro g'ₓ; refine Halt.out ?_)
  k_with "CompEnd" => (refine Halt.out ?_)
  k_with "lsm_bools" => assumption
  k_with "eval Name" => (k_here; k_dflt (refine' nameX_L ?Fₓ ?vₓ ?_ ?aₓ ?bₓ; (case Fₓ => k_asm); (case aₓ => rfl); (case bₓ => rfl); (case vₓ => first | exact rfl | assumption); k_whole))
  k_with "eval Name" => (k_here; (with_reducible show wpAny _ _ (eval (Expr.Name _ _) (envOf _ _ _ _ _)) _ _ _); k_dflt (refine' ld ?k1ₓ ?k2ₓ ?_; (case k1ₓ => k_asm); (case k2ₓ => first | exact rfl | assumption); k_whole))
  k_with "k_ne" => (first | assumption | (apply Ne.symm; assumption) | exact Nat.ne_of_lt (by assumption) | exact Nat.ne_of_gt (by assumption))
  k_with "call builtin:len" => (k_here; (with_reducible show wpAny _ _ (call (Value.builtin "len") [Value.ref _]) _ _ _); k_dflt (refine' lenL ?Nₓ ?aₓ ?zₓ ?_; (case Nₓ => k_asm); (case aₓ => k_mem); (case zₓ => (simp only [vz_length]; omega))); (try simp only [vz_length]))
  k_with "setItem ref int" => (k_here; k_dflt (refine' kda_set (knd := PySem.intKind _ _) ?Fₓ ?Nₓ ?Uₓ ?dₓ (intKind_is _ _ _ _) ?zₓ ?_; (case Fₓ => k_asm); (case Nₓ => k_asm); (case Uₓ => k_updF); (case dₓ => assumption); (case zₓ => assumption)); intro h'ₓ o'ₓ F'ₓ N'ₓ hd'ₓ; (try k_sweep))
  k_with "call ref" => (k_here; (with_reducible show wpAny _ _ (call (Value.ref 238) _) _ _ _); k_dflt (refine' to_AL rfl ?dₓ ?uₓ (draw_at ?Fₓ ?Nₓ ?Xₓ ?Tₓ ?Uₓ ?oₓ ?hPₓ ?hSₓ ?hiₓ ?hlₓ ?psₓ ?hmₓ ?_); (case dₓ => exact Nat.le_of_ble_eq_true rfl); (case uₓ => exact Nat.le_of_ble_eq_true rfl); (case Fₓ => k_asm); (case Nₓ => k_asm); (case Xₓ => k_asm); (case Tₓ => k_asm); (case Uₓ => k_updF); (case oₓ => assumption); (case hPₓ => k_mem); (case hSₓ => k_mem); (case hiₓ => assumption); (case hlₓ => assumption); (case psₓ => k_ne); (case hmₓ => first | decide | assumption)); intro v'ₓ t'ₓ o'ₓ h'ₓ tk'ₓ hv0'ₓ hv1'ₓ oP'ₓ F'ₓ N'ₓ; (try dsimp only at N'ₓ); (try k_sweep))
  k_with "call ref" => (k_here; (with_reducible show wpAny _ _ (call (Value.ref 53) _) _ _ _); k_dflt (refine' to_AL rfl ?dₓ ?uₓ (add_at ?Fₓ ?Nₓ ?Xₓ ?Tₓ ?hLₓ ?hzₓ ?hlenₓ ?_); (case dₓ => exact Nat.le_of_ble_eq_true rfl); (case uₓ => exact Nat.le_of_ble_eq_true rfl); (case Fₓ => k_asm); (case Nₓ => k_asm); (case Xₓ => k_asm); (case Tₓ => k_asm); (case hLₓ => k_mem); (case hzₓ => k_sub); (case hlenₓ => first | assumption | omega)); intro RL' z' rs' k' h' tk' F' N' n1' n2' n3' er' es' el'; (repeat (replace n1' := List.forall_mem_cons.mp n1'; (have hn' := And.left n1'); replace n1' := And.right n1'; try dsimp only at hn')); (repeat (replace n2' := List.forall_mem_cons.mp n2'; (have hn' := And.left n2'); replace n2' := And.right n2'; try dsimp only at hn')); (try dsimp only at n3'); (try k_sweep))
  trivial
theorem has_at {RL : Addr} {zs : List RZ} {k : Nat} {n : Int} {tn : Tok}
    (F : Fr h₀ L s.heap m) (N : News h₀ L s.heap news) (X₀ : (heap w.params).In h₀) (T : Top p loose mean mg mb h₀)
    (hL : (RL, listOf (vz zs).toArray k) ∈ news) (hz : ∀ q ∈ tz zs, q ∈ news) (hlen : zs.length ≤ 1000)
    (h : ∀ h' tk', Fr h₀ L h' m → News h₀ L h' news → Q (.bool (hasR (rz zs) n)) { s with heap := h', toks := tk' }) :
    wpAny (model prog w) (AL 360) (call (.ref 58) [.ref RL, .int n tn]) Q (fun _ _ => False) s := by
  have hW : ∀ q ∈ (RL, listOf (vz zs).toArray k) :: tz zs, q ∈ news := by
    intro q hq
    rcases List.mem_cons.mp hq with rfl | hq
    · exact hL
    · exact hz q hq
  refine enterC (binds := [(Str.ofString "ranges", .ref RL), (Str.ofString "n", .int n tn)]) (W := (RL, listOf (vz zs).toArray k) :: tz zs) F N X₀ T hW (by k_dflt k_is) (by k_dflt k_is) (by decide) (BindsTo.of_eq rfl) rfl (by decide +kernel) ?_ rfl rfl rfl
  intro g L' h₁ tk cells hg F' N' Y l1 X' T'
  have fin : ∀ b h' tk' m', b = hasR (rz zs) n → Fr g L' h' m' → News g L' h' ((RL, listOf (vz zs).toArray k) :: tz zs) → Q (.bool b) { s with heap := h', toks := tk' } := fun b h' tk' m' e F' N' => e ▸ h h' tk' (backF F N hW hg F') (backAll F N hW hg F' (pre := []) N')
  clear h hW hL hz N X₀ T F hg
  have hR : @LT.lt Nat _ RL L' := l1 _ (.head _)
  have hT : ∀ q ∈ tz zs, @LT.lt Nat _ q.1 L' := fun q hq => l1 q (.tail _ hq)
  clear l1
  k_cells Y
  (try simp only [List.cons_append, List.nil_append] at N')
  (try dsimp only)
  k_unmd
  k_fold
  k_steps
  refine Halt.mk ?_
  refine invP (fun i ys nw => nw = _ ∧ ys = ((zs.take i).map fun z => Value.bool (decide (z.lo ≤ n) && decide (n ≤ z.hi)))) ⟨rfl, rfl⟩ ?turn ?done
  case turn =>
    intro i ys nw v hi hJ hv
    obtain ⟨rfl, rfl⟩ := hJ
    obtain ⟨z, hz, rfl⟩ := vz_get (i := i) (v := v) (by simpa using hv)
    have hzm := tz_mem (List.mem_of_getElem? hz)
    refine ⟨z.a, z.obj, .int z.lo z.t, .int z.hi z.u, 0, rfl, .tail _ (.tail _ hzm), rfl, rfl, ?_⟩
    intro I oI C oC D m₂ h tk E' hC hx hx₂ F₂ N₂ off ne
    k_unmd
    k_fold
    k_steps
    all_goals refine ⟨LCg.CompEnd.intro F₂ (by assumption) _ (fun _ h => h) off (.inr ⟨_, .tail _ (.head _), rfl, _, rfl⟩) ⟨rfl, take_map hz ?_⟩⟩
    all_goals simp only [Value.bool.injEq]
    · rename_i hlo; simp [hlo]
    · rename_i hlo; simp [hlo]
  case done =>
    intro ys nw hJ
    obtain ⟨rfl, rfl⟩ := hJ
    rw [show (vz zs).toArray.size = zs.length by simp [vz], List.take_length]
    have hbs := bools_map (f := fun z : RZ => decide (z.lo ≤ n) && decide (n ≤ z.hi)) (l := zs)
    k_unmd
    try k_fold
    k_steps
    refine fin _ _ _ _ ?_ (by assumption) (newsSub (by assumption) (fun q hq => .tail _ (.tail _ hq)))
    unfold hasR rz
    rw [List.any_map]
    rfl
end

-- nolocal
-- needs: comp
section
open LCg LCt
variable {prog : Program} {w : World} {A : Around} {E : Value → Shared → Prop} {s : Shared} {h₀ : Heap} {L : Addr} {m : Str → Option Value} {env : Env}
theorem newEnvK {M : Model} {scope : Scope} {cl : List (Str × Addr)} {Q : Env → Shared → Prop}
    (h : Q (newEnv scope s.heap.objs.size env.globals (cellsFrom (s.heap.objs.size + 1) scope.names cl) env.qual none .none (some env) builtinsNs) { s with heap := pushCells (s.heap.push { cls := .type "dict", data := .dict #[] }) scope.names }) :
    wpAny M A (newFunctionEnv scope env.globals cl [] env.qual none .none (some env)) Q E s := by
  simp only [newFunctionEnv, Option.isSome_some, if_true]
  refine wpAny_bind (wpAny_alloc ?_)
  refine wpAny_bind (wpAny_layCells _ (fun name kind cells => by cases hkc : kind == NameKind.cell <;> simp [hkc]) _ _ _ _ ?_)
  rw [show ({ s with heap := s.heap.push { cls := .type "dict", data := .dict #[] } } : Shared).heap.objs.size = s.heap.objs.size + 1 from Heap.size_push ..]
  rw [List.forIn_nil]
  exact wpAny_bind (wpAny_pure (wpAny_pure h))
/-- a comprehension whose variable is a cell of its own -/
theorem block_K {elt iter : PySem.Expr} {x : Str} {px : Pos} {scope : Scope} {cl : List (Str × Addr)} {pos : Pos} {s₂ : Shared} {I : Addr} {fp : List Addr} {n : Nat} {P : Nat → Value → Prop} {St : Nat → Heap → Prop} {S : List (Addr × Obj) → Prop} {news : List (Addr × Obj)}
    {RR : Value → Addr → Result → Shared → Prop}
    (W : Walks prog w A I fp [I] n P St) (hsz : n ≤ sizeLine) (hIo : ∀ i h, St i h → ∃ o, h.get? I = some o)
    (hSt : ∀ i h h' o nw, St i h → h.get? I = some o → h'.get? I = some o → (∀ b o, h₀.get? b = some o → h'.get? b = some o) → News h₀ L h' nw → S nw → St i h')
    (hkind : scope.kind = .function) (hx : (relabel scope env).names.lookup x = some .cell) (hcl : ∀ n, cellsFrom n scope.names cl = (x, n) :: cl) (hpc : ∀ h, pushCells h scope.names = h.push { cls := .type "cell", data := .cell none })
    (hst : St 0 s₂.heap) (hfp : ∀ b ∈ fp, b < s₂.heap.objs.size)
    (F : Fr h₀ L s₂.heap m) (N : News h₀ L s₂.heap news) (hIL : L ≠ I) (hI₀ : h₀.get? I = none) (off : ∀ p ∈ news, p.1 ≠ I) (hS : S news)
    (J : Nat → List Value → List (Addr × Obj) → Prop) (h0 : J 0 [] news)
    (turn : ∀ i ys nw v I oI C oC K oK D m₂ h tk (E' : Value → Shared → Prop), i < n → J i ys nw → P i v → NsObj oC m₂ → oK.data = .cell (some v) → Fr h₀ L h m → News h₀ L h ((I, oI) :: (C, oC) :: (D, lst ys) :: (K, oK) :: nw) → Off3 I C D ((K, oK) :: nw) → ((@Ne Nat I C) ∧ (@Ne Nat I D) ∧ (@Ne Nat C D)) → (∀ q ∈ nw, @Ne Nat q.1 K) →
      wpAny (model prog w) A (eval elt (compEnvC scope ((x, K) :: cl) C env)) (CompEnd h₀ L m { s₂ with heap := h, toks := tk } I oI C oC D (lst ys) (fun nw' => ∃ nw'', nw' = (K, oK) :: nw'' ∧ S nw'' ∧ (∀ q ∈ nw'', @Ne Nat q.1 K)) (fun y nw' => ∃ nw'', nw' = (K, oK) :: nw'' ∧ J (i + 1) (ys ++ [y]) nw'')) E' { s₂ with heap := h, toks := tk })
    (hRR : ∀ D C h tk m' ys news', Fr h₀ L h m → News h₀ L h ((D, lst ys) :: news') → Off1 D news' → h.Ns C m' → h₀.get? C = none → h₀.get? D = none → C ≠ L → D ≠ L → C ≠ D → (∀ p ∈ news', p.1 ≠ C) → J n ys news' → RR (.ref D) C (.ok .next) { s₂ with heap := h, toks := tk }) :
    wpAny (model prog w) A (newList []) (fun acc s₃ => wpAny (model prog w) A (newFunctionEnv scope env.globals cl [] env.qual none .none (some env)) (fun cenv s₄ =>
      codeAny (model prog w) A (.compStart (.ListComp elt [⟨.Name x px, iter, [], 0⟩] scope pos) 0 (.ref I) acc { cenv with scope := relabel scope env }) (RR acc cenv.locals) s₄) E s₃) E s₂ := by
  refine wpAny_newObj_type (newEnvK ?_)
  dsimp only
  generalize hH2 : s₂.heap.push { cls := .type "list", dict := none, data := .seq ([] : List Value).toArray } = H2
  rw [hcl, hpc]
  generalize hh₁ : (H2.push { cls := .type "dict", data := .dict #[] }).push { cls := .type "cell", data := .cell none } = h₁
  have hC : H2.objs.size = s₂.heap.objs.size + 1 := by rw [← hH2, Heap.size_push]
  have hK1 : (H2.push { cls := .type "dict", data := .dict #[] }).objs.size = H2.objs.size + 1 := Heap.size_push ..
  have hDC : s₂.heap.objs.size ≠ H2.objs.size := by rw [hC]; exact Nat.ne_of_lt (Nat.lt_succ_self _)
  have hCK : H2.objs.size ≠ H2.objs.size + 1 := Nat.ne_of_lt (Nat.lt_succ_self _)
  have hDK : s₂.heap.objs.size ≠ H2.objs.size + 1 := by rw [hC]; exact Nat.ne_of_lt (Nat.lt_succ_of_lt (Nat.lt_succ_self _))
  have below : ∀ b, b < s₂.heap.objs.size → b ≠ H2.objs.size ∧ b ≠ s₂.heap.objs.size ∧ b ≠ H2.objs.size + 1 := fun b hb => ⟨by rw [hC]; exact Nat.ne_of_lt (Nat.lt_succ_of_lt hb), Nat.ne_of_lt hb, by rw [hC]; exact Nat.ne_of_lt (Nat.lt_succ_of_lt (Nat.lt_succ_of_lt hb))⟩
  have hDf : s₂.heap.objs.size ∉ fp := fun hm => Nat.lt_irrefl _ (hfp _ hm)
  have hKf : H2.objs.size + 1 ∉ fp := fun hm => (below _ (hfp _ hm)).2.2 rfl
  have hIf : I ∈ fp := W.sub I (List.mem_singleton.mpr rfl)
  have hIlt : I < s₂.heap.objs.size := hfp I hIf
  have up₁ : ∀ b o, H2.get? b = some o → h₁.get? b = some o := fun b o e => hh₁ ▸ Heap.get?_push_of_some _ (Heap.get?_push_of_some _ e)
  have old : ∀ b o, s₂.heap.get? b = some o → h₁.get? b = some o := fun b o e => up₁ b o (hH2 ▸ Heap.get?_push_of_some _ e)
  have hns₁ : h₁.Ns H2.objs.size fun _ => none := hh₁ ▸ (Heap.Ns.new H2 (.type "dict")).keeps fun b o e => Heap.get?_push_of_some _ e
  have hcell₁ : h₁.IsCell (H2.objs.size + 1) none := ⟨_, by rw [← hh₁, ← hK1]; exact Heap.get?_push_size _ rfl, rfl⟩
  have hacc : h₁.get? s₂.heap.objs.size = some (lst []) := up₁ _ _ (hH2 ▸ Heap.get?_push_size _ rfl)
  have hst₁ : St 0 h₁ := W.frame _ _ _ hst fun b _ o e => old b o e
  have fresh : ∀ a, s₂.heap.objs.size ≤ a → s₂.heap.get? a = none := fun a ha => by
    cases e : s₂.heap.get? a with
    | none => rfl
    | some o' => exact absurd (Heap.lt_size e) (Nat.not_lt.mpr ha)
  have fresh₀ : ∀ a, s₂.heap.objs.size ≤ a → h₀.get? a = none := fun a ha => by
    cases e : h₀.get? a with
    | none => rfl
    | some o' => have := F.keep a o' e; rw [fresh a ha] at this; cases this
  have hD₀ : h₀.get? s₂.heap.objs.size = none := fresh₀ _ (Nat.le_refl _)
  have hC₀ : h₀.get? H2.objs.size = none := fresh₀ _ (by rw [hC]; exact Nat.le_succ _)
  have hK₀ : h₀.get? (H2.objs.size + 1) = none := fresh₀ _ (by rw [hC]; exact Nat.le_succ_of_le (Nat.le_succ _))
  have hLlt : L < s₂.heap.objs.size := F.ns.lt
  have hDL : s₂.heap.objs.size ≠ L := Ne.symm (below L hLlt).2.1
  have hCL : H2.objs.size ≠ L := Ne.symm (below L hLlt).1
  have hKL : H2.objs.size + 1 ≠ L := Ne.symm (below L hLlt).2.2
  have hCI : I ≠ H2.objs.size := (below I hIlt).1
  have hDI : I ≠ s₂.heap.objs.size := (below I hIlt).2.1
  have hKI : I ≠ H2.objs.size + 1 := (below I hIlt).2.2
  have off₀ : Off3 I H2.objs.size s₂.heap.objs.size news := Off3.of fun p hp => ⟨off p hp, (below _ (Heap.lt_size (N p hp).1)).1, (below _ (Heap.lt_size (N p hp).1)).2.1⟩
  have offK₀ : ∀ p ∈ news, @Ne Nat p.1 (H2.objs.size + 1) := fun p hp => (below _ (Heap.lt_size (N p hp).1)).2.2
  have loop : ∀ s₃ : Shared, s₃ = { s₂ with heap := h₁ } →
      codeAny (model prog w) A (.compLoop (.ListComp elt [⟨.Name x px, iter, [], 0⟩] scope pos) 0 (.ref I) (.ref s₂.heap.objs.size) (compEnvC scope ((x, H2.objs.size + 1) :: cl) H2.objs.size env))
        (RR (.ref s₂.heap.objs.size) H2.objs.size) s₃ := by
    rintro s₃ rfl
    refine codeAny_compLoop_tests
      (fun k s' => ∃ h' tk i ys vK news', s' = { s₂ with heap := h', toks := tk } ∧ i ≤ n ∧ k = n + 1 - i ∧ ys.length = i ∧ St i h' ∧ Fr h₀ L h' m ∧ (h'.Ns H2.objs.size fun _ => none) ∧ h'.IsCell (H2.objs.size + 1) vK ∧ News h₀ L h' ((s₂.heap.objs.size, lst ys) :: news') ∧
        Off3 I H2.objs.size s₂.heap.objs.size news' ∧ (∀ p ∈ news', @Ne Nat p.1 (H2.objs.size + 1)) ∧ S news' ∧ J i ys news') ?_ (n + 1)
      ⟨h₁, _, 0, [], _, news, rfl, Nat.zero_le _, rfl, rfl, hst₁, F.keeps old, hns₁, hcell₁, fun p hp => ?_, off₀, offK₀, hS, h0⟩
    · rintro k s' ⟨h', tk, i, ys, vK, news', rfl, hi, rfl, hyl, hst', F', hn', hc', N', off', offK', hS', hJ⟩
      by_cases hlt : i < n
      · refine W.item i _ _ _ hlt hst' fun v h₂ tk₂ hPv hst₂ hk₂ => ?_
        have hc₂ : h₂.IsCell (H2.objs.size + 1) vK := by
          obtain ⟨o, e, hd⟩ := hc'
          exact ⟨o, hk₂ _ o (by simpa using Ne.symm hKI) e, hd⟩
        have hn₂ : h₂.Ns H2.objs.size fun _ => none := hn'.at' fun o e => hk₂ _ o (by simpa using Ne.symm hCI) e
        refine wpAny_assign_Name (wpAny_storeName_cell (by simp [compEnvC, relabel, hkind]) hx (List.lookup_cons_self) hc₂ (fun h₃ hc₃ hs₃ => ?_))
        refine wpAny_tests_nil ?_
        simp only [if_true]
        have hst₃ : St (i + 1) h₃ := W.frame _ _ _ hst₂ fun b hb o e => hs₃.extBut b o (fun q => hKf (by have q' : b = H2.objs.size + 1 := q; rw [← q']; exact hb)) e
        obtain ⟨oI, heI⟩ := hIo _ _ hst₃
        obtain ⟨oC, heC, hoC⟩ := ns_obj (hn₂.sameBut hs₃ hCK)
        obtain ⟨oK, heK, hoK⟩ := hc₃
        have F₃ : Fr h₀ L h₃ m := (fr_but F' hk₂ hIL hI₀).change hs₃ hKL hK₀
        have off3 := off'.mem
        have N₂ : News h₀ L h₂ ((s₂.heap.objs.size, lst ys) :: news') := news_but N' hk₂ fun p hp => by
          rcases List.mem_cons.mp hp with rfl | hp
          · exact Ne.symm hDI
          · exact (off3 p hp).1
        have N₃ : News h₀ L h₃ ((I, oI) :: (H2.objs.size, oC) :: (s₂.heap.objs.size, lst ys) :: (H2.objs.size + 1, oK) :: news') := fun p hp => by
          rcases List.mem_cons.mp hp with rfl | hp
          · exact ⟨heI, Ne.symm hIL, hI₀⟩
          rcases List.mem_cons.mp hp with rfl | hp
          · exact ⟨heC, hCL, hC₀⟩
          rcases List.mem_cons.mp hp with rfl | hp
          · have z := N₂ _ List.mem_cons_self
            exact ⟨hs₃.extBut _ _ hDK z.1, z.2⟩
          rcases List.mem_cons.mp hp with rfl | hp
          · exact ⟨heK, hKL, hK₀⟩
          · have z := N₂ p (List.mem_cons_of_mem _ hp)
            exact ⟨hs₃.extBut _ _ (offK' p hp) z.1, z.2⟩
        refine wpAny_mono (turn i ys news' v I oI H2.objs.size oC (H2.objs.size + 1) oK s₂.heap.objs.size _ h₃ _ _ hlt hJ hPv hoC hoK F₃ N₃ ⟨⟨Ne.symm hKI, Ne.symm hCK, Ne.symm hDK⟩, off'⟩ ⟨hCI, hDI, Ne.symm hDC⟩ offK') (fun y s₄ h₄ => ?_) fun _ _ e => e
        obtain ⟨h₄, tk₄, news₄', rfl, F₄, N₄, off₄', ⟨news₄, e1, hS₄, offK₄⟩, ⟨news₅, e2, hJ₄⟩⟩ := h₄
        obtain rfl : news₄ = news₅ := by rw [e1] at e2; exact (List.cons.inj e2).2
        subst e1
        have off₄ : Off3 I H2.objs.size s₂.heap.objs.size news₄ := off₄'.2
        have zI := (N₄ (I, oI) List.mem_cons_self).1
        have zC := (N₄ (H2.objs.size, oC) (.tail _ (.head _))).1
        have zD := (N₄ (s₂.heap.objs.size, lst ys) (.tail _ (.tail _ (.head _)))).1
        have zK := (N₄ (H2.objs.size + 1, oK) (.tail _ (.tail _ (.tail _ (.head _))))).1
        have N₄' : News h₀ L h₄ news₄ := fun p hp => N₄ p (.tail _ (.tail _ (.tail _ (.tail _ hp))))
        have hst₄ : St (i + 1) h₄ := hSt _ _ _ _ _ hst₃ heI zI F₄.keep N₄' hS₄
        refine append_at (hsz := by show ys.toArray.size ≤ sizeLine; rw [List.size_toArray, hyl]; exact Nat.le_trans hi hsz) zD fun h₅ hs₅ hD₅ => ?_
        have off4 := off₄.mem
        refine ⟨n + 1 - (i + 1), by omega, h₅, tk₄, i + 1, ys ++ [y], some v, news₄, rfl, hlt, rfl, by rw [List.length_append, List.length_singleton, hyl], W.frame _ _ _ hst₄ fun b hb o e => hs₅.extBut b o (fun q => hDf (q ▸ hb)) e, F₄.change hs₅ hDL hD₀,
          (hoC.ns zC).sameBut hs₅ (Ne.symm hDC), (show h₄.IsCell _ (some v) from ⟨oK, zK, hoK⟩).sameBut hs₅ (Ne.symm hDK), fun p hp => ?_, off₄, offK₄, hS₄, hJ₄⟩
        · rcases List.mem_cons.mp hp with rfl | hp
          · exact ⟨hD₅.trans (congrArg some (lst_snoc ys y)), hDL, hD₀⟩
          · exact ⟨hs₅.extBut _ _ (off4 p hp).2.2 (N₄' p hp).1, (N₄' p hp).2⟩
      · obtain rfl : i = n := Nat.le_antisymm hi (Nat.not_lt.mp hlt)
        refine W.done _ _ _ hst' fun h₂ tk₂ hk₂ => ?_
        have off3 := off'.mem
        exact hRR _ _ h₂ tk₂ _ ys news' (fr_but F' hk₂ hIL hI₀) (news_but N' hk₂ fun p hp => by
          rcases List.mem_cons.mp hp with rfl | hp
          · exact Ne.symm hDI
          · exact (off3 p hp).1) off'.one (hn'.at' fun o e => hk₂ _ o (by simpa using Ne.symm hCI) e) hC₀ hD₀ hCL hDL (Ne.symm hDC) (fun p hp => (off3 p hp).2.1) hJ
    · rcases List.mem_cons.mp hp with rfl | hp
      · exact ⟨hacc, hDL, hD₀⟩
      · exact ⟨old _ _ (N p hp).1, (N p hp).2⟩
  exact codeAny_compStart_list (loop _ rfl) (W.self 0 _ _ _ hst₁ (loop _ rfl))
/-- what stands behind pyIter -/
noncomputable def CompK (prog : Program) (w : World) (A : Around) (h₀ : Heap) (L : Addr) (m : Str → Option Value) (env : Env) (elt : PySem.Expr) (x : Str) (scope : Scope) (cl : List (Str × Addr)) (Fin : Shared → List Value → List (Addr × Obj) → Prop) (it : Value) (s₂ : Shared) : Prop :=
  ∃ (I ax : Addr) (ot : Obj) (its : Array Value) (news : List (Addr × Obj)) (J : Nat → List Value → List (Addr × Obj) → Prop), it = .ref I ∧ A.handled = none ∧ its.size ≤ sizeLine ∧ s₂.heap.IsTupleIter I ax 0 ∧ (ax, ot) ∈ news ∧ ot.cls = .type "tuple" ∧ (∃ k, ot.data = .seq its k) ∧
    Fr h₀ L s₂.heap m ∧ News h₀ L s₂.heap news ∧ L ≠ I ∧ ax ≠ I ∧ h₀.get? I = none ∧ (∀ q ∈ news, q.1 ≠ I) ∧ J 0 [] news ∧
    (∀ i ys nw v I oI C oC K oK D m₂ h tk (E' : Value → Shared → Prop), i < its.size → J i ys nw → its[i]? = some v → NsObj oC m₂ → oK.data = .cell (some v) → Fr h₀ L h m → News h₀ L h ((I, oI) :: (C, oC) :: (D, lst ys) :: (K, oK) :: nw) → Off3 I C D ((K, oK) :: nw) → ((@Ne Nat I C) ∧ (@Ne Nat I D) ∧ (@Ne Nat C D)) → (∀ q ∈ nw, @Ne Nat q.1 K) →
      wpAny (model prog w) A (eval elt (compEnvC scope ((x, K) :: cl) C env)) (CompEnd h₀ L m { s₂ with heap := h, toks := tk } I oI C oC D (lst ys) (fun nw' => ∃ nw'', nw' = (K, oK) :: nw'' ∧ (ax, ot) ∈ nw'' ∧ (∀ q ∈ nw'', @Ne Nat q.1 K)) (fun y nw' => ∃ nw'', nw' = (K, oK) :: nw'' ∧ J (i + 1) (ys ++ [y]) nw'')) E' { s₂ with heap := h, toks := tk }) ∧
    (∀ ys nw, J its.size ys nw → Fin s₂ ys nw)
theorem comp_K {elt iter : PySem.Expr} {x : Str} {px : Pos} {scope : Scope} {cl : List (Str × Addr)} {pos : Pos} {Q : Value → Shared → Prop}
    (hclos : closureFor scope env = pure cl) (hkind : scope.kind = .function) (hx : (relabel scope env).names.lookup x = some .cell) (hcl : ∀ n, cellsFrom n scope.names cl = (x, n) :: cl) (hpc : ∀ h, pushCells h scope.names = h.push { cls := .type "cell", data := .cell none })
    (hnames : ∀ y ∈ scope.names, y.2 = .local → scope.names.lookup y.1 = some .local)
    (h : wpAny (model prog w) A (eval iter env) (fun xv s₁ => wpAny (model prog w) A (pyIter xv) (CompK prog w A h₀ L m env elt x scope cl (fun s₂ => FinE h₀ L m s₂ Q)) E s₁) E s)
    (hs : ∀ x, foldedSetIterable iter env x = pure x := by intro _; rfl) :
    wpAny (model prog w) A (eval (.ListComp elt [⟨.Name x px, iter, [], 0⟩] scope pos) env) Q E s := by
  rw [eval_ListComp]
  refine wpAny_comprehension_free (use := none) rfl hs hclos hkind hnames (wpAny_mono h (fun xv s₁ h₁ => wpAny_mono h₁ (fun it s₂ h₂ => ?_) fun _ _ e => e) fun _ _ e => e)
  obtain ⟨I, ax, ot, its, news, J, rfl, hh, hsz, hit, hm, ho1, ⟨k, ho2⟩, F, N, hIL, hne, hI₀, off, h0, turn, done⟩ := h₂
  have htup : s₂.heap.IsTuple ax its := ⟨ot, (N _ hm).1, ho1, k, ho2⟩
  refine block_K (S := fun nw => (ax, ot) ∈ nw) (Walks.tuple hh I ax hne its) hsz (fun i h st => by obtain ⟨o, e, _⟩ := st.1; exact ⟨o, e⟩)
    (fun i h h' o nw st e e' k' N' S' => ⟨by obtain ⟨o', q, r⟩ := st.1; rw [e] at q; cases q; exact ⟨o, e', r⟩, ⟨ot, (N' _ S').1, ho1, k, ho2⟩⟩) hkind hx hcl hpc ⟨hit, htup⟩ (fun b hb => ?_) F N hIL hI₀ off hm J h0 turn ?_
  · rcases List.mem_cons.mp hb with rfl | hb
    · obtain ⟨o, e, _⟩ := hit; exact Heap.lt_size e
    · rw [List.mem_singleton.mp hb]; exact Heap.lt_size (N _ hm).1
  intro D C h' tk m' ys news' F' N' o1 hn hC₀ hD₀ hCL hDL hCD offC hJ
  refine ⟨m', hn, fun h'' hs'' => done ys news' hJ D h'' tk (F'.change hs'' hCL hC₀) (fun p hp => ?_) o1⟩
  refine ⟨hs''.extBut _ _ ?_ (N' p hp).1, (N' p hp).2⟩
  rcases List.mem_cons.mp hp with rfl | hp
  · exact Ne.symm hCD
  · exact offC p hp
/-- over a tuple -/
theorem compK_tuple {elt : PySem.Expr} {x : Str} {scope : Scope} {cl : List (Str × Addr)} {Fin : Shared → List Value → List (Addr × Obj) → Prop} {news : List (Addr × Obj)} {ax : Addr} {ot : Obj} {its : Array Value} {k : Nat}
    (hh : A.handled = none) (F : Fr h₀ L s.heap m) (N : News h₀ L s.heap news) (hm : (ax, ot) ∈ news) (ho1 : ot.cls = .type "tuple") (ho2 : ot.data = .seq its k) (hsz : its.size ≤ sizeLine)
    (J : Nat → List Value → List (Addr × Obj) → Prop) (h0 : J 0 [] news)
    (turn : ∀ s₂ : Shared, (∃ h, s₂ = { s with heap := h }) → ∀ i ys nw v I oI C oC K oK D m₂ h tk (E' : Value → Shared → Prop), i < its.size → J i ys nw → its[i]? = some v → NsObj oC m₂ → oK.data = .cell (some v) → Fr h₀ L h m → News h₀ L h ((I, oI) :: (C, oC) :: (D, lst ys) :: (K, oK) :: nw) → Off3 I C D ((K, oK) :: nw) → ((@Ne Nat I C) ∧ (@Ne Nat I D) ∧ (@Ne Nat C D)) → (∀ q ∈ nw, @Ne Nat q.1 K) →
      wpAny (model prog w) A (eval elt (compEnvC scope ((x, K) :: cl) C env)) (CompEnd h₀ L m { s₂ with heap := h, toks := tk } I oI C oC D (lst ys) (fun nw' => ∃ nw'', nw' = (K, oK) :: nw'' ∧ (ax, ot) ∈ nw'' ∧ (∀ q ∈ nw'', @Ne Nat q.1 K)) (fun y nw' => ∃ nw'', nw' = (K, oK) :: nw'' ∧ J (i + 1) (ys ++ [y]) nw'')) E' { s₂ with heap := h, toks := tk })
    (done : ∀ s₂ : Shared, (∃ h, s₂ = { s with heap := h }) → ∀ ys nw, J its.size ys nw → Fin s₂ ys nw) :
    wpAny (model prog w) A (pyIter (.ref ax)) (CompK prog w A h₀ L m env elt x scope cl Fin) E s := by
  have ht : s.heap.IsTuple ax its := ⟨ot, (N _ hm).1, ho1, k, ho2⟩
  refine wpAny_pyIter_tuple ht ?_
  have hlt : ax < s.heap.objs.size := Heap.lt_size (N _ hm).1
  exact ⟨_, ax, ot, its, news, J, rfl, hh, hsz, ⟨_, Heap.get?_push_size _ rfl, rfl, rfl⟩, hm, ho1, ⟨k, ho2⟩, F.keeps fun _ _ e => Heap.get?_push_of_some _ e, N.grown fun _ _ e => Heap.get?_push_of_some _ e, Nat.ne_of_lt F.ns.lt, Nat.ne_of_lt hlt, next_is_new F,
    (fun q hq => Nat.ne_of_lt (Heap.lt_size (N q hq).1)), h0, turn _ ⟨_, rfl⟩, done _ ⟨_, rfl⟩⟩
end

-- nolocal
-- needs: state has draw add
section
variable {prog : Program} {w : World} {M : Model} {A : Around} {E : Value → Shared → Prop} {s : Shared} {h₀ : Heap} {L : Addr} {m : Str → Option Value} {news : List (Addr × Obj)}
/-- two or more ways that end alike -/
theorem merge {α : Type} {t : Sem α} {Q : α → Shared → Prop} (Mid : α → Shared → Prop) (h1 : wpAny M A t Mid E s) (h2 : ∀ a s', Mid a s' → Q a s') : wpAny M A t Q E s :=
  wpAny_mono h1 h2 fun _ _ e => e
/-- a bool was reckoned; nothing was turned -/
structure MidB (h₀ : Heap) (L : Addr) (m : Str → Option Value) (news : List (Addr × Obj)) (B : Bool) (s : Shared) (v : Value) (s' : Shared) : Prop where
  out : v = .bool B ∧ ∃ h' tk', s' = { s with heap := h', toks := tk' } ∧ Fr h₀ L h' m ∧ News h₀ L h' news
theorem MidB.intro {B b : Bool} {h' : Heap} {tk' : Nat} {all : List (Addr × Obj)} (F : Fr h₀ L h' m) (N : News h₀ L h' all) (hs : ∀ q ∈ news, q ∈ all) (e : b = B) :
    MidB h₀ L m news B s (.bool b) { s with heap := h', toks := tk' } := ⟨⟨by rw [e], h', tk', rfl, F, newsSub N hs⟩⟩
/-- a statement was done: names and ledger as said -/
structure MidS (h₀ : Heap) (L : Addr) (J : (Str → Option Value) → List (Addr × Obj) → Prop) (s : Shared) (f : Flow) (s' : Shared) : Prop where
  out : f = .next ∧ ∃ h' tk' m' nw, s' = { s with heap := h', toks := tk' } ∧ Fr h₀ L h' m' ∧ News h₀ L h' nw ∧ J m' nw
theorem MidS.intro {J : (Str → Option Value) → List (Addr × Obj) → Prop} {m' : Str → Option Value} {h' : Heap} {tk' : Nat} {all : List (Addr × Obj)} (nw : List (Addr × Obj)) (F : Fr h₀ L h' m') (N : News h₀ L h' all) (hs : ∀ q ∈ nw, q ∈ all) (hJ : J m' nw) :
    MidS h₀ L J s .next { s with heap := h', toks := tk' } := ⟨⟨rfl, h', tk', m', nw, rfl, F, newsSub N hs, hJ⟩⟩
/-- a value was reckoned; nothing was turned -/
structure MidV (h₀ : Heap) (L : Addr) (m : Str → Option Value) (news : List (Addr × Obj)) (P : Value → Prop) (s : Shared) (v : Value) (s' : Shared) : Prop where
  out : P v ∧ ∃ h' tk', s' = { s with heap := h', toks := tk' } ∧ Fr h₀ L h' m ∧ News h₀ L h' news
theorem MidV.intro {P : Value → Prop} {v : Value} {h' : Heap} {tk' : Nat} {all : List (Addr × Obj)} (F : Fr h₀ L h' m) (N : News h₀ L h' all) (hs : ∀ q ∈ news, q ∈ all) (e : P v) :
    MidV h₀ L m news P s v { s with heap := h', toks := tk' } := ⟨⟨e, h', tk', rfl, F, newsSub N hs⟩⟩
theorem mergeV {t : Sem Value} {Q : Value → Shared → Prop} (P : Value → Prop) (F : Fr h₀ L s.heap m) (N : News h₀ L s.heap news) (h1 : wpAny M A t (MidV h₀ L m news P s) E s)
    (h2 : ∀ v h' tk', P v → Fr h₀ L h' m → News h₀ L h' news → Q v { s with heap := h', toks := tk' }) : wpAny M A t Q E s :=
  wpAny_mono h1 (fun v s' h => by obtain ⟨e, h', tk', rfl, F', N'⟩ := h.out; exact h2 v h' tk' e F' N') fun _ _ e => e
theorem mergeB {t : Sem Value} {Q : Value → Shared → Prop} (B : Bool) (F : Fr h₀ L s.heap m) (N : News h₀ L s.heap news) (h1 : wpAny M A t (MidB h₀ L m news B s) E s)
    (h2 : ∀ h' tk', Fr h₀ L h' m → News h₀ L h' news → Q (.bool B) { s with heap := h', toks := tk' }) : wpAny M A t Q E s :=
  wpAny_mono h1 (fun v s' h => by obtain ⟨rfl, h', tk', rfl, F', N'⟩ := h.out; exact h2 h' tk' F' N') fun _ _ e => e
theorem mergeL {t : Sem Flow} {Q : Flow → Shared → Prop} (J : List (Addr × Obj) → Prop) (F : Fr h₀ L s.heap m) (N : News h₀ L s.heap news) (h1 : wpAny M A t (MidS h₀ L (fun m' nw => m' = m ∧ J nw) s) E s)
    (h2 : ∀ h' tk' nw, Fr h₀ L h' m → News h₀ L h' nw → J nw → Q .next { s with heap := h', toks := tk' }) : wpAny M A t Q E s :=
  wpAny_mono h1 (fun v s' h => by obtain ⟨rfl, h', tk', m', nw, rfl, F', N', rfl, hJ⟩ := h.out; exact h2 h' tk' nw F' N' hJ) fun _ _ e => e
theorem mergeS {t : Sem Flow} {Q : Flow → Shared → Prop} (J : (Str → Option Value) → List (Addr × Obj) → Prop) (F : Fr h₀ L s.heap m) (N : News h₀ L s.heap news) (h1 : wpAny M A t (MidS h₀ L J s) E s)
    (h2 : ∀ h' tk' m' nw, Fr h₀ L h' m' → News h₀ L h' nw → J m' nw → Q .next { s with heap := h', toks := tk' }) : wpAny M A t Q E s :=
  wpAny_mono h1 (fun v s' h => by obtain ⟨rfl, h', tk', m', nw, rfl, F', N', hJ⟩ := h.out; exact h2 h' tk' m' nw F' N' hJ) fun _ _ e => e
end
noncomputable def gapOf (ls : Option Int) (n : Int) : Bool := match ls with | none => false | some l => n != l + 1
/-- while this is known, the walk stops at the lines that a part names -/
structure Stop : Prop where
noncomputable def bump (mark e0 e1 e2 : Int) : Int × Int × Int := if mark = 1 then (e0, e1 + 1, e2) else if mark = 2 then (e0 + 1, e1, e2) else if mark = 3 then (e0, e1, e2 + 1) else (e0, e1, e2)
noncomputable def seenOf (ls : Option Int) (n : Int) : Option Int := match ls with | none => some n | some l => if n > l then some n else some l
noncomputable def timeOf (ls lt : Option Int) (n now : Int) : Option Int := match ls with | none => some now | some l => if n > l then some now else lt
theorem ne_new {l : List (Addr × Obj)} {d a : Addr} {o : Obj} (h : ∀ p ∈ l, p.1 < d) (hm : (a, o) ∈ l) : @Ne Nat a d := Nat.ne_of_lt (h _ hm)
theorem all_new {l T : List (Addr × Obj)} {d : Addr} (h : ∀ p ∈ l, p.1 < d) (hs : ∀ q ∈ T, q ∈ l) : ∀ q ∈ T, @Ne Nat q.1 d := fun q hq => Nat.ne_of_lt (h q (hs q hq))

-- nolocal
-- needs: merge
/-! a ledger under a name: its first n objects lie apart from all others; looked up by place -/
noncomputable def Sep (n : Nat) (l : List (Addr × Obj)) : Prop := ∀ i a o, i < n → l[i]? = some (a, o) → ∀ j q, j ≠ i → l[j]? = some q → @Ne Nat q.1 a
theorem Sep.zero {l : List (Addr × Obj)} : Sep 0 l := fun _ _ _ h => absurd h (Nat.not_lt_zero _)
theorem Sep.cons {n : Nat} {l : List (Addr × Obj)} {d : Addr} {o : Obj} (h : ∀ q ∈ l, @Ne Nat q.1 d) (S : Sep n l) : Sep (n + 1) ((d, o) :: l) := by
  intro i a o' hi hx j q hj hq
  cases i with
  | zero =>
    cases hx
    cases j with
    | zero => exact absurd rfl hj
    | succ j => exact h q (List.mem_of_getElem? hq)
  | succ i =>
    cases j with
    | zero =>
      cases hq
      exact Ne.symm (h _ (List.mem_of_getElem? hx))
    | succ j => exact S i a o' (Nat.lt_of_succ_lt_succ hi) hx j q (fun e => hj (by rw [e])) hq
theorem Sep.new {n : Nat} {l : List (Addr × Obj)} {d : Addr} {o : Obj} (h : ∀ p ∈ l, p.1 < d) (S : Sep n l) : Sep (n + 1) ((d, o) :: l) := Sep.cons (fun q hq => Nat.ne_of_lt (h q hq)) S
theorem Sep.set {n i : Nat} {l : List (Addr × Obj)} {d : Addr} {o o' : Obj} (S : Sep n l) (hx : l[i]? = some (d, o)) : Sep n (l.set i (d, o')) := by
  have key : ∀ (j : Nat) (q : Addr × Obj), (l.set i (d, o'))[j]? = some q → ∃ q' : Addr × Obj, l[j]? = some q' ∧ q'.1 = q.1 := by
    intro j q hq
    by_cases e : i = j
    · subst e
      rw [List.getElem?_set_self (by exact (List.getElem?_eq_some_iff.mp hx).1)] at hq
      cases hq
      exact ⟨_, hx, rfl⟩
    · rw [List.getElem?_set_ne e] at hq
      exact ⟨q, hq, rfl⟩
  intro x a ox hi h1 j q hj hq
  obtain ⟨⟨a', o1⟩, h2, e2⟩ := key x _ h1
  obtain ⟨q', h3, e3⟩ := key j q hq
  cases e2
  rw [← e3]
  exact S x a o1 hi h2 j q' hj h3
theorem sep_split {n i : Nat} {l : List (Addr × Obj)} {d : Addr} {o : Obj} (S : Sep n l) (hi : i < n) (hx : l[i]? = some (d, o)) :
    (∀ p ∈ l.take i, @Ne Nat p.1 d) ∧ ∀ p ∈ l.drop (i + 1), @Ne Nat p.1 d := by
  constructor
  · intro p hp
    obtain ⟨j, hj, rfl⟩ := List.getElem_of_mem hp
    rw [List.length_take] at hj
    have hj' : j < i := by omega
    exact S i d o hi hx j _ (Nat.ne_of_lt hj') (by rw [List.getElem_take]; exact List.getElem?_eq_getElem _)
  · intro p hp
    obtain ⟨j, hj, rfl⟩ := List.getElem_of_mem hp
    exact S i d o hi hx (i + 1 + j) _ (by omega) (by rw [List.getElem_drop]; exact List.getElem?_eq_getElem _)
theorem updF_pre {d : Addr} {o : Obj} : ∀ (l : List (Addr × Obj)) (i : Nat), l[i]? = some (d, o) → (∀ p ∈ l.take i, @Ne Nat p.1 d) → (∀ p ∈ l.drop (i + 1), @Ne Nat p.1 d) → UpdF d o l (fun o' => l.set i (d, o'))
  | [], i, h, _, _ => by simp at h
  | p :: r, 0, h, _, hb => by cases h; exact UpdF.head hb
  | p :: r, i + 1, h, ha, hb => UpdF.tail (ha p (.head _)) (updF_pre r i h (fun q hq => ha q (.tail _ hq)) hb)
theorem upd_pre {d : Addr} {o o' : Obj} : ∀ (l : List (Addr × Obj)) (i : Nat), l[i]? = some (d, o) → (∀ p ∈ l.take i, @Ne Nat p.1 d) → (∀ p ∈ l.drop (i + 1), @Ne Nat p.1 d) → Upd d o o' l (l.set i (d, o'))
  | [], i, h, _, _ => by simp at h
  | p :: r, 0, h, _, hb => by cases h; exact Upd.head hb
  | p :: r, i + 1, h, ha, hb => Upd.tail (ha p (.head _)) (upd_pre r i h (fun q hq => ha q (.tail _ hq)) hb)
theorem updF_at {n : Nat} {l : List (Addr × Obj)} {d : Addr} {o : Obj} (i : Nat) (S : Sep n l) (hx : l[i]? = some (d, o)) (hi : Nat.blt i n = true) : UpdF d o l (fun o' => l.set i (d, o')) :=
  have h := sep_split S (by simpa using hi) hx
  updF_pre l i hx h.1 h.2
theorem upd_at {n : Nat} {l : List (Addr × Obj)} {d : Addr} {o o' : Obj} (i : Nat) (S : Sep n l) (hx : l[i]? = some (d, o)) (hi : Nat.blt i n = true) : Upd d o o' l (l.set i (d, o')) :=
  have h := sep_split S (by simpa using hi) hx
  upd_pre l i hx h.1 h.2
theorem mem_at {l : List (Addr × Obj)} {q : Addr × Obj} (i : Nat) (h : l[i]? = some q) : q ∈ l := List.mem_of_getElem? h
theorem mem_off {l T : List (Addr × Obj)} {q : Addr × Obj} (n : Nat) (h : l.drop n = T) (hq : q ∈ T) : q ∈ l := List.mem_of_mem_drop (h ▸ hq)
theorem mem_in {l T : List (Addr × Obj)} {q : Addr × Obj} (hq : q ∈ T) (h : ∃ n, l.drop n = T) : q ∈ l := let ⟨n, e⟩ := h; mem_off n e hq
section
variable {h₀ h : Heap} {L : Addr} {R : Prop}
theorem let_new {n : Nat} {d : Addr} {o : Obj} {l : List (Addr × Obj)} (N : News h₀ L h ((d, o) :: l)) (hd : ∀ p ∈ l, p.1 < d) (S : Sep n l) (k : let l' := (d, o) :: l; News h₀ L h l' → Sep (n + 1) l' → R) : R := k N (S.new hd)
theorem let_new2 {n : Nat} {d x : Addr} {o o' : Obj} {l : List (Addr × Obj)} (N : News h₀ L h ((x, o') :: (d, o) :: l)) (hd : ∀ p ∈ l, p.1 < d) (hx : @LT.lt Nat _ d x) (S : Sep n l) (k : let l' := (x, o') :: (d, o) :: l; News h₀ L h l' → Sep (n + 2) l' → R) : R :=
  k N ((S.new hd).new (List.forall_mem_cons.mpr ⟨hx, fun p hp => Nat.lt_trans (hd p hp) hx⟩))
theorem let_set {n i : Nat} {d : Addr} {o o' : Obj} {l : List (Addr × Obj)} (N : News h₀ L h (l.set i (d, o'))) (S : Sep n l) (hx : l[i]? = some (d, o)) (k : let l' := l.set i (d, o'); News h₀ L h l' → Sep n l' → R) : R := k N (S.set hx)
theorem let_on {n : Nat} {l : List (Addr × Obj)} (N : News h₀ L h l) (S : Sep n l) (k : let l' := l; News h₀ L h l' → Sep n l' → R) : R := k N S
theorem sep_have {n : Nat} {l : List (Addr × Obj)} (_ : News h₀ L h l) (_ : Sep n l) : True := trivial
theorem sep_ne {n : Nat} {l : List (Addr × Obj)} {a b : Addr} {o o' : Obj} (S : Sep n l) (i j : Nat) (ha : l[i]? = some (a, o)) (hb : l[j]? = some (b, o')) (hi : Nat.blt i n = true) (hj : Nat.beq j i = false) : @Ne Nat b a :=
  S i a o (by simpa using hi) ha j _ (Nat.ne_of_beq_eq_false hj) hb
end

-- nolocal
-- needs: eng state
section
variable {prog : Program} {w : World} {A : Around} {E : Value → Shared → Prop} {s : Shared} {h₀ : Heap} {L : Addr} {m : Str → Option Value} {news : List (Addr × Obj)}
/-- a list of ints is put in order -/
theorem lsort {D : Addr} {vs : List Value} {ns : List Int} {n : Nat} {Q : Value → Shared → Prop} (F : Fr h₀ L s.heap m) (N : News h₀ L s.heap ((D, listOf vs.toArray n) :: news)) (off : ∀ q ∈ news, @Ne Nat q.1 D) (hi : IntsAre vs ns) (h64 : ns.length < 64)
    (h : ∀ vs' ns' c h', Fr h₀ L h' m → News h₀ L h' ((D, listOf vs'.toArray c) :: news) → IntsAre vs' ns' → ns'.Perm ns → ns'.Pairwise (· ≤ ·) → Q .none { s with heap := h' }) :
    wpAny (model prog w) A (call (.builtin "list.sort") [.ref D]) Q E s := by
  have z := N (D, listOf vs.toArray n) (.head _)
  have hlen := IntsAre.length hi
  refine wpAny_call_entry PyProof.Rows.slot_list_sort ⟨_, z.1, rfl⟩ PyProof.Rows.entry_list_sort (list_sort_tree (n := n) (vs := vs) z.1 hi (by omega) fun out ns' hI hp hP => ⟨.none, rfl, ?_⟩) (PyProof.Rows.args_list_sort _)
  have F1 : Fr h₀ L (s.heap.update D (Obj.mapSeq fun _ => (#[] : Array Value))) m := F.change (Heap.SameBut.update ..) z.2.1 z.2.2
  have N1 := ki_turn (pre := []) (fun _ => (#[] : Array Value)) (its' := #[]) N (fun _ h => nomatch h) off rfl rfl
  have N2 := News.grown N1 fun _ _ e => Heap.get?_push_of_some (seqObj "tuple" vs.toArray 0) e
  have N3 := News.grown N2 fun _ _ e => Heap.get?_push_of_some (seqObj "list" #[] 0) e
  have N4 := ki_turn (pre := []) (fun _ => out) (its' := out) N3 (fun _ h => nomatch h) off rfl rfl
  have F4 : Fr h₀ L ((((s.heap.update D (Obj.mapSeq fun _ => (#[] : Array Value))).push (seqObj "tuple" vs.toArray 0)).push (seqObj "list" #[] 0)).update D (Obj.mapSeq fun _ => out)) m :=
    ((F1.push (seqObj "tuple" vs.toArray 0)).push (seqObj "list" #[] 0)).change (Heap.SameBut.update ..) z.2.1 z.2.2
  exact h out.toList ns' _ _ F4 (by rw [Array.toArray_toList]; exact N4) hI hp hP
/-- a dict's int keys in order -/
theorem sorted_dict {d : Addr} {od : Obj} {kvs : List (Int × Value)} {Q : Value → Shared → Prop} (hh : A.handled = none) (F : Fr h₀ L s.heap m) (N : News h₀ L s.heap news) (hm : (d, od) ∈ news) (hd : od.IsDictOf (intKind prog w) kvs) (lo : (d == sysModules) = false) (h64 : kvs.length < 64)
    (h : ∀ (D : Addr) (h' : Heap) (tk : Nat) vs' ns' c, Fr h₀ L h' m → News h₀ L h' ((D, listOf vs'.toArray c) :: news) → (∀ q ∈ news, q.1 < D) → IntsAre vs' ns' → ns'.Perm (kvs.map (·.1)) → ns'.Pairwise (· ≤ ·) → Q (.ref D) { s with heap := h', toks := tk }) :
    wpAny (model prog w) A (call (.builtin "sorted") [.ref d]) Q E s := by
  obtain ⟨ep, ha⟩ := KdkAt.of hd
  refine kdu_sorted (kdl_dict (knd := intKind prog w) (kvs := kvs) (ep := ep) lo) hh F N (ha.dictAt (N _ hm).1) (by rw [sizeLine_eq]; omega) fun D h' tk vs F' N' l1 hl hv => ?_
  have hI : IntsAre vs (kvs.map (·.1)) := by
    clear N' F' l1 ha hm N F h hd h64
    induction kvs generalizing vs with
    | nil => cases vs with
      | nil => exact .nil
      | cons _ _ => cases hl
    | cons p r ih =>
      cases vs with
      | nil => cases hl
      | cons v vs =>
        obtain ⟨k, x, hx, hk⟩ := hv 0 v rfl
        cases hx
        obtain ⟨t, rfl⟩ := Value.isInt_shape hk
        exact .cons k t (ih vs (by simpa using hl) fun j u hu => hv (j + 1) u hu)
  exact lsort F' N' (fun q hq => Nat.ne_of_lt (l1 q hq)) hI (by rw [List.length_map]; exact h64) fun vs' ns' c h'' F'' N'' i1 i2 i3 => h D h'' tk vs' ns' c F'' N'' l1 i1 i2 i3
/-- the last of a list -/
theorem list_last {value slice : PySem.Expr} {l : Addr} {vs : List Value} {n : Nat} {u : Tok} {v : Value} {Q : Value → Shared → Prop} (N : News h₀ L s.heap news) (hm : (l, listOf (vs ++ [v]).toArray n) ∈ news) (hz : vs.length < 100000) (h : Q v s)
    (hs : subscripted slice false (.ref l) (.int (-1) u) = operate [.ref l, .int (-1) u] (getItem (.ref l) (.int (-1) u)) := by with_unfolding_all rfl) :
    wpAny (model prog w) A (subscriptTail value slice (.ref l) (.int (-1) u)) Q E s := by
  have hl : s.heap.IsList l (vs ++ [v]).toArray := ⟨_, (N _ hm).1, rfl, _, rfl⟩
  refine tail_any hl.typeIs slot_list_getitem.lookup (wpAny_getItem_list_neg hl (by decide) (by simp only [List.size_toArray, List.length_append, List.length_singleton]; omega) (by decide) ?_ h) hs
  have e : (-1 + ((vs ++ [v]).toArray.size : Int)).toNat = vs.length := by simp only [List.size_toArray, List.length_append, List.length_singleton]; omega
  rw [e]
  simp
theorem set_last {l : Addr} {vs : List Value} {n : Nat} {u : Tok} {v y : Value} {gg : Obj → List (Addr × Obj)} {Q : Unit → Shared → Prop} (F : Fr h₀ L s.heap m) (N : News h₀ L s.heap news) (U : UpdF l (listOf (vs ++ [v]).toArray n) news gg)
    (h : ∀ h' c, Fr h₀ L h' m → News h₀ L h' (gg (listOf (vs ++ [y]).toArray c)) → Q () { s with heap := h' }) : wpAny (model prog w) A (setItem (.ref l) (.int (-1) u) y) Q E s := by
  obtain ⟨pre, post, rfl, hgg, a, b⟩ := U.split
  have hm := N (l, _) (List.mem_append_right _ (.head _))
  refine ki_setBack hm.1 (by decide) (by simp only [List.size_toArray, List.length_append, List.length_singleton]; omega) (by decide) ?_
  refine h _ n (F.change (Heap.SameBut.update ..) hm.2.1 hm.2.2) ?_
  rw [hgg]
  refine ki_turn _ N a b ?_ ?_
  · have e : (-1 + ((vs ++ [v]).toArray.size : Int)).toNat = vs.length := by simp only [List.size_toArray, List.length_append, List.length_singleton]; omega
    rw [e]
    simp
  · simp
end

-- needs: merge
section
variable {prog : Program} {w : World} {A : Around} {E : Value → Shared → Prop} {s : Shared} {h₀ : Heap} {L : Addr} {m mg mb : Str → Option Value}
  {p : Program} {loose : List Str} {mean : ExcName → Option Value} {Q : Value → Shared → Prop} {rest : List (Addr × Obj)}
theorem words_recv_1 : True := by
  k_with_none
  k_with "k_enter" => (refine' code_defM ?k1ₓ ?k2ₓ ?k3ₓ ?k5ₓ ?k6ₓ ?k7ₓ ?k8ₓ ?k9ₓ ?kBₓ ?_ ?c2ₓ ?c3ₓ ?c4ₓ ?c5ₓ; (case k1ₓ => k_asm); (case k2ₓ => k_asm); (case k3ₓ => k_asm); (case k5ₓ => k_asm); (case k6ₓ => k_is); (case k7ₓ => k_is); (case k8ₓ => exact Nat.le_of_ble_eq_true rfl); (case k9ₓ => exact rfl); (case c5ₓ => decide); (case kBₓ => exact locs rfl); (case c2ₓ => exact rfl); (case c3ₓ => exact rfl); (case c4ₓ => exact rfl); k_whole; intro g'ₓ L'ₓ h'ₓ FG'ₓ F'ₓ N'ₓ X'ₓ T'ₓ; (try dsimp only [List.map, List.zip, List.zipWith] at F'ₓ); (try dsimp only); (try k_fold))
  k_with "k_mem" => first | with_reducible assumption | with_reducible exact List.mem_cons_self | (with_reducible apply List.mem_cons_of_mem; k_mem)
  k_with "k_all" => first | assumption | exact allLt_off (by assumption)
  k_with "size_fits" => first | assumption | (simp only [Array.size_push, List.size_toArray, List.length_append, List.length_cons, List.length_nil, vz_length, PySem.sizeLine_eq]; omega)
  k_with "binaryOp Add ref ref" => (k_here; (with_reducible show wpAny _ _ (binaryOp _ (Value.ref _) (Value.ref _)) _ _ _); k_dflt (refine' addL ?Fₓ ?Nₓ ?aₓ ?bₓ ?zₓ ?_; (case Fₓ => k_asm); (case Nₓ => k_asm); (case aₓ => k_mem); (case bₓ => k_mem); (case zₓ => (simp only [List.length_cons, List.length_nil, vz_length, sizeLine_eq]; omega))); intro D'ₓ h'ₓ F'ₓ N'ₓ l1ₓ; (try k_lt l1ₓ); (try k_sweep))
  k_with "k_sub" => ((try simp only [List.cons_append, List.nil_append]); (repeat ((with_reducible refine List.forall_mem_cons.mpr ⟨?_, ?_⟩); (next => (first | ((repeat (first | with_reducible exact List.mem_cons_self | with_reducible apply List.mem_cons_of_mem)); done) | (repeat (first | exact List.mem_cons_self | apply List.mem_cons_of_mem)))))); intro qₓ hqₓ; first | with_reducible exact absurd hqₓ List.not_mem_nil | (repeat (first | with_reducible exact hqₓ | with_reducible exact List.mem_append_left _ hqₓ | with_reducible exact List.mem_append_right _ hqₓ | with_reducible apply List.mem_cons_of_mem)))
  k_with "SrcLP" => (k_here; k_dflt (refine LCp.SrcLP.ledger (by rfl) (by k_asm) (by k_asm) (by k_mem) (by size_fits) ?_); intro g'ₓ; refine Halt.out ?_)
  k_with "CompSrc" => (k_here; k_dflt (refine LCg.CompSrc.ledger (by rfl) (by k_asm) (by k_asm) (by k_mem) (by size_fits) ?_); intro g'ₓ; refine Halt.out ?_)
  k_with "CompSrcT" => (k_here; k_dflt (refine LCt.CompSrcT.ledger (by rfl) (by k_asm) (by k_asm) (by k_mem) (by size_fits) ?_); intro g'ₓ; refine Halt.out ?_)
  k_with "CompEnd" => (refine Halt.out ?_)
  k_with "lsm_bools" => assumption
  k_with "eval Name" => (k_here; k_dflt (refine' nameX_L ?Fₓ ?vₓ ?_ ?aₓ ?bₓ; (case Fₓ => k_asm); (case aₓ => rfl); (case bₓ => rfl); (case vₓ => first | exact rfl | assumption); k_whole))
  k_with "eval Name" => (k_here; (with_reducible show wpAny _ _ (eval (Expr.Name _ _) (envOf _ _ _ _ _)) _ _ _); k_dflt (refine' ld ?k1ₓ ?k2ₓ ?_; (case k1ₓ => k_asm); (case k2ₓ => first | exact rfl | assumption); k_whole))
  k_with "k_ne" => (first | assumption | (apply Ne.symm; assumption) | exact Nat.ne_of_lt (by assumption) | exact Nat.ne_of_gt (by assumption))
  k_with "call builtin:len" => (k_here; (with_reducible show wpAny _ _ (call (Value.builtin "len") [Value.ref _]) _ _ _); k_dflt (refine' lenL ?Nₓ ?aₓ ?zₓ ?_; (case Nₓ => k_asm); (case aₓ => k_mem); (case zₓ => (simp only [vz_length]; omega))); (try simp only [vz_length]))
  k_with "setItem ref int" => (k_here; k_dflt (refine' kda_set (knd := PySem.intKind _ _) ?Fₓ ?Nₓ ?Uₓ ?dₓ (intKind_is _ _ _ _) ?zₓ ?_; (case Fₓ => k_asm); (case Nₓ => k_asm); (case Uₓ => k_updF); (case dₓ => assumption); (case zₓ => assumption)); intro h'ₓ o'ₓ F'ₓ N'ₓ hd'ₓ; (try k_sweep))
  k_with "call ref" => (k_here; (with_reducible show wpAny _ _ (call (Value.ref 238) _) _ _ _); k_dflt (refine' to_AL rfl ?dₓ ?uₓ (draw_at ?Fₓ ?Nₓ ?Xₓ ?Tₓ ?Uₓ ?oₓ ?hPₓ ?hSₓ ?hiₓ ?hlₓ ?psₓ ?hmₓ ?_); (case dₓ => exact Nat.le_of_ble_eq_true rfl); (case uₓ => exact Nat.le_of_ble_eq_true rfl); (case Fₓ => k_asm); (case Nₓ => k_asm); (case Xₓ => k_asm); (case Tₓ => k_asm); (case Uₓ => k_updF); (case oₓ => assumption); (case hPₓ => k_mem); (case hSₓ => k_mem); (case hiₓ => assumption); (case hlₓ => assumption); (case psₓ => k_ne); (case hmₓ => first | decide | assumption)); intro v'ₓ t'ₓ o'ₓ h'ₓ tk'ₓ hv0'ₓ hv1'ₓ oP'ₓ F'ₓ N'ₓ; (try dsimp only at N'ₓ); (try k_sweep))
  k_with "call ref" => (k_here; (with_reducible show wpAny _ _ (call (Value.ref 53) _) _ _ _); k_dflt (refine' to_AL rfl ?dₓ ?uₓ (add_at ?Fₓ ?Nₓ ?Xₓ ?Tₓ ?hLₓ ?hzₓ ?hlenₓ ?_); (case dₓ => exact Nat.le_of_ble_eq_true rfl); (case uₓ => exact Nat.le_of_ble_eq_true rfl); (case Fₓ => k_asm); (case Nₓ => k_asm); (case Xₓ => k_asm); (case Tₓ => k_asm); (case hLₓ => k_mem); (case hzₓ => k_sub); (case hlenₓ => first | assumption | omega)); intro RL' z' rs' k' h' tk' F' N' n1' n2' n3' er' es' el'; (repeat (replace n1' := List.forall_mem_cons.mp n1'; (have hn' := And.left n1'); replace n1' := And.right n1'; try dsimp only at hn')); (repeat (replace n2' := List.forall_mem_cons.mp n2'; (have hn' := And.left n2'); replace n2' := And.right n2'; try dsimp only at hn')); (try dsimp only at n3'); (try k_sweep))
  k_with "call ref" => (k_here; (with_reducible show wpAny _ _ (call (Value.ref 58) _) _ _ _); k_dflt (refine' to_AL rfl ?dₓ ?uₓ (has_at ?Fₓ ?Nₓ ?Xₓ ?Tₓ ?hLₓ ?hzₓ ?hlenₓ ?_); (case dₓ => exact Nat.le_of_ble_eq_true rfl); (case uₓ => exact Nat.le_of_ble_eq_true rfl); (case Fₓ => k_asm); (case Nₓ => k_asm); (case Xₓ => k_asm); (case Tₓ => k_asm); (case hLₓ => k_mem); (case hzₓ => k_sub); (case hlenₓ => first | assumption | omega)); intro h'ₓ tk'ₓ F'ₓ N'ₓ; (try k_sweep))
  k_with "eval BoolOp" => ((have hst'ₓ : Stop := by assumption); clear hst'ₓ; refine Halt.out ?_)
  k_with "eval IfExp" => ((have hst'ₓ : Stop := by assumption); clear hst'ₓ; refine Halt.out ?_)
  k_with "exec If" => ((have hst'ₓ : Stop := by assumption); clear hst'ₓ; (with_reducible show wpAny _ _ (exec (Stmt.If (Expr.Compare (Expr.Name (Str.ofString "mark") _) _ _ _) _ _ _) _) _ _ _); refine Halt.out ?_)
  k_with "exec If" => ((have hst'ₓ : Stop := by assumption); clear hst'ₓ; (with_reducible show wpAny _ _ (exec (Stmt.If (Expr.BoolOp _ _ _) _ _ _) _) _ _ _); refine Halt.out ?_)
  trivial
theorem recv_at {X XD EC RL : Addr} {kR kE : Nat} {kx : Nat → Tok} {e0 e1 e2 n now mark un : Int} {t0 t1 t2 tn tw tm tu tnm : Tok} {wants wn : Bool} {nm : Str}
   {vNext vSent vLA vAK vLET vLT vLS vLTm vFU vHN vGone : Value} {zs : List RZ} {ls lt fu : Option Int}
    (F : Fr h₀ L s.heap m) (X₀ : (heap w.params).In h₀) (T : Top p loose mean mg mb h₀)
    (N : News h₀ L s.heap (([(X, instObj 220 XD), (XD, xdO w kx (.str nm tnm) vNext vSent vLA vAK vLET vLT (.ref RL) vLS vLTm vFU (.int un tu) (.bool wn) vHN (.ref EC) vGone), (EC, listOf #[.int e0 t0, .int e1 t1, .int e2 t2] kE), (RL, listOf (vz zs).toArray kR)] ++ tz zs) ++ rest))
    (hLS : OI vLS ls) (hLT : OI vLTm lt) (hFU : OI vFU fu) (hm0 : 0 ≤ mark) (hm3 : mark ≤ 3) (hzl : zs.length ≤ 31)
    (off1 : ∀ q ∈ rest, @Ne Nat q.1 XD) (off2 : ∀ q ∈ rest, @Ne Nat q.1 EC) (d5 : @Ne Nat EC RL)
    (h : ∀ (RL' : Addr) (rs : List RZ) kR' e0' e1' e2' t0' t1' t2' kE' vLS' vLTm' vFU' un' tu' wn' vHN' h' tk', rz rs = addR (rz zs) n → rs.length ≤ zs.length + 1 → (e0', e1', e2') = bump mark e0 e1 e2 →
      OI vLS' (seenOf ls n) → OI vLTm' (timeOf ls lt n now) → OI vFU' (if wants then some (fu.getD now) else fu) → un' = (if wants then un + 1 else un) →
      wn' = (wn || (wants && (gapOf ls n || decide (un + 1 ≥ 2) || nm != Str.ofString "application" || mark == 3))) → Fr h₀ L h' m →
      News h₀ L h' (([(RL', listOf (vz rs).toArray kR'), (X, instObj 220 XD), (XD, xdO w kx (.str nm tnm) vNext vSent vLA vAK vLET vLT (.ref RL') vLS' vLTm' vFU' (.int un' tu') (.bool wn') vHN' (.ref EC) vGone), (EC, listOf #[.int e0' t0', .int e1' t1', .int e2' t2'] kE')] ++ (tz rs ++ tz zs)) ++ rest) →
      (∀ q ∈ rest, @Ne Nat q.1 RL') → @Ne Nat EC RL' → Q .none { s with heap := h', toks := tk' }) :
    wpAny (model prog w) (AL 340) (call (.ref 125) [.ref X, .int n tn, .int now tw, .bool wants, .int mark tm]) Q (fun _ _ => False) s := by
  have d1 : @Ne Nat X XD := ne_cls N (by k_mem) (by k_mem) (by rfl)
  have d2 : @Ne Nat X EC := ne_cls N (by k_mem) (by k_mem) (by rfl)
  have d3 : @Ne Nat XD EC := ne_cls N (by k_mem) (by k_mem) (by rfl)
  have d4 : @Ne Nat XD RL := ne_cls N (by k_mem) (by k_mem) (by rfl)
  have dx : ∀ q ∈ tz zs, @Ne Nat q.1 XD := by
    intro q hq
    obtain ⟨z, hz, rfl⟩ := List.mem_map.mp hq
    exact ne_cls N (List.mem_append_left _ (List.mem_append_right _ hq)) (o' := xdO w kx (.str nm tnm) vNext vSent vLA vAK vLET vLT (.ref RL) vLS vLTm vFU (.int un tu) (.bool wn) vHN (.ref EC) vGone) (by k_mem) (by rfl)
  have de : ∀ q ∈ tz zs, @Ne Nat q.1 EC := by
    intro q hq
    obtain ⟨z, hz, rfl⟩ := List.mem_map.mp hq
    exact ne_cls N (List.mem_append_left _ (List.mem_append_right _ hq)) (o' := listOf #[.int e0 t0, .int e1 t1, .int e2 t2] kE) (by k_mem) (by rfl)
  refine enter (binds := [(Str.ofString "self", .ref X), (Str.ofString "number", .int n tn), (Str.ofString "now", .int now tw), (Str.ofString "has_eliciting", .bool wants), (Str.ofString "mark", .int mark tm)]) F N X₀ T (fun q hq => List.mem_append_left _ hq) (by k_dflt k_is) (by k_dflt k_is) (by decide) (BindsTo.of_eq rfl) (locs rfl) ?_ rfl rfl rfl (by decide)
  intro g L' h₁ tk hg F' N' X' T'
  have fin : ∀ (RL' : Addr) (z : RZ) (rs : List RZ) kR' e0' e1' e2' t0' t1' t2' kE' vLS' vLTm' vFU' un' tu' wn' vHN' h' tk' m', rz rs = addR (rz zs) n → rs.length ≤ zs.length + 1 → (∀ y ∈ rs, y ∈ zs ∨ y = z) → (e0', e1', e2') = bump mark e0 e1 e2 →
      OI vLS' (seenOf ls n) → OI vLTm' (timeOf ls lt n now) → OI vFU' (if wants then some (fu.getD now) else fu) → un' = (if wants then un + 1 else un) →
      wn' = (wn || (wants && (gapOf ls n || decide (un + 1 ≥ 2) || nm != Str.ofString "application" || mark == 3))) → Fr g L' h' m' →
      News g L' h' ([(RL', listOf (vz rs).toArray kR'), (z.a, z.obj), (X, instObj 220 XD), (XD, xdO w kx (.str nm tnm) vNext vSent vLA vAK vLET vLT (.ref RL') vLS' vLTm' vFU' (.int un' tu') (.bool wn') vHN' (.ref EC) vGone), (EC, listOf #[.int e0' t0', .int e1' t1', .int e2' t2'] kE'), (RL, listOf (vz zs).toArray kR)] ++ tz zs) →
      @Ne Nat X RL' → @Ne Nat XD RL' → @Ne Nat EC RL' → @Ne Nat RL RL' → (∀ q ∈ tz zs, @Ne Nat q.1 RL') → Q .none { s with heap := h', toks := tk' } := by
    intro RL' z rs kR' e0' e1' e2' t0' t1' t2' kE' vLS' vLTm' vFU' un' tu' wn' vHN' h' tk' m' a1 a2 a3 a4 a5 a6 a7 a8 a9 F' N' n1 n2 n3 n4 n5
    have hoff := backFr N hg N' (.head _) (fun q hq => by
      simp only [List.cons_append, List.nil_append, List.mem_cons] at hq
      rcases hq with rfl | rfl | rfl | rfl | hq
      · exact n1
      · exact n2
      · exact n3
      · exact n4
      · exact n5 q hq)
    refine h RL' rs kR' e0' e1' e2' t0' t1' t2' kE' vLS' vLTm' vFU' un' tu' wn' vHN' h' tk' a1 a2 a4 a5 a6 a7 a8 a9 (backF F N (fun q hq => List.mem_append_left _ hq) hg F') ?_ (fun q hq => hoff q (List.mem_append_right _ hq)) n3
    refine newsSub (backG (U := [XD, EC]) F N hg F' N' ?_ ?_) ?_
    · intro q hq
      simp only [List.cons_append, List.nil_append, List.mem_cons] at hq ⊢
      rcases hq with rfl | rfl | rfl | rfl | hq
      · exact .inl (.inr (.inr (.inl rfl)))
      · exact .inr (.inl rfl)
      · exact .inr (.inr (.inl rfl))
      · exact .inl (.inr (.inr (.inr (.inr (.inr (.inl rfl))))))
      · exact .inl (.inr (.inr (.inr (.inr (.inr (.inr hq))))))
    · intro q hq hm
      rcases List.mem_cons.mp hm with hm | hm
      · exact off1 q hq hm
      · exact off2 q hq (List.mem_singleton.mp hm)
    · intro q hq
      rcases List.mem_append.mp hq with hq | hq
      · refine List.mem_append_left _ ?_
        rcases List.mem_append.mp hq with hq | hq
        · rcases List.mem_cons.mp hq with rfl | hq
          · exact .head _
          rcases List.mem_cons.mp hq with rfl | hq
          · exact .tail _ (.tail _ (.head _))
          rcases List.mem_cons.mp hq with rfl | hq
          · exact .tail _ (.tail _ (.tail _ (.head _)))
          rcases List.mem_cons.mp hq with rfl | hq
          · exact .tail _ (.tail _ (.tail _ (.tail _ (.head _))))
          · cases hq
        · rcases List.mem_append.mp hq with hq | hq
          · obtain ⟨y, hy, rfl⟩ := List.mem_map.mp hq
            rcases a3 y hy with hy | rfl
            · exact List.mem_append_right _ (tz_mem hy)
            · exact .tail _ (.head _)
          · exact List.mem_append_right _ hq
      · exact List.mem_append_right _ hq
  clear N X₀ T F hg h off1 off2
  (try dsimp only)
  (try simp only [List.cons_append, List.nil_append] at N' fin)
  have st : Stop := ⟨⟩
  k_unmd
  k_fold
  k_steps
  refine Halt.mk (mergeB (gapOf ls n) (by assumption) (by assumption) ?g1 ?g2)
  case g1 =>
    clear st fin
    cases ls with
    | none =>
      cases hLS
      k_steps
      exact MidB.intro (by assumption) (by assumption) (fun _ h => h) rfl
    | some l =>
      obtain ⟨tl, rfl⟩ := hLS
      k_steps
      exact MidB.intro (by assumption) (by assumption) (fun _ h => h) rfl
  case g2 =>
    clear F' N'
    intro h₂ tk₂ F₂ N₂
    try dsimp only
    k_steps
    refine Halt.mk (mergeL (fun nw => ∃ e0' e1' e2' t0' t1' t2' kE', nw = [(RL', listOf (vz rs').toArray k'), (z'.a, z'.obj), (X, instObj 220 XD), (XD, xdO w kx (.str nm tnm) vNext vSent vLA vAK vLET vLT (.ref RL') vLS vLTm vFU (.int un tu) (.bool wn) vHN (.ref EC) vGone),
        (EC, listOf #[.int e0' t0', .int e1' t1', .int e2' t2'] kE'), (RL, listOf (vz zs).toArray kR)] ++ tz zs ∧ (e0', e1', e2') = bump mark e0 e1 e2) (by assumption) (by assumption) ?g1 ?g2)
    case g1 =>
      clear st fin
      have hm : mark = 0 ∨ mark = 1 ∨ mark = 2 ∨ mark = 3 := by omega
      rcases hm with rfl | rfl | rfl | rfl
      all_goals k_steps
      · exact MidS.intro _ (by assumption) (by assumption) (fun _ h => h) ⟨rfl, e0, e1, e2, _, _, _, _, rfl, rfl⟩
      · exact MidS.intro _ (by assumption) (by assumption) (fun _ h => h) ⟨rfl, e0, e1 + 1, e2, _, _, _, _, rfl, rfl⟩
      · exact MidS.intro _ (by assumption) (by assumption) (fun _ h => h) ⟨rfl, e0 + 1, e1, e2, _, _, _, _, rfl, rfl⟩
      · exact MidS.intro _ (by assumption) (by assumption) (fun _ h => h) ⟨rfl, e0, e1, e2 + 1, _, _, _, _, rfl, rfl⟩
    case g2 =>
      clear hm0 hm3
      intro h₃ tk₃ nw F₃ N₃ hJ
      obtain ⟨e0', e1', e2', t0', t1', t2', kE', rfl, hb⟩ := hJ
      try dsimp only
      simp only [List.cons_append, List.nil_append] at N₃
      k_steps
      refine Halt.mk (mergeL (fun nw => ∃ vLS' vLTm', nw = [(RL', listOf (vz rs').toArray k'), (z'.a, z'.obj), (X, instObj 220 XD), (XD, xdO w kx (.str nm tnm) vNext vSent vLA vAK vLET vLT (.ref RL') vLS' vLTm' vFU (.int un tu) (.bool wn) vHN (.ref EC) vGone),
        (EC, listOf #[.int e0' t0', .int e1' t1', .int e2' t2'] kE'), (RL, listOf (vz zs).toArray kR)] ++ tz zs ∧ OI vLS' (seenOf ls n) ∧ OI vLTm' (timeOf ls lt n now)) (by assumption) (by assumption) ?g1 ?g2)
      case g1 =>
        clear st fin
        cases ls with
        | none =>
          cases hLS
          k_steps
          refine' MidS.intro _ (by assumption) (by assumption) ?hs ⟨rfl, _, _, rfl, ⟨_, rfl⟩, ⟨_, rfl⟩⟩
          case hs => k_sub
        | some l =>
          obtain ⟨tl, rfl⟩ := hLS
          by_cases hnl : n > l
          · k_steps
            simp only [seenOf, timeOf, if_pos hnl]
            refine' MidS.intro _ (by assumption) (by assumption) ?hs ⟨rfl, _, _, rfl, ⟨_, rfl⟩, ⟨_, rfl⟩⟩
            case hs => k_sub
          · k_steps
            simp only [seenOf, timeOf, if_neg hnl]
            refine' MidS.intro _ (by assumption) (by assumption) ?hs ⟨rfl, _, _, rfl, ⟨_, rfl⟩, hLT⟩
            case hs => k_sub
      case g2 =>
        clear F₃ N₃ hLS hLT
        intro h₄ tk₄ nw F₄ N₄ hJ
        obtain ⟨vLS', vLTm', rfl, hLS', hLT'⟩ := hJ
        try dsimp only
        simp only [List.cons_append, List.nil_append] at N₄
        cases wants with
        | false =>
          clear st
          k_steps
          exact fin RL' z' rs' k' e0' e1' e2' _ _ _ _ _ _ _ _ _ _ _ _ _ _ er' el' es' hb hLS' hLT' hFU rfl (Bool.or_false _).symm (by assumption) (newsSub (by assumption) (by k_sub)) (by assumption) (by assumption) (by assumption) (by assumption) (by assumption)
        | true =>
          k_steps
          refine Halt.mk (mergeV (fun v => OI v (some (fu.getD now))) (by assumption) (by assumption) ?g1 ?g2)
          case g1 =>
            clear st fin
            cases fu with
            | none =>
              cases hFU
              k_steps
              exact MidV.intro (by assumption) (by assumption) (fun _ h => h) ⟨_, rfl⟩
            | some f =>
              obtain ⟨tl, rfl⟩ := hFU
              k_steps
              exact MidV.intro (by assumption) (by assumption) (fun _ h => h) ⟨_, rfl⟩
          case g2 =>
            intro vF h₅ tk₅ hvF F₅ N₅
            try dsimp only
            clear st
            k_steps
            all_goals refine fin RL' z' rs' k' e0' e1' e2' _ _ _ _ _ _ _ _ _ _ _ _ _ _ er' el' es' hb hLS' hLT' hvF rfl ?_ (by assumption) (newsSub (by assumption) (by k_sub)) (by assumption) (by assumption) (by assumption) (by assumption) (by assumption)
            all_goals clear fin
            all_goals first
              | (simp [show gapOf ls n = true by assumption]; done)
              | (simp [show (2 : Int) ≤ un + 1 by assumption]; done)
              | (simp [show (nm != Str.ofString "application") = true by assumption]; done)
              | (simp [show mark = 3 by assumption]; done)
              | (simp [show gapOf ls n = false by assumption, show ¬ (2 : Int) ≤ un + 1 by assumption, show (nm != Str.ofString "application") = false by assumption, show mark ≠ 3 by assumption]; done)
end

-- nolocal
-- needs: draw state merge
/-! all that the law and its space hold between two turns -/
set_option genInjectivity false in
set_option genSizeOfSpec false in
structure Led where
  (P S X XD EC RL SD OD SE MA OO : Addr)
  (oP oSD oOD oOO : Obj)
  (vs ses mas : List Value)
  (ns sns mns : List Int)
  (nS kS kM kE kR : Nat)
  kx : Nat → Tok
  (te0 te1 te2 tnm tnm2 tun task thi thiA tnx tnx2 tnow : Tok)
  zs : List RZ
  os : List OZ
  (e0 e1 e2 un hi hiA nx now : Int)
  wn : Bool
  nm : Str
  (ls lt fu top last : Option Int)
  (vLA vAK vLET vLT vLS vLTm vFU vHN vGone vSince vTop vLast : Value)

namespace Led
noncomputable abbrev xd (w : World) (D : Led) : Obj := xdO w D.kx (.str D.nm D.tnm) (.int D.nx D.tnx) (.ref D.SD) D.vLA D.vAK D.vLET D.vLT (.ref D.RL) D.vLS D.vLTm D.vFU (.int D.un D.tun) (.bool D.wn) D.vHN (.ref D.EC) D.vGone
noncomputable abbrev ec (D : Led) : Obj := listOf #[.int D.e0 D.te0, .int D.e1 D.te1, .int D.e2 D.te2] D.kE
noncomputable abbrev odk (D : Led) : List (Str × Value) := odK (.str D.nm D.tnm2) (.ref D.SE) (.ref D.MA) (.int D.hi D.thi) (.int D.hiA D.thiA) D.vSince (.int D.un D.task) (.bool D.wn) (.ref D.OO) (.int D.nx D.tnx2) D.vTop D.vLast (.int D.now D.tnow)
/-- the part that packets which come turn -/
noncomputable abbrev fst (w : World) (D : Led) : List (Addr × Obj) := (D.P, D.oP) :: (D.S, listOf D.vs.toArray D.nS) :: (D.X, instObj 220 D.XD) :: (D.XD, D.xd w) :: (D.OD, D.oOD) :: (D.EC, D.ec) :: (D.RL, listOf (vz D.zs).toArray D.kR) :: (D.SE, listOf D.ses.toArray D.kS) :: (D.MA, listOf D.mas.toArray D.kM) :: tz D.zs
/-- the part that packets which go turn -/
noncomputable abbrev snd (w : World) (D : Led) : List (Addr × Obj) := (D.SD, D.oSD) :: (D.OO, D.oOO) :: (pz D.os ++ (qz w D.os ++ wz D.os))
end Led

noncomputable def covR (rs : List (Int × Int)) (x : Int) : Prop := ∃ r ∈ rs, r.1 ≤ x ∧ x ≤ r.2
noncomputable def CanonR (rs : List (Int × Int)) : Prop := rs.Pairwise (fun a b => b.2 + 1 < a.1) ∧ ∀ r ∈ rs, r.1 ≤ r.2
noncomputable def countI (l : List Int) (x : Int) : Int := ((l.filter fun y => y == x).length : Nat)

structure Led.Ok (prog : Program) (w : World) (k : Nat) (D : Led) : Prop where
  pool : PoolO D.S D.oP
  iv : IntsAre D.vs D.ns
  ln : D.ns.length ≤ 63
  is : IntsAre D.ses D.sns
  im : IntsAre D.mas D.mns
  od : D.oOD.IsDictOf (strKind prog w) D.odk
  sd : D.oSD.IsDictOf (intKind prog w) (sentK D.os)
  oo : D.oOO.IsDictOf (intKind prog w) (outK D.os)
  lod : (D.OD == sysModules) = false
  lsd : (D.SD == sysModules) = false
  loo : (D.OO == sysModules) = false
  nm : D.nm = Str.ofString "application" ∨ D.nm = Str.ofString "initial"
  xLA : OI D.vLA D.top
  xTop : OI D.vTop D.top
  xLET : OI D.vLET D.last
  xLast : OI D.vLast D.last
  xLS : OI D.vLS D.ls
  xLT : OI D.vLTm D.lt
  xFU : OI D.vFU D.fu
  xSi : OI D.vSince D.fu
  els : D.ls = if D.sns = [] then none else some D.hi
  elt : D.lt = if D.sns = [] then none else some D.hiA
  ltn : D.hiA ≤ D.now
  e0 : D.e0 = countI D.mns 2
  e1 : D.e1 = countI D.mns 1
  e2 : D.e2 = countI D.mns 3
  lm : D.mns.length = D.sns.length
  lk : D.sns.length ≤ k
  lz : D.zs.length ≤ D.sns.length
  nd : D.sns.Nodup
  can : CanonR (rz D.zs)
  cov : ∀ x, covR (rz D.zs) x ↔ x ∈ D.sns
  nx0 : 0 ≤ D.nx
  nxk : D.nx ≤ k
  lo : D.os.length ≤ k
  on : ∀ o ∈ D.os, o.n < D.nx
  tp : ∀ t, D.top = some t → t ≤ k + 1
  -- lists lie apart
  p1 : @Ne Nat D.P D.S
  p2 : @Ne Nat D.P D.EC
  p3 : @Ne Nat D.P D.RL
  p4 : @Ne Nat D.P D.SE
  p5 : @Ne Nat D.P D.MA
  q1 : @Ne Nat D.EC D.S
  q2 : @Ne Nat D.EC D.RL
  q3 : @Ne Nat D.EC D.SE
  q4 : @Ne Nat D.EC D.MA
  r1 : @Ne Nat D.SE D.S
  r2 : @Ne Nat D.SE D.RL
  r3 : @Ne Nat D.SE D.MA
  s1 : @Ne Nat D.MA D.S
  s2 : @Ne Nat D.MA D.RL
  -- dicts lie apart
  u1 : @Ne Nat D.XD D.OD
  u2 : @Ne Nat D.XD D.SD
  u3 : @Ne Nat D.XD D.OO
  u4 : @Ne Nat D.OD D.SD
  u5 : @Ne Nat D.OD D.OO
  u6 : @Ne Nat D.SD D.OO
  v1 : ∀ q ∈ qz w D.os, @Ne Nat q.1 D.XD
  v2 : ∀ q ∈ qz w D.os, @Ne Nat q.1 D.OD
  v3 : ∀ q ∈ qz w D.os, @Ne Nat q.1 D.SD
  v4 : ∀ q ∈ qz w D.os, @Ne Nat q.1 D.OO

theorem tag_dict {prog : Program} {w : World} {K : Type} [DecidableEq K] {knd : KeyKind prog w K} {o : Obj} {kvs : List (K × Value)} (h : o.IsDictOf knd kvs) : tagO o = 2 := by
  obtain ⟨es, ep, hx, _⟩ := h
  unfold tagO
  rw [hx.1]
  rfl
theorem tag_pool {S : Addr} {o : Obj} (h : PoolO S o) : tagO o = 1 := by
  obtain ⟨_, _, _, _, _, rfl, _⟩ := h
  rfl
theorem tag_tz {zs : List RZ} {q : Addr × Obj} (h : q ∈ tz zs) : tagO q.2 = 3 := by
  obtain ⟨z, _, rfl⟩ := List.mem_map.mp h
  rfl
theorem tag_pz {os : List OZ} {q : Addr × Obj} (h : q ∈ pz os) : tagO q.2 = 103 := by
  obtain ⟨z, _, rfl⟩ := List.mem_map.mp h
  rfl
theorem tag_qz {w : World} {os : List OZ} {q : Addr × Obj} (h : q ∈ qz w os) : tagO q.2 = 2 := by
  obtain ⟨z, _, rfl⟩ := List.mem_map.mp h
  rfl
theorem tag_wz {os : List OZ} {q : Addr × Obj} (h : q ∈ wz os) : tagO q.2 = 3 := by
  obtain ⟨z, _, rfl⟩ := List.mem_map.mp h
  rfl
section
variable {h₀ h : Heap} {L : Addr} {news : List (Addr × Obj)}
theorem ne_tag {a b : Addr} {o o' : Obj} {i j : Nat} (N : News h₀ L h news) (ha : (a, o) ∈ news) (hb : (b, o') ∈ news) (hi : tagO o = i) (hj : tagO o' = j) (hne : i ≠ j) : @Ne Nat a b :=
  ne_obj N ha hb fun e => hne (by rw [← hi, ← hj, e])
end
/-- what the first part's walk must know to lie apart -/
structure Dis (P S X XD OD EC RL SE MA : Addr) (T : List (Addr × Obj)) : Prop where
  a1 : @Ne Nat P S
  a2 : @Ne Nat P X
  a3 : @Ne Nat P XD
  a4 : @Ne Nat P OD
  a5 : @Ne Nat P EC
  a6 : @Ne Nat P RL
  a7 : @Ne Nat P SE
  a8 : @Ne Nat P MA
  b1 : @Ne Nat XD S
  b2 : @Ne Nat XD X
  b3 : @Ne Nat XD OD
  b4 : @Ne Nat XD EC
  b5 : @Ne Nat XD RL
  b6 : @Ne Nat XD SE
  b7 : @Ne Nat XD MA
  c1 : @Ne Nat OD S
  c2 : @Ne Nat OD X
  c3 : @Ne Nat OD EC
  c4 : @Ne Nat OD RL
  c5 : @Ne Nat OD SE
  c6 : @Ne Nat OD MA
  d1 : @Ne Nat EC S
  d2 : @Ne Nat EC X
  d3 : @Ne Nat EC RL
  d4 : @Ne Nat EC SE
  d5 : @Ne Nat EC MA
  f1 : @Ne Nat SE S
  f2 : @Ne Nat SE X
  f3 : @Ne Nat SE RL
  f4 : @Ne Nat SE MA
  g1 : @Ne Nat MA S
  g2 : @Ne Nat MA X
  g3 : @Ne Nat MA RL
  tP : ∀ q ∈ T, @Ne Nat q.1 P
  tXD : ∀ q ∈ T, @Ne Nat q.1 XD
  tOD : ∀ q ∈ T, @Ne Nat q.1 OD
  tEC : ∀ q ∈ T, @Ne Nat q.1 EC
  tSE : ∀ q ∈ T, @Ne Nat q.1 SE
  tMA : ∀ q ∈ T, @Ne Nat q.1 MA
section
variable {prog : Program} {w : World} {h₀ h : Heap} {L : Addr} {k : Nat} {rest : List (Addr × Obj)}
theorem Led.Ok.dis {D : Led} (O : D.Ok prog w k) (N : News h₀ L h (D.fst w ++ rest)) : Dis D.P D.S D.X D.XD D.OD D.EC D.RL D.SE D.MA (tz D.zs) := by
  have m1 : (D.P, D.oP) ∈ D.fst w ++ rest := .head _
  have m2 : (D.S, listOf D.vs.toArray D.nS) ∈ D.fst w ++ rest := .tail _ (.head _)
  have m3 : (D.X, instObj 220 D.XD) ∈ D.fst w ++ rest := .tail _ (.tail _ (.head _))
  have m4 : (D.XD, D.xd w) ∈ D.fst w ++ rest := .tail _ (.tail _ (.tail _ (.head _)))
  have m5 : (D.OD, D.oOD) ∈ D.fst w ++ rest := .tail _ (.tail _ (.tail _ (.tail _ (.head _))))
  have m6 : (D.EC, D.ec) ∈ D.fst w ++ rest := .tail _ (.tail _ (.tail _ (.tail _ (.tail _ (.head _)))))
  have m7 : (D.RL, listOf (vz D.zs).toArray D.kR) ∈ D.fst w ++ rest := .tail _ (.tail _ (.tail _ (.tail _ (.tail _ (.tail _ (.head _))))))
  have m8 : (D.SE, listOf D.ses.toArray D.kS) ∈ D.fst w ++ rest := .tail _ (.tail _ (.tail _ (.tail _ (.tail _ (.tail _ (.tail _ (.head _)))))))
  have m9 : (D.MA, listOf D.mas.toArray D.kM) ∈ D.fst w ++ rest := .tail _ (.tail _ (.tail _ (.tail _ (.tail _ (.tail _ (.tail _ (.tail _ (.head _))))))))
  have mt : ∀ q ∈ tz D.zs, (q.1, q.2) ∈ D.fst w ++ rest := fun q hq => List.mem_append_left _ (.tail _ (.tail _ (.tail _ (.tail _ (.tail _ (.tail _ (.tail _ (.tail _ (.tail _ hq)))))))))
  have tO := tag_dict O.od
  have tP := tag_pool O.pool
  exact {
    a1 := O.p1, a2 := ne_tag N m1 m3 tP (j := 230) rfl (by decide), a3 := ne_tag N m1 m4 tP (j := 2) rfl (by decide), a4 := ne_tag N m1 m5 tP tO (by decide), a5 := O.p2, a6 := O.p3, a7 := O.p4, a8 := O.p5,
    b1 := ne_tag N m4 m2 (i := 2) (j := 1) rfl rfl (by decide), b2 := ne_tag N m4 m3 (i := 2) (j := 230) rfl rfl (by decide), b3 := O.u1, b4 := ne_tag N m4 m6 (i := 2) (j := 1) rfl rfl (by decide), b5 := ne_tag N m4 m7 (i := 2) (j := 1) rfl rfl (by decide),
    b6 := ne_tag N m4 m8 (i := 2) (j := 1) rfl rfl (by decide), b7 := ne_tag N m4 m9 (i := 2) (j := 1) rfl rfl (by decide),
    c1 := ne_tag N m5 m2 tO (j := 1) rfl (by decide), c2 := ne_tag N m5 m3 tO (j := 230) rfl (by decide), c3 := ne_tag N m5 m6 tO (j := 1) rfl (by decide), c4 := ne_tag N m5 m7 tO (j := 1) rfl (by decide), c5 := ne_tag N m5 m8 tO (j := 1) rfl (by decide), c6 := ne_tag N m5 m9 tO (j := 1) rfl (by decide),
    d1 := O.q1, d2 := ne_tag N m6 m3 (i := 1) (j := 230) rfl rfl (by decide), d3 := O.q2, d4 := O.q3, d5 := O.q4,
    f1 := O.r1, f2 := ne_tag N m8 m3 (i := 1) (j := 230) rfl rfl (by decide), f3 := O.r2, f4 := O.r3,
    g1 := O.s1, g2 := ne_tag N m9 m3 (i := 1) (j := 230) rfl rfl (by decide), g3 := O.s2,
    tP := fun q hq => ne_tag N (mt q hq) m1 (tag_tz hq) tP (by decide), tXD := fun q hq => ne_tag N (mt q hq) m4 (tag_tz hq) (j := 2) rfl (by decide), tOD := fun q hq => ne_tag N (mt q hq) m5 (tag_tz hq) tO (by decide),
    tEC := fun q hq => ne_tag N (mt q hq) m6 (tag_tz hq) (j := 1) rfl (by decide), tSE := fun q hq => ne_tag N (mt q hq) m8 (tag_tz hq) (j := 1) rfl (by decide), tMA := fun q hq => ne_tag N (mt q hq) m9 (tag_tz hq) (j := 1) rfl (by decide) }
/-- what packets that come turn is not of the other part -/
theorem Led.Ok.off1 {D : Led} (O : D.Ok prog w k) (N : News h₀ L h (D.fst w ++ (D.snd w ++ rest))) (hr : ∀ q ∈ rest, tagO q.2 = 4) : ∀ q ∈ D.snd w ++ rest, q.1 ∉ [D.P, D.XD, D.OD, D.EC, D.SE, D.MA, D.RL] := by
  have m1 : (D.P, D.oP) ∈ D.fst w ++ (D.snd w ++ rest) := .head _
  have m4 : (D.XD, D.xd w) ∈ D.fst w ++ (D.snd w ++ rest) := .tail _ (.tail _ (.tail _ (.head _)))
  have m5 : (D.OD, D.oOD) ∈ D.fst w ++ (D.snd w ++ rest) := .tail _ (.tail _ (.tail _ (.tail _ (.head _))))
  have m6 : (D.EC, D.ec) ∈ D.fst w ++ (D.snd w ++ rest) := .tail _ (.tail _ (.tail _ (.tail _ (.tail _ (.head _)))))
  have m7 : (D.RL, listOf (vz D.zs).toArray D.kR) ∈ D.fst w ++ (D.snd w ++ rest) := .tail _ (.tail _ (.tail _ (.tail _ (.tail _ (.tail _ (.head _))))))
  have m8 : (D.SE, listOf D.ses.toArray D.kS) ∈ D.fst w ++ (D.snd w ++ rest) := .tail _ (.tail _ (.tail _ (.tail _ (.tail _ (.tail _ (.tail _ (.head _)))))))
  have m9 : (D.MA, listOf D.mas.toArray D.kM) ∈ D.fst w ++ (D.snd w ++ rest) := .tail _ (.tail _ (.tail _ (.tail _ (.tail _ (.tail _ (.tail _ (.tail _ (.head _))))))))
  have tO := tag_dict O.od
  have tP := tag_pool O.pool
  have key : ∀ q ∈ D.snd w ++ rest, (tagO q.2 = 2 ∧ @Ne Nat q.1 D.XD ∧ @Ne Nat q.1 D.OD) ∨ tagO q.2 = 103 ∨ tagO q.2 = 3 ∨ tagO q.2 = 4 := by
    intro q hq
    rcases List.mem_append.mp hq with hq | hq
    · rcases List.mem_cons.mp hq with rfl | hq
      · exact .inl ⟨tag_dict O.sd, Ne.symm O.u2, Ne.symm O.u4⟩
      rcases List.mem_cons.mp hq with rfl | hq
      · exact .inl ⟨tag_dict O.oo, Ne.symm O.u3, Ne.symm O.u5⟩
      rcases List.mem_append.mp hq with hq | hq
      · exact .inr (.inl (tag_pz hq))
      rcases List.mem_append.mp hq with hq | hq
      · exact .inl ⟨tag_qz hq, O.v1 q hq, O.v2 q hq⟩
      · exact .inr (.inr (.inl (tag_wz hq)))
    · exact .inr (.inr (.inr (hr q hq)))
  intro q hq hm
  have hq' : (q.1, q.2) ∈ D.fst w ++ (D.snd w ++ rest) := List.mem_append_right _ hq
  have kq := key q hq
  have h1 : ∀ a o, (a, o) ∈ D.fst w ++ (D.snd w ++ rest) → tagO o = 1 → @Ne Nat q.1 a := fun a o ha ho => by
    rcases kq with ⟨e, _⟩ | e | e | e <;> exact ne_tag N hq' ha e ho (by decide)
  have h2 : ∀ a o, (a, o) ∈ D.fst w ++ (D.snd w ++ rest) → tagO o = 2 → (@Ne Nat q.1 D.XD → @Ne Nat q.1 D.OD → @Ne Nat q.1 a) → @Ne Nat q.1 a := fun a o ha ho f => by
    rcases kq with ⟨_, f1, f2⟩ | e | e | e
    · exact f f1 f2
    all_goals exact ne_tag N hq' ha e ho (by decide)
  simp only [List.mem_cons, List.not_mem_nil, or_false] at hm
  rcases hm with e | e | e | e | e | e | e
  · exact h1 _ _ m1 tP e
  · exact h2 _ _ m4 rfl (fun a _ => a) e
  · exact h2 _ _ m5 tO (fun _ b => b) e
  · exact h1 _ _ m6 rfl e
  · exact h1 _ _ m8 rfl e
  · exact h1 _ _ m9 rfl e
  · exact h1 _ _ m7 rfl e
end
theorem hasR_cov {rs : List (Int × Int)} {x : Int} : hasR rs x = true ↔ covR rs x := by
  unfold hasR covR
  rw [List.any_eq_true]
  constructor
  · rintro ⟨r, hr, e⟩
    simp only [Bool.and_eq_true, decide_eq_true_eq] at e
    exact ⟨r, hr, e⟩
  · rintro ⟨r, hr, e⟩
    exact ⟨r, hr, by simp only [Bool.and_eq_true, decide_eq_true_eq]; exact e⟩
theorem any_mem {l : List Int} {x : Int} : (l.any fun y => y == x) = true ↔ x ∈ l := by
  rw [List.any_eq_true]
  constructor
  · rintro ⟨y, hy, e⟩
    rw [← beq_iff_eq.mp e]; exact hy
  · exact fun h => ⟨x, h, beq_self_eq_true x⟩
theorem bool_eq {a b : Bool} (h : a = true ↔ b = true) : a = b := by cases a <;> cases b <;> simp_all
section
variable {prog : Program} {w : World} {k : Nat}
theorem Led.Ok.has {D : Led} (O : D.Ok prog w k) (x : Int) : hasR (rz D.zs) x = D.sns.any fun y => y == x :=
  bool_eq (hasR_cov.trans ((O.cov x).trans any_mem.symm))
/-- a packet came that was there -/
theorem Led.Ok.again {D : Led} (O : D.Ok prog w k) {oP' oOD' : Obj} {now' : Int} {t' : Tok} (h1 : PoolO D.S oP') (h2 : oOD'.IsDictOf (strKind prog w) ({ D with now := now', tnow := t' } : Led).odk) (h3 : D.now ≤ now') :
    ({ D with oP := oP', oOD := oOD', now := now', tnow := t' } : Led).Ok prog w (k + 1) :=
  { O with pool := h1, od := h2, ltn := Int.le_trans O.ltn h3, lk := Nat.le_succ_of_le O.lk, nxk := Int.le_trans O.nxk (by omega), lo := Nat.le_succ_of_le O.lo, tp := fun t ht => Int.le_trans (O.tp t ht) (by omega) }
/-- a packet came -/
theorem Led.Ok.came {D : Led} (O : D.Ok prog w k) {RL' : Addr} {oP' oOD' : Obj} {ses' mas' : List Value} {x mk now' un' e0' e1' e2' hi' hiA' : Int} {kS' kM' kR' kE' : Nat} {te0' te1' te2' tun' task' thi' thiA' tnow' : Tok} {rs : List RZ} {wn' : Bool} {fu' : Option Int} {vLS' vLTm' vFU' vHN' vSince' : Value}
    (h1 : PoolO D.S oP') (h2 : oOD'.IsDictOf (strKind prog w) (odK (.str D.nm D.tnm2) (.ref D.SE) (.ref D.MA) (.int hi' thi') (.int hiA' thiA') vSince' (.int un' task') (.bool wn') (.ref D.OO) (.int D.nx D.tnx2) D.vTop D.vLast (.int now' tnow')))
    (h3 : D.now ≤ now') (hx : x ∉ D.sns) (hs : IntsAre ses' (D.sns ++ [x])) (hm : IntsAre mas' (D.mns ++ [mk])) (hrs : rz rs = addR (rz D.zs) x) (hrl : rs.length ≤ D.zs.length + 1) (he : (e0', e1', e2') = bump mk D.e0 D.e1 D.e2)
    (x1 : OI vLS' (seenOf D.ls x)) (x2 : OI vLTm' (timeOf D.ls D.lt x now')) (x3 : OI vFU' fu') (x4 : OI vSince' fu') (xhi : hi' = if x > D.hi ∨ D.sns = [] then x else D.hi) (xhiA : hiA' = if x > D.hi ∨ D.sns = [] then now' else D.hiA)
    (hadd : ∀ (rs : List (Int × Int)) (x : Int), CanonR rs → ¬ covR rs x → CanonR (addR rs x) ∧ ∀ y, covR (addR rs x) y ↔ covR rs y ∨ y = x)
    (n1 : @Ne Nat D.P RL') (n2 : @Ne Nat D.EC RL') (n3 : @Ne Nat D.SE RL') (n4 : @Ne Nat D.MA RL') :
    ({ D with oP := oP', oOD := oOD', RL := RL', ses := ses', mas := mas', sns := D.sns ++ [x], mns := D.mns ++ [mk], kS := kS', kM := kM', kE := kE', kR := kR', te0 := te0', te1 := te1', te2 := te2', tun := tun', task := task', thi := thi', thiA := thiA', tnow := tnow', zs := rs, e0 := e0', e1 := e1', e2 := e2', un := un', hi := hi', hiA := hiA', now := now', wn := wn', ls := seenOf D.ls x, lt := timeOf D.ls D.lt x now', fu := fu', vLS := vLS', vLTm := vLTm', vFU := vFU', vHN := vHN', vSince := vSince' } : Led).Ok prog w (k + 1) := by
  have hc : ¬ covR (rz D.zs) x := fun q => hx ((O.cov x).mp q)
  obtain ⟨c1, c2⟩ := hadd _ _ O.can hc
  have hne : D.sns ++ [x] ≠ [] := by simp
  refine { O with pool := h1, od := h2, is := hs, im := hm, xLS := x1, xLT := x2, xFU := x3, xSi := x4, els := ?els, elt := ?elt, ltn := ?ltn, e0 := ?e0, e1 := ?e1, e2 := ?e2, lm := ?lm, lk := ?lk, lz := ?lz, nd := ?nd, can := (by rw [hrs]; exact c1), cov := ?cov, nxk := Int.le_trans O.nxk (by omega), lo := Nat.le_succ_of_le O.lo, tp := (fun t ht => Int.le_trans (O.tp t ht) (by omega)), p3 := n1, q2 := n2, r2 := n3, s2 := n4 }
  case els =>
    dsimp only
    rw [if_neg hne, xhi, O.els]
    by_cases hz : D.sns = []
    · simp [hz, seenOf]
    · by_cases hgt : x > D.hi <;> simp [hz, seenOf, hgt]
  case elt =>
    dsimp only
    rw [if_neg hne, xhiA, O.els, O.elt]
    by_cases hz : D.sns = []
    · simp [hz, timeOf]
    · by_cases hgt : x > D.hi <;> simp [hz, timeOf, hgt]
  case ltn =>
    dsimp only
    have := O.ltn
    rw [xhiA]
    split <;> omega
  case lm => dsimp only; simp [O.lm]
  case lk => dsimp only; have := O.lk; simp; omega
  case lz => dsimp only; have := O.lz; simp; omega
  case nd =>
    dsimp only
    exact List.nodup_append.mpr ⟨O.nd, by simp, fun a ha b hb => by rw [List.mem_singleton.mp hb]; exact fun e => hx (e ▸ ha)⟩
  case cov =>
    intro y
    dsimp only
    rw [hrs, c2 y, O.cov y]
    simp
  all_goals
    dsimp only
    have e0 := O.e0
    have e1 := O.e1
    have e2 := O.e2
    unfold bump at he
    unfold countI at *
    rw [List.filter_append, List.length_append]
    split at he <;> (try split at he) <;> (try split at he) <;> simp_all
end

-- nolocal
-- needs: led
theorem canon_cons {o : Int × Int} {r : List (Int × Int)} : CanonR (o :: r) ↔ (∀ b ∈ r, b.2 + 1 < o.1) ∧ o.1 ≤ o.2 ∧ CanonR r := by
  unfold CanonR
  rw [List.pairwise_cons]
  constructor
  · rintro ⟨⟨h1, h2⟩, h3⟩
    exact ⟨h1, h3 _ (.head _), h2, fun q hq => h3 q (.tail _ hq)⟩
  · rintro ⟨h1, h2, h3, h4⟩
    exact ⟨⟨h1, h3⟩, List.forall_mem_cons.mpr ⟨h2, h4⟩⟩
theorem cov_cons {o : Int × Int} {r : List (Int × Int)} {x : Int} : covR (o :: r) x ↔ (o.1 ≤ x ∧ x ≤ o.2) ∨ covR r x := by
  unfold covR
  simp only [List.mem_cons, exists_eq_or_imp]
/-- a range is put in -/
noncomputable def insR : List (Int × Int) → Int → Int → List (Int × Int)
  | [], lo, hi => [(lo, hi)]
  | o :: r, lo, hi => if o.1 > hi + 1 then o :: insR r lo hi else if o.2 < lo - 1 then (lo, hi) :: o :: r else insR r (min lo o.1) (max hi o.2)
theorem fold_in : ∀ (r f : List (Int × Int)) (lo hi : Int), lo ≤ hi → CanonR r → (∀ o ∈ r, o.2 < lo - 1) → endR (r.foldl stepR ⟨f, lo, hi, true⟩) = f ++ r
  | [], f, lo, hi, _, _, _ => by simp [endR]
  | o :: r, f, lo, hi, h, hc, hb => by
    have hc' := canon_cons.mp hc
    have h1 := hb o (.head _)
    have e : stepR ⟨f, lo, hi, true⟩ o = ⟨f ++ [o], lo, hi, true⟩ := by
      unfold stepR
      dsimp only
      rw [if_neg (by omega), if_pos h1, if_pos rfl]
    rw [List.foldl_cons, e, fold_in r _ lo hi h hc'.2.2 fun q hq => hb q (.tail _ hq)]
    simp
theorem fold_out : ∀ (r f : List (Int × Int)) (lo hi : Int), lo ≤ hi → CanonR r → endR (r.foldl stepR ⟨f, lo, hi, false⟩) = f ++ insR r lo hi
  | [], f, lo, hi, _, _ => by simp [endR, insR]
  | o :: r, f, lo, hi, h, hc => by
    have hc' := canon_cons.mp hc
    rw [List.foldl_cons]
    unfold insR
    by_cases h1 : o.1 > hi + 1
    · have e : stepR ⟨f, lo, hi, false⟩ o = ⟨f ++ [o], lo, hi, false⟩ := by
        unfold stepR
        dsimp only
        rw [if_pos h1]
      rw [e, if_pos h1, fold_out r _ lo hi h hc'.2.2]
      simp
    · by_cases h2 : o.2 < lo - 1
      · have e : stepR ⟨f, lo, hi, false⟩ o = ⟨f ++ [(lo, hi), o], lo, hi, true⟩ := by
          unfold stepR
          dsimp only
          rw [if_neg h1, if_pos h2]
          rfl
        rw [e, if_neg h1, if_pos h2, fold_in r _ lo hi h hc'.2.2 fun q hq => by have := hc'.1 q hq; have := hc'.2.1; omega]
        simp
      · have e : stepR ⟨f, lo, hi, false⟩ o = ⟨f, min lo o.1, max hi o.2, false⟩ := by
          unfold stepR
          dsimp only
          rw [if_neg h1, if_neg h2]
        rw [e, if_neg h1, if_neg h2, fold_out r f _ _ (by omega) hc'.2.2]
theorem ins_cov : ∀ (r : List (Int × Int)) (lo hi : Int), lo ≤ hi → CanonR r → ∀ y, covR (insR r lo hi) y ↔ covR r y ∨ (lo ≤ y ∧ y ≤ hi)
  | [], lo, hi, _, _, y => by
    unfold insR
    rw [cov_cons]
    exact or_comm
  | o :: r, lo, hi, h, hc, y => by
    have hc' := canon_cons.mp hc
    unfold insR
    by_cases h1 : o.1 > hi + 1
    · rw [if_pos h1, cov_cons, cov_cons, ins_cov r lo hi h hc'.2.2 y, or_assoc]
    · by_cases h2 : o.2 < lo - 1
      · rw [if_neg h1, if_pos h2, cov_cons]
        exact or_comm
      · have h3 := hc'.2.1
        rw [if_neg h1, if_neg h2, ins_cov r _ _ (by omega) hc'.2.2 y, cov_cons]
        constructor
        · rintro (q | q)
          · exact .inl (.inr q)
          · by_cases z : lo ≤ y ∧ y ≤ hi
            · exact .inr z
            · exact .inl (.inl (by omega))
        · rintro ((q | q) | q)
          · exact .inr (by omega)
          · exact .inl q
          · exact .inr (by omega)
theorem ins_canon : ∀ (r : List (Int × Int)) (lo hi : Int), lo ≤ hi → CanonR r → CanonR (insR r lo hi)
  | [], lo, hi, h, _ => canon_cons.mpr ⟨(fun _ h => nomatch h), h, ⟨.nil, (fun _ h => nomatch h)⟩⟩
  | o :: r, lo, hi, h, hc => by
    have hc' := canon_cons.mp hc
    unfold insR
    by_cases h1 : o.1 > hi + 1
    · rw [if_pos h1]
      have h3 := ins_canon r lo hi h hc'.2.2
      refine canon_cons.mpr ⟨fun b hb => ?_, hc'.2.1, h3⟩
      rcases (ins_cov r lo hi h hc'.2.2 b.2).mp ⟨b, hb, h3.2 b hb, Int.le_refl _⟩ with ⟨c, hcm, q⟩ | q
      · have := hc'.1 c hcm; omega
      · omega
    · by_cases h2 : o.2 < lo - 1
      · rw [if_neg h1, if_pos h2]
        refine canon_cons.mpr ⟨List.forall_mem_cons.mpr ⟨by show o.2 + 1 < lo; omega, fun b hb => ?_⟩, h, hc⟩
        have := hc'.1 b hb
        have := hc'.2.1
        show b.2 + 1 < lo
        omega
      · rw [if_neg h1, if_neg h2]
        have := hc'.2.1
        exact ins_canon r _ _ (by omega) hc'.2.2
theorem addR_ok (rs : List (Int × Int)) (x : Int) (hc : CanonR rs) (_ : ¬ covR rs x) : CanonR (addR rs x) ∧ ∀ y, covR (addR rs x) y ↔ covR rs y ∨ y = x := by
  have e : addR rs x = insR rs x x := by
    unfold addR
    rw [fold_out rs [] x x (Int.le_refl _) hc, List.nil_append]
  rw [e]
  refine ⟨ins_canon rs x x (Int.le_refl _) hc, fun y => ?_⟩
  rw [ins_cov rs x x (Int.le_refl _) hc y]
  constructor
  · rintro (q | q)
    · exact .inl q
    · exact .inr (by omega)
  · rintro (q | q)
    · exact .inl q
    · exact .inr (by omega)
theorem gap_ok {ls : Option Int} {sns : List Int} {hi x : Int} (h : ls = if sns = [] then none else some hi) : gapOf ls x = !(decide (sns = []) || decide (x = hi + 1)) := by
  subst h
  unfold gapOf
  by_cases hz : sns = []
  · simp [hz]
  · simp [hz]
    rfl

-- needs: led recv has plain
section
variable {prog : Program} {w : World} {A : Around} {E : Value → Shared → Prop} {s : Shared} {h₀ : Heap} {L : Addr} {m mg mb : Str → Option Value}
  {p : Program} {loose : List Str} {mean : ExcName → Option Value} {Q : Value → Shared → Prop} {rest : List (Addr × Obj)}
theorem words_comes_1 : True := by
  k_with_none
  k_with "k_enter" => (refine' code_defM ?k1ₓ ?k2ₓ ?k3ₓ ?k5ₓ ?k6ₓ ?k7ₓ ?k8ₓ ?k9ₓ ?kBₓ ?_ ?c2ₓ ?c3ₓ ?c4ₓ ?c5ₓ; (case k1ₓ => k_asm); (case k2ₓ => k_asm); (case k3ₓ => k_asm); (case k5ₓ => k_asm); (case k6ₓ => k_is); (case k7ₓ => k_is); (case k8ₓ => exact Nat.le_of_ble_eq_true rfl); (case k9ₓ => exact rfl); (case c5ₓ => decide); (case kBₓ => exact locs rfl); (case c2ₓ => exact rfl); (case c3ₓ => exact rfl); (case c4ₓ => exact rfl); k_whole; intro g'ₓ L'ₓ h'ₓ FG'ₓ F'ₓ N'ₓ X'ₓ T'ₓ; (try dsimp only [List.map, List.zip, List.zipWith] at F'ₓ); (try dsimp only); (try k_fold))
  k_with "k_mem" => first | with_reducible assumption | with_reducible exact List.mem_cons_self | (with_reducible apply List.mem_cons_of_mem; k_mem)
  k_with "k_all" => first | assumption | exact allLt_off (by assumption)
  k_with "size_fits" => first | assumption | (simp only [Array.size_push, List.size_toArray, List.length_append, List.length_cons, List.length_nil, vz_length, PySem.sizeLine_eq]; omega)
  k_with "binaryOp Add ref ref" => (k_here; (with_reducible show wpAny _ _ (binaryOp _ (Value.ref _) (Value.ref _)) _ _ _); k_dflt (refine' addL ?Fₓ ?Nₓ ?aₓ ?bₓ ?zₓ ?_; (case Fₓ => k_asm); (case Nₓ => k_asm); (case aₓ => k_mem); (case bₓ => k_mem); (case zₓ => (simp only [List.length_cons, List.length_nil, vz_length, sizeLine_eq]; omega))); intro D'ₓ h'ₓ F'ₓ N'ₓ l1ₓ; (try k_lt l1ₓ); (try k_sweep))
  k_with "k_sub" => ((try simp only [List.cons_append, List.nil_append]); (repeat ((with_reducible refine List.forall_mem_cons.mpr ⟨?_, ?_⟩); (next => (first | ((repeat (first | with_reducible exact List.mem_cons_self | with_reducible apply List.mem_cons_of_mem)); done) | (repeat (first | exact List.mem_cons_self | apply List.mem_cons_of_mem)))))); intro qₓ hqₓ; first | with_reducible exact absurd hqₓ List.not_mem_nil | (repeat (first | with_reducible exact hqₓ | with_reducible exact List.mem_append_left _ hqₓ | with_reducible exact List.mem_append_right _ hqₓ | with_reducible apply List.mem_cons_of_mem)))
  k_with "SrcLP" => (k_here; k_dflt (refine LCp.SrcLP.ledger (by rfl) (by k_asm) (by k_asm) (by k_mem) (by size_fits) ?_); intro g'ₓ; refine Halt.out ?_)
  k_with "CompSrc" => (k_here; k_dflt (refine LCg.CompSrc.ledger (by rfl) (by k_asm) (by k_asm) (by k_mem) (by size_fits) ?_); intro g'ₓ; refine Halt.out ?_)
  k_with "CompSrcT" => (k_here; k_dflt (refine LCt.CompSrcT.ledger (by rfl) (by k_asm) (by k_asm) (by k_mem) (by size_fits) ?_); intro g'ₓ; refine Halt.out ?_)
  k_with "CompEnd" => (refine Halt.out ?_)
  k_with "lsm_bools" => assumption
  k_with "eval Name" => (k_here; k_dflt (refine' nameX_L ?Fₓ ?vₓ ?_ ?aₓ ?bₓ; (case Fₓ => k_asm); (case aₓ => rfl); (case bₓ => rfl); (case vₓ => first | exact rfl | assumption); k_whole))
  k_with "eval Name" => (k_here; (with_reducible show wpAny _ _ (eval (Expr.Name _ _) (envOf _ _ _ _ _)) _ _ _); k_dflt (refine' ld ?k1ₓ ?k2ₓ ?_; (case k1ₓ => k_asm); (case k2ₓ => first | exact rfl | assumption); k_whole))
  k_with "k_ne" => (first | assumption | (apply Ne.symm; assumption) | exact Nat.ne_of_lt (by assumption) | exact Nat.ne_of_gt (by assumption))
  k_with "call builtin:len" => (k_here; (with_reducible show wpAny _ _ (call (Value.builtin "len") [Value.ref _]) _ _ _); k_dflt (refine' lenL ?Nₓ ?aₓ ?zₓ ?_; (case Nₓ => k_asm); (case aₓ => k_mem); (case zₓ => (simp only [vz_length]; omega))); (try simp only [vz_length]))
  k_with "setItem ref int" => (k_here; k_dflt (refine' kda_set (knd := PySem.intKind _ _) ?Fₓ ?Nₓ ?Uₓ ?dₓ (intKind_is _ _ _ _) ?zₓ ?_; (case Fₓ => k_asm); (case Nₓ => k_asm); (case Uₓ => k_updF); (case dₓ => assumption); (case zₓ => assumption)); intro h'ₓ o'ₓ F'ₓ N'ₓ hd'ₓ; (try k_sweep))
  k_with "call ref" => (k_here; (with_reducible show wpAny _ _ (call (Value.ref 238) _) _ _ _); k_dflt (refine' to_AL rfl ?dₓ ?uₓ (draw_at ?Fₓ ?Nₓ ?Xₓ ?Tₓ ?Uₓ ?oₓ ?hPₓ ?hSₓ ?hiₓ ?hlₓ ?psₓ ?hmₓ ?_); (case dₓ => exact Nat.le_of_ble_eq_true rfl); (case uₓ => exact Nat.le_of_ble_eq_true rfl); (case Fₓ => k_asm); (case Nₓ => k_asm); (case Xₓ => k_asm); (case Tₓ => k_asm); (case Uₓ => k_updF); (case oₓ => assumption); (case hPₓ => k_mem); (case hSₓ => k_mem); (case hiₓ => assumption); (case hlₓ => assumption); (case psₓ => k_ne); (case hmₓ => first | decide | assumption)); intro v'ₓ t'ₓ o'ₓ h'ₓ tk'ₓ hv0'ₓ hv1'ₓ oP'ₓ F'ₓ N'ₓ; (try dsimp only at N'ₓ); (try k_sweep))
  k_with "call ref" => (k_here; (with_reducible show wpAny _ _ (call (Value.ref 53) _) _ _ _); k_dflt (refine' to_AL rfl ?dₓ ?uₓ (add_at ?Fₓ ?Nₓ ?Xₓ ?Tₓ ?hLₓ ?hzₓ ?hlenₓ ?_); (case dₓ => exact Nat.le_of_ble_eq_true rfl); (case uₓ => exact Nat.le_of_ble_eq_true rfl); (case Fₓ => k_asm); (case Nₓ => k_asm); (case Xₓ => k_asm); (case Tₓ => k_asm); (case hLₓ => k_mem); (case hzₓ => k_sub); (case hlenₓ => first | assumption | omega)); intro RL' z' rs' k' h' tk' F' N' n1' n2' n3' er' es' el'; (repeat (replace n1' := List.forall_mem_cons.mp n1'; (have hn' := And.left n1'); replace n1' := And.right n1'; try dsimp only at hn')); (repeat (replace n2' := List.forall_mem_cons.mp n2'; (have hn' := And.left n2'); replace n2' := And.right n2'; try dsimp only at hn')); (try dsimp only at n3'); (try k_sweep))
  k_with "call ref" => (k_here; (with_reducible show wpAny _ _ (call (Value.ref 58) _) _ _ _); k_dflt (refine' to_AL rfl ?dₓ ?uₓ (has_at ?Fₓ ?Nₓ ?Xₓ ?Tₓ ?hLₓ ?hzₓ ?hlenₓ ?_); (case dₓ => exact Nat.le_of_ble_eq_true rfl); (case uₓ => exact Nat.le_of_ble_eq_true rfl); (case Fₓ => k_asm); (case Nₓ => k_asm); (case Xₓ => k_asm); (case Tₓ => k_asm); (case hLₓ => k_mem); (case hzₓ => k_sub); (case hlenₓ => first | assumption | omega)); intro h'ₓ tk'ₓ F'ₓ N'ₓ; (try k_sweep))
  k_with "subscriptTail Name" => (k_here; (with_reducible show wpAny _ _ (subscriptTail _ _ (Value.ref _) (Value.str _ _)) _ _ _); k_dflt (refine' kda_item (knd := PySem.strKind _ _) ?Nₓ ?pₓ ?dₓ (strKind_is _ _ _ _) ?lₓ ?_; (case Nₓ => k_asm); (case pₓ => k_mem); (case dₓ => assumption); (case lₓ => rfl)); (try dsimp only))
  k_with "subscriptTail" => (k_here; (with_reducible show wpAny _ _ (subscriptTail _ _ (Value.ref _) (Value.str _ _)) _ _ _); k_dflt (refine' kda_item (knd := PySem.strKind _ _) ?Nₓ ?pₓ ?dₓ (strKind_is _ _ _ _) ?lₓ ?_; (case Nₓ => k_asm); (case pₓ => k_mem); (case dₓ => assumption); (case lₓ => rfl)); (try dsimp only))
  k_with "eval BoolOp" => ((have hst'ₓ : Stop := by assumption); clear hst'ₓ; refine Halt.out ?_)
  k_with "eval IfExp" => ((have hst'ₓ : Stop := by assumption); clear hst'ₓ; refine Halt.out ?_)
  k_with "exec If" => ((have hst'ₓ : Stop := by assumption); clear hst'ₓ; (with_reducible show wpAny _ _ (exec (Stmt.If (Expr.BoolOp _ _ _) _ _ _) _) _ _ _); refine Halt.out ?_)
  k_with "exec If" => ((have hst'ₓ : Stop := by assumption); clear hst'ₓ; (with_reducible show wpAny _ _ (exec (Stmt.If (Expr.Compare (Expr.Call _ _ _ _) _ _ _) _ _ _) _) _ _ _); refine Halt.out ?_)
  k_with "call ref" => ((with_reducible show wpAny _ _ (call (Value.ref 125) _) _ _ _); refine Halt.out ?_)
  trivial
theorem mark_menu {v : Int} (h0 : 0 ≤ v) (h5 : v < 5) : 0 ≤ [0, 0, 1, 2, 3].getD v.toNat (0 : Int) ∧ [0, 0, 1, 2, 3].getD v.toNat (0 : Int) ≤ 3 := by
  have : v = 0 ∨ v = 1 ∨ v = 2 ∨ v = 3 ∨ v = 4 := by omega
  rcases this with rfl | rfl | rfl | rfl | rfl <;> decide
theorem newsMid {h : Heap} {B C R : List (Addr × Obj)} (N : News h₀ L h ((B ++ C) ++ R)) : News h₀ L h (R ++ (B ++ C)) := newsSub N fun _ hq => (List.mem_append.mp hq).elim (List.mem_append_right _) (List.mem_append_left _)
theorem off_tz {h : Heap} {B R : List (Addr × Obj)} {rs zs : List RZ} {a : Addr} {o : Obj} {i : Nat} (N : News h₀ L h ((B ++ (tz rs ++ tz zs)) ++ R)) (ha : (a, o) ∈ R) (ht : tagO o = i) (hi : 3 ≠ i) : ∀ q ∈ tz rs ++ tz zs, @Ne Nat q.1 a := fun q hq =>
  ne_tag N (List.mem_append_left _ (List.mem_append_right _ hq)) (List.mem_append_right _ ha) ((List.mem_append.mp hq).elim tag_tz tag_tz) ht hi
theorem comes_at {D : Led} {k : Nat}
    (F : Fr h₀ L s.heap m) (X₀ : (heap w.params).In h₀) (T : Top p loose mean mg mb h₀) (O : D.Ok prog w k) (hk : k ≤ 29)
    (N : News h₀ L s.heap (D.fst w ++ (D.snd w ++ rest))) (hr : ∀ q ∈ rest, tagO q.2 = 4)
    (h : ∀ (D' : Led) h' tk', D'.Ok prog w (k + 1) → D'.P = D.P → D'.X = D.X → D'.OD = D.OD → Fr h₀ L h' m → News h₀ L h' (D'.fst w ++ (D'.snd w ++ rest)) → Q (.bool true) { s with heap := h', toks := tk' }) :
    wpAny (model prog w) (AL 330) (call (.ref 252) [.ref D.P, .ref D.X, .ref D.OD]) Q (fun _ _ => False) s := by
  have ds := O.dis N
  have hoff := O.off1 N hr
  obtain ⟨P, S, X, XD, EC, RL, SD, OD, SE, MA, OO, oP, oSD, oOD, oOO, vs, ses, mas, ns, sns, mns, nS, kS, kM, kE, kR, kx, te0, te1, te2, tnm, tnm2, tun, task, thi, thiA, tnx, tnx2, tnow, zs, os, e0, e1, e2, un, hi, hiA, nx, now, wn, nm, ls, lt, fu, top, last, vLA, vAK, vLET, vLT, vLS, vLTm, vFU, vHN, vGone, vSince, vTop, vLast⟩ := D
  dsimp only at ds hoff N h ⊢
  refine enter (binds := [(Str.ofString "pool", .ref P), (Str.ofString "space", .ref X), (Str.ofString "own", .ref OD)]) F N X₀ T (fun q hq => List.mem_append_left _ hq) (by k_dflt k_is) (by k_dflt k_is) (by decide) (BindsTo.of_eq rfl) (locs rfl) ?_ rfl rfl rfl (by decide)
  intro g L' h₁ tk hg F' N' X' T'
  have fin : ∀ (D' : Led) W' h' tk' m', D'.Ok prog w (k + 1) → D'.P = P → D'.X = X → D'.OD = OD → D'.snd w = (SD, oSD) :: (OO, oOO) :: (pz os ++ (qz w os ++ wz os)) → Fr g L' h' m' → News g L' h' W' →
      (S, listOf vs.toArray nS) ∈ W' → (X, instObj 220 XD) ∈ W' → (∀ z ∈ tz zs, z ∈ W') → (∀ q ∈ D'.fst w, q ∈ W') → Q (.bool true) { s with heap := h', toks := tk' } := by
    intro D' W' h' tk' m' x1 x2 x3 x4 x5 F' N' w1 w2 w3 w4
    refine h D' h' tk' x1 x2 x3 x4 (backF F N (fun q hq => List.mem_append_left _ hq) hg F') ?_
    refine newsSub (backG F N hg F' N' (fun z hz => ?_) hoff) (fun q hq => ?_)
    · rcases List.mem_cons.mp hz with rfl | hz
      · exact .inr (.head _)
      rcases List.mem_cons.mp hz with rfl | hz
      · exact .inl w1
      rcases List.mem_cons.mp hz with rfl | hz
      · exact .inl w2
      rcases List.mem_cons.mp hz with rfl | hz
      · exact .inr (.tail _ (.head _))
      rcases List.mem_cons.mp hz with rfl | hz
      · exact .inr (.tail _ (.tail _ (.head _)))
      rcases List.mem_cons.mp hz with rfl | hz
      · exact .inr (.tail _ (.tail _ (.tail _ (.head _))))
      rcases List.mem_cons.mp hz with rfl | hz
      · exact .inr (.tail _ (.tail _ (.tail _ (.tail _ (.tail _ (.tail _ (.head _)))))))
      rcases List.mem_cons.mp hz with rfl | hz
      · exact .inr (.tail _ (.tail _ (.tail _ (.tail _ (.head _)))))
      rcases List.mem_cons.mp hz with rfl | hz
      · exact .inr (.tail _ (.tail _ (.tail _ (.tail _ (.tail _ (.head _))))))
      · exact .inl (w3 z hz)
    · rw [x5] at hq
      rcases List.mem_append.mp hq with hq | hq
      · exact List.mem_append_left _ (w4 q hq)
      · exact List.mem_append_right _ hq
  replace N' : News g L' h₁ ((P, oP) :: (S, listOf vs.toArray nS) :: (X, instObj 220 XD) :: (XD, xdO w kx (.str nm tnm) (.int nx tnx) (.ref SD) vLA vAK vLET vLT (.ref RL) vLS vLTm vFU (.int un tun) (.bool wn) vHN (.ref EC) vGone) :: (OD, oOD) :: (EC, listOf #[.int e0 te0, .int e1 te1, .int e2 te2] kE) :: (RL, listOf (vz zs).toArray kR) :: (SE, listOf ses.toArray kS) :: (MA, listOf mas.toArray kM) :: tz zs) := N'
  have oP' : PoolO S oP := O.pool
  have iv : IntsAre vs ns := O.iv
  have ln : ns.length ≤ 63 := O.ln
  have is : IntsAre ses sns := O.is
  have im : IntsAre mas mns := O.im
  have od : oOD.IsDictOf (strKind prog w) (odK (.str nm tnm2) (.ref SE) (.ref MA) (.int hi thi) (.int hiA thiA) vSince (.int un task) (.bool wn) (.ref OO) (.int nx tnx2) vTop vLast (.int now tnow)) := O.od
  have lod : (OD == sysModules) = false := O.lod
  have hzl : zs.length ≤ 31 := Nat.le_trans O.lz (Nat.le_trans O.lk (by omega))
  have hsl : sns.length ≤ 29 := Nat.le_trans O.lk (by omega)
  have hml : mns.length ≤ 29 := by rw [show mns.length = sns.length from O.lm]; exact hsl
  obtain ⟨a1, a2, a3, a4, a5, a6, a7, a8, b1, b2, b3, b4, b5, b6, b7, c1, c2, c3, c4, c5, c6, d1, d2, d3, d4, d5, f1, f2, f3, f4, g1, g2, g3, tP, tXD, tOD, tEC, tSE, tMA⟩ := ds
  have hhas : ∀ x, hasR (rz zs) x = sns.any fun y => y == x := O.has
  have hid : Hid (Led.Ok prog w k _) := ⟨O⟩
  clear hr X₀ T F N hg h hoff O
  (try dsimp only)
  have st : Stop := ⟨⟩
  k_unmd
  k_fold
  k_steps
  refine Halt.mk ?_
  have F₂ : ∃ x t, Fr g L' _ (fun y => if y = Str.ofString "number" then some (.int x t) else [(Str.ofString "pool", Value.ref P), (Str.ofString "space", .ref X), (Str.ofString "own", .ref OD)].reverse.lookup y) := ⟨_, _, by assumption⟩
  obtain ⟨x, tx, F₂⟩ := F₂
  have N₂ := newsSub (news' := (P, _) :: (S, listOf vs.toArray nS) :: (X, instObj 220 XD) :: (XD, xdO w kx (.str nm tnm) (.int nx tnx) (.ref SD) vLA vAK vLET vLT (.ref RL) vLS vLTm vFU (.int un tun) (.bool wn) vHN (.ref EC) vGone) :: (OD, _) :: (EC, listOf #[.int e0 te0, .int e1 te1, .int e2 te2] kE) :: (RL, listOf (vz zs).toArray kR) :: (SE, listOf ses.toArray kS) :: (MA, listOf mas.toArray kM) :: tz zs) (by assumption) (by k_sub)
  clear st
  (try dsimp only)
  k_steps
  · exfalso
    have ha : (hasR (rz zs) x != sns.any fun y => y == x) = true := by assumption
    rw [hhas, bne_self_eq_false] at ha
    cases ha
  · refine fin _ _ _ _ _ (hid.out.again (oP' := _) (oOD' := _) (now' := _) (t' := _) (by assumption) (by assumption) (by dsimp only; omega)) rfl rfl rfl rfl (by assumption) (by assumption) (by k_mem) (by k_mem) (by k_sub) (by k_sub)
  · refine Halt.mk ?_
    have hx : x ∉ sns := fun hm => by
      have ha : (sns.any fun y => y == x) = false := by assumption
      rw [any_mem.mpr hm] at ha
      cases ha
    have N₃ := newsSub (news' := ([(X, instObj 220 XD), (XD, xdO w kx (.str nm tnm) (.int nx tnx) (.ref SD) vLA vAK vLET vLT (.ref RL) vLS vLTm vFU (.int un tun) (.bool wn) vHN (.ref EC) vGone), (EC, listOf #[.int e0 te0, .int e1 te1, .int e2 te2] kE), (RL, listOf (vz zs).toArray kR)] ++ tz zs) ++ [(P, _), (S, listOf vs.toArray nS), (OD, _), (SE, listOf ses.toArray kS), (MA, listOf mas.toArray kM)]) (by assumption)
      (List.forall_mem_append.mpr ⟨List.forall_mem_append.mpr ⟨by k_sub, by k_sub⟩, by k_sub⟩)
    refine to_AL rfl (Nat.le_of_ble_eq_true rfl) (Nat.le_of_ble_eq_true rfl) (recv_at (by assumption) (by assumption) (by assumption) N₃ hid.out.xLS hid.out.xLT hid.out.xFU ?m0 ?m3 hzl ?o1 ?o2 d3 ?_)
    case m0 => exact (mark_menu (by assumption) (by assumption)).1
    case m3 => exact (mark_menu (by assumption) (by assumption)).2
    case o1 => simp only [List.forall_mem_cons]; exact ⟨a3, Ne.symm b1, Ne.symm b3, Ne.symm b6, Ne.symm b7, fun _ h => nomatch h⟩
    case o2 => simp only [List.forall_mem_cons]; exact ⟨a5, Ne.symm d1, c3, Ne.symm d4, Ne.symm d5, fun _ h => nomatch h⟩
    clear N₃
    intro RL' rs kR' e0' e1' e2' t0' t1' t2' kE' vLS' vLTm' vFU' un' tu' wn' vHN' h₃ tk₃ r1 r2 r3 r4 r5 r6 r7 r8 F₃ N₃ noR nER
    have tSE' : ∀ q ∈ tz rs ++ tz zs, @Ne Nat q.1 SE := off_tz N₃ (.tail _ (.tail _ (.tail _ (.head _)))) (i := 1) rfl (by decide)
    have tMA' : ∀ q ∈ tz rs ++ tz zs, @Ne Nat q.1 MA := off_tz N₃ (.tail _ (.tail _ (.tail _ (.tail _ (.head _))))) (i := 1) rfl (by decide)
    have tOD' : ∀ q ∈ tz rs ++ tz zs, @Ne Nat q.1 OD := off_tz N₃ (.tail _ (.tail _ (.head _))) (tag_dict (by assumption)) (by decide)
    have noR0 : @Ne Nat P RL' := noR _ (.head _)
    have noR1 : @Ne Nat OD RL' := noR _ (.tail _ (.tail _ (.head _)))
    have noR2 : @Ne Nat SE RL' := noR _ (.tail _ (.tail _ (.tail _ (.head _))))
    have noR3 : @Ne Nat MA RL' := noR _ (.tail _ (.tail _ (.tail _ (.tail _ (.head _)))))
    obtain ⟨wa, mk, tmk, oP2, oD2, nw2, tnw2, ⟨y1, y2, y3, y4, y5, y6, y7, y8⟩, F₄, N₄⟩ : ∃ wa mk tmk oP2 oD2 nw2 tnw2, (PoolO S oP2 ∧ oD2.IsDictOf (strKind prog w) (odK (.str nm tnm2) (.ref SE) (.ref MA) (.int hi thi) (.int hiA thiA) vSince (.int un task) (.bool wn) (.ref OO) (.int nx tnx2) vTop vLast (.int nw2 tnw2)) ∧ now ≤ nw2 ∧
        (e0', e1', e2') = bump mk e0 e1 e2 ∧ OI vLTm' (timeOf ls lt x nw2) ∧ OI vFU' (if wa = true then some (fu.getD nw2) else fu) ∧ un' = (if wa = true then un + 1 else un) ∧ wn' = (wn || (wa && (gapOf ls x || decide (un + 1 ≥ 2) || nm != Str.ofString "application" || mk == 3)))) ∧
      Fr g L' h₃ (fun y => if y = Str.ofString "wants" then some (.bool wa) else if y = Str.ofString "mark" then some (.int mk tmk) else if y = Str.ofString "number" then some (.int x tx) else [(Str.ofString "pool", Value.ref P), (Str.ofString "space", .ref X), (Str.ofString "own", .ref OD)].reverse.lookup y) ∧
      News g L' h₃ ((P, oP2) :: (S, listOf vs.toArray nS) :: (OD, oD2) :: (SE, listOf ses.toArray kS) :: (MA, listOf mas.toArray kM) :: (RL', listOf (vz rs).toArray kR') :: (X, instObj 220 XD) :: (XD, xdO w kx (.str nm tnm) (.int nx tnx) (.ref SD) vLA vAK vLET vLT (.ref RL') vLS' vLTm' vFU' (.int un' tu') (.bool wn') vHN' (.ref EC) vGone) :: (EC, listOf #[.int e0' t0', .int e1' t1', .int e2' t2'] kE') :: (tz rs ++ tz zs)) :=
      ⟨_, _, _, _, _, _, _, ⟨by assumption, by assumption, by omega, r3, r5, r6, r7, r8⟩, F₃, newsMid N₃⟩
    clear r3 r5 r6 r7 r8 F₃ N₃ noR
    generalize hTT : tz rs ++ tz zs = TT at N₄ tSE' tMA' tOD'
    have st : Stop := ⟨⟩
    (try dsimp only)
    k_steps
    refine Halt.mk (mergeB (decide (sns = []) || decide (x = hi + 1)) (by assumption) (by assumption) ?g1 ?g2)
    case g1 =>
      clear st fin
      k_steps
      · exact MidB.intro (by assumption) (by assumption) (by k_sub) (by rw [show decide (sns = []) = true by assumption]; rfl)
      · exact MidB.intro (by assumption) (by assumption) (by k_sub) (by rw [show decide (sns = []) = false by assumption, Bool.false_or]; rfl)
    case g2 =>
      intro h₄ tk₄ F₅ N₅
      clear F₄ N₄
      generalize hisn : (decide (sns = []) || decide (x = hi + 1)) = isn at F₅ ⊢
      (try dsimp only)
      k_steps
      rename News g L' _ _ => N₆
      rw [List.push_toArray, List.push_toArray] at N₆
      have is2 : IntsAre (ses ++ [Value.int x tx]) (sns ++ [x]) := is.append (.cons _ _ .nil)
      have hs2 : (sns ++ [x]).length ≤ 30 := by rw [List.length_append]; exact Nat.succ_le_succ hsl
      refine Halt.mk (mergeL (fun nw => ∃ oD3 hi' hiA' thi' thiA', nw = (P, oP2) :: (S, listOf vs.toArray nS) :: (OD, oD3) :: (SE, listOf (ses ++ [Value.int x tx]).toArray (kS + 1)) :: (MA, listOf (mas ++ [Value.int mk tmk]).toArray (kM + 1)) :: (RL', listOf (vz rs).toArray kR') :: (X, instObj 220 XD) :: (XD, xdO w kx (.str nm tnm) (.int nx tnx) (.ref SD) vLA vAK vLET vLT (.ref RL') vLS' vLTm' vFU' (.int un' tu') (.bool wn') vHN' (.ref EC) vGone) :: (EC, listOf #[.int e0' t0', .int e1' t1', .int e2' t2'] kE') :: TT ∧
          oD3.IsDictOf (strKind prog w) (odK (.str nm tnm2) (.ref SE) (.ref MA) (.int hi' thi') (.int hiA' thiA') vSince (.int un task) (.bool wn) (.ref OO) (.int nx tnx2) vTop vLast (.int nw2 tnw2)) ∧
          hi' = (if x > hi ∨ sns = [] then x else hi) ∧ hiA' = (if x > hi ∨ sns = [] then nw2 else hiA)) (by assumption) N₆ ?g1 ?g2)
      case g1 =>
        clear st fin
        k_steps
        · refine' MidS.intro _ (by assumption) (by assumption) ?hs ⟨rfl, _, x, nw2, _, _, rfl, by assumption, (if_pos (.inl (by assumption))).symm, (if_pos (.inl (by assumption))).symm⟩
          case hs => k_sub
        · have hz : sns = [] := List.length_eq_zero_iff.mp (by omega)
          refine' MidS.intro _ (by assumption) (by assumption) ?hs ⟨rfl, _, x, nw2, _, _, rfl, by assumption, (if_pos (.inr hz)).symm, (if_pos (.inr hz)).symm⟩
          case hs => k_sub
        · have hz : ¬ (x > hi ∨ sns = []) := fun e => by
            rcases e with e | e
            · omega
            · exact absurd (show ((sns.length + 1 : Nat) : Int) = 1 by rw [e]; rfl) (by assumption)
          refine' MidS.intro _ (by assumption) (by assumption) ?hs ⟨rfl, _, hi, hiA, _, _, rfl, by assumption, (if_neg hz).symm, (if_neg hz).symm⟩
          case hs => k_sub
      case g2 =>
        intro h₅ tk₅ nw F₆ N₇ hJ
        obtain ⟨oD3, hi', hiA', thi', thiA', rfl, z1, z2, z3⟩ := hJ
        clear N₆ y2
        (try dsimp only)
        cases wa with
        | false =>
          clear st
          k_steps
          simp only [Bool.false_eq_true, if_false, Bool.false_and, Bool.or_false] at y6 y7 y8
          subst y7 y8 hTT
          refine fin _ _ _ _ _ (hid.out.came y1 z1 y3 hx is2 (im.append (.cons _ _ .nil)) r1 r2 y4 r4 y5 y6 hid.out.xSi z2 z3 addR_ok noR0 nER noR2 noR3) rfl rfl rfl rfl (by assumption) (by assumption) (by k_mem) (by k_mem) (by k_sub) (by k_sub)
        | true =>
          k_steps
          refine Halt.mk (mergeV (fun v => OI v (some (fu.getD nw2))) (by assumption) (by assumption) ?g1 ?g2)
          case g1 =>
            clear st fin
            have hfu : OI vSince fu := hid.out.xSi
            clear hid
            cases fu with
            | none =>
              cases hfu
              k_steps
              exact MidV.intro (by assumption) (by assumption) (fun _ h => h) ⟨_, rfl⟩
            | some f =>
              obtain ⟨tl, rfl⟩ := hfu
              k_steps
              exact MidV.intro (by assumption) (by assumption) (fun _ h => h) ⟨_, rfl⟩
          case g2 =>
            intro vF h₅ tk₅ hvF F₅ N₅
            try dsimp only
            k_steps
            simp only [if_true, Bool.true_and] at y6 y7 y8
            have y9 : wn' = (wn || !isn || decide (1 < un + 1) || nm != Str.ofString "application" || mk == 3) := by
              rw [y8, gap_ok hid.out.els, ← hisn, show decide (un + 1 ≥ 2) = decide (1 < un + 1) from decide_eq_decide.mpr ⟨fun _ => by omega, fun _ => by omega⟩]
              simp only [Bool.or_assoc]
            clear y8
            refine Halt.mk (mergeB wn' (by assumption) (by assumption) ?g1 ?g2)
            case g1 =>
              clear st fin hisn hid y6 y7
              k_steps
              · exact MidB.intro (by assumption) (by assumption) (fun _ h => h) (by rw [y9, show wn = true by assumption]; rfl)
              · exact MidB.intro (by assumption) (by assumption) (fun _ h => h) (by rw [y9, show wn = false by assumption, show isn = true by assumption, decide_eq_true (show 1 < un + 1 by assumption)]; rfl)
              · exact MidB.intro (by assumption) (by assumption) (fun _ h => h) (by rw [y9, show wn = false by assumption, show isn = true by assumption, decide_eq_false (show ¬ 1 < un + 1 by assumption), show (nm != Str.ofString "application") = true by assumption]; rfl)
              · exact MidB.intro (by assumption) (by assumption) (fun _ h => h) (by rw [y9, show wn = false by assumption, show isn = true by assumption, decide_eq_false (show ¬ 1 < un + 1 by assumption), show (nm != Str.ofString "application") = false by assumption]; rfl)
              · exact MidB.intro (by assumption) (by assumption) (fun _ h => h) (by rw [y9, show wn = false by assumption, show isn = false by assumption]; rfl)
            case g2 =>
              clear st y9
              intro h₆ tk₆ F₇ N₈
              try dsimp only
              k_steps
              subst y7 hTT
              refine fin _ _ _ _ _ (hid.out.came y1 (by assumption) y3 hx is2 (im.append (.cons _ _ .nil)) r1 r2 y4 r4 y5 y6 hvF z2 z3 addR_ok noR0 nER noR2 noR3) rfl rfl rfl rfl (by assumption) (by assumption) (by k_mem) (by k_mem) (by k_sub) (by k_sub)
end

-- needs: state eng
/-- a frame: a tuple that opens with its name -/
structure FZ where
  a : Addr
  nm : Str
  t : Tok
  o : Obj
noncomputable def tf (fs : List FZ) : List (Addr × Obj) := fs.map fun f => (f.a, f.o)
noncomputable def vf (fs : List FZ) : List Value := fs.map fun f => .ref f.a
noncomputable def FOk (f : FZ) : Prop := f.o.cls = .type "tuple" ∧ ∃ items n, f.o.data = .seq items n ∧ items.toList[0]? = some (.str f.nm f.t) ∧ 0 < items.size
theorem vf_get {fs : List FZ} {i : Nat} {v : Value} (h : (vf fs)[i]? = some v) : ∃ z, fs[i]? = some z ∧ v = .ref z.a := by
  unfold vf at h
  rw [List.getElem?_map] at h
  obtain ⟨z, hz, rfl⟩ := Option.map_eq_some_iff.mp h
  exact ⟨z, hz, rfl⟩
theorem tf_mem {fs : List FZ} {f : FZ} (h : f ∈ fs) : (f.a, f.o) ∈ tf fs := List.mem_map_of_mem h
noncomputable def elicB (nm : Str) : Bool := !(nm == Str.ofString "ack" || nm == Str.ofString "padding" || nm == Str.ofString "close")
noncomputable def cntB (nm : Str) : Bool := !(nm == Str.ofString "ack" || nm == Str.ofString "close")
section
variable {prog : Program} {w : World} {A : Around} {E : Value → Shared → Prop} {s : Shared} {h₀ : Heap} {L : Addr} {m mg mb : Str → Option Value}
  {p : Program} {loose : List Str} {mean : ExcName → Option Value} {Q : Value → Shared → Prop} {news : List (Addr × Obj)}
theorem frame_name {value slice : PySem.Expr} {f : FZ} {u : Tok} (N : News h₀ L s.heap news) (hm : (f.a, f.o) ∈ news) (ok : FOk f) (h : Q (.str f.nm f.t) s)
    (hs : subscripted slice false (.ref f.a) (.int 0 u) = operate [.ref f.a, .int 0 u] (getItem (.ref f.a) (.int 0 u)) := by with_unfolding_all rfl) :
    wpAny (model prog w) A (subscriptTail value slice (.ref f.a) (.int 0 u)) Q E s := by
  obtain ⟨hc, items, n, hd, h0, hz⟩ := ok
  refine item_tupleT (l := items.toList) (j := 0) (x := .str f.nm f.t) ⟨_, (N _ hm).1, hc, n, by rw [hd, Array.toArray_toList]⟩ (by decide) (by decide) ?_ h0 h hs
  simp [seqIndex?, hz]
/-- a list against the empty one -/
theorem ne_nil {a b : Addr} {vs : List Value} {k j : Nat} (N : News h₀ L s.heap news) (ha : (a, listOf vs.toArray k) ∈ news) (hb : (b, listOf #[] j) ∈ news) (hu : A.units < cLine) (h : Q (.bool (!vs.isEmpty)) s) :
    wpAny (model prog w) A (compareOp .NotEq (.ref a) (.ref b)) Q E s := by
  have hl : s.heap.IsList a vs.toArray := ⟨_, (N _ ha).1, rfl, _, rfl⟩
  have hl' : s.heap.IsList b #[] := ⟨_, (N _ hb).1, rfl, _, rfl⟩
  cases vs with
  | nil => exact SeqAt.RcNeAt.lists (e := fun _ => true) hl hl' rfl hu (fun j h1 _ => absurd h1 (Nat.not_lt_zero _)) prog w E Q (by simpa using h)
  | cons v r => exact SeqAt.RcNeAt.lists_lengths hl hl' (by simp) hu prog w E Q (by simpa using h)
end
section
variable {prog : Program} {w : World} {A : Around} {E : Value → Shared → Prop} {s : Shared} {h₀ : Heap} {L : Addr} {m : Str → Option Value} {Q : Value → Shared → Prop} {news : List (Addr × Obj)}
theorem take_filter {α : Type} {f : α → Bool} {l : List α} {i : Nat} {a : α} (h : l[i]? = some a) (hy : f a = true) : (l.take i).filter f ++ [a] = (l.take (i + 1)).filter f := by
  rw [List.take_add_one, h]; simp [hy]
theorem take_filter0 {α : Type} {f : α → Bool} {l : List α} {i : Nat} {a : α} (h : l[i]? = some a) (hy : f a = false) : (l.take i).filter f = (l.take (i + 1)).filter f := by
  rw [List.take_add_one, h]; simp [hy]
theorem any_filter {α β : Type} {f : α → Bool} {g : α → β} {l : List α} : (!((l.filter f).map g).isEmpty) = l.any f := by
  induction l with
  | nil => rfl
  | cons a l ih => cases h : f a <;> simp_all
theorem str_eqAt (x y : Str) (t u : Tok) : SeqAt.EqAt A s (.str x t) (.str y u) (x == y) := keq_flat (PyProof.V.Flat.str x t) (PyProof.V.Flat.str y u)
noncomputable def strsAny : List (Str × Tok) → Str → Bool
  | [], _ => false
  | p :: r, x => p.1 == x || strsAny r x
theorem notin_strs {a : Addr} {x : Str} {t : Tok} {ss : List (Str × Tok)} (ht : IsTup s.heap a (ss.map fun p => Value.str p.1 p.2).toArray) (h : Q (.bool (!strsAny ss x)) s) :
    wpAny (model prog w) A (compareOp .NotIn (.str x t) (.ref a)) Q E s := by
  have e : (ss.map fun p => Value.str p.1 p.2).toArray.any (fun v => match v with | .str y _ => y == x | _ => false) = strsAny ss x := by
    clear ht h
    rw [List.any_toArray]
    induction ss with
    | nil => rfl
    | cons p r ih => simp only [List.map_cons, List.any_cons, ih]; rfl
  refine SeqAt.notIn_tupleAt (fun v => match v with | .str y _ => y == x | _ => false) ht (fun y hy => ?_) (by rw [e]; exact h)
  simp only [List.mem_toArray, List.mem_map] at hy
  obtain ⟨p, _, rfl⟩ := hy
  exact str_eqAt _ _ _ _
theorem notin_el {x : Str} {t : Tok} (F : Fr h₀ L s.heap m) (X : (heap w.params).In h₀) (h : Q (.bool (elicB x)) s) : wpAny (model prog w) A (compareOp .NotIn (.str x t) (.ref 22)) Q E s :=
  notin_strs (ss := [(Str.ofString "ack", 196), (Str.ofString "padding", 197), (Str.ofString "close", 198)]) ⟨_, F.keep _ _ (X 22 _ (by k_dflt k_is)), rfl, _, rfl⟩ (by
    have e : elicB x = !strsAny [(Str.ofString "ack", 196), (Str.ofString "padding", 197), (Str.ofString "close", 198)] x := by
      simp only [elicB, strsAny, Bool.or_false, Bool.or_assoc, Bool.beq_comm]
    rw [← e]; exact h)
theorem notin_cl {a : Addr} {x : Str} {t : Tok} {n : Nat} {u u' : Tok} (N : News h₀ L s.heap news) (ha : (a, ({ cls := .type "tuple", data := .seq #[.str (Str.ofString "ack") u, .str (Str.ofString "close") u'] n } : Obj)) ∈ news) (h : Q (.bool (cntB x)) s) : wpAny (model prog w) A (compareOp .NotIn (.str x t) (.ref a)) Q E s :=
  notin_strs (ss := [(Str.ofString "ack", u), (Str.ofString "close", u')]) ⟨_, (N _ ha).1, rfl, _, rfl⟩ (by
    have e : cntB x = !strsAny [(Str.ofString "ack", u), (Str.ofString "close", u')] x := by
      simp only [cntB, strsAny, Bool.or_false]
      congr 2
      all_goals simp [eq_comm, BEq.beq]
    rw [← e]; exact h)
end
section
variable {prog : Program} {w : World} {A : Around} {E : Value → Shared → Prop} {s : Shared} {h₀ : Heap} {L : Addr} {m mg mb : Str → Option Value}
  {p : Program} {loose : List Str} {mean : ExcName → Option Value} {Q : Value → Shared → Prop} {news : List (Addr × Obj)}
theorem words_frs_1 : True := by
  k_with_none
  k_with "k_enter" => (refine' code_defM ?k1ₓ ?k2ₓ ?k3ₓ ?k5ₓ ?k6ₓ ?k7ₓ ?k8ₓ ?k9ₓ ?kBₓ ?_ ?c2ₓ ?c3ₓ ?c4ₓ ?c5ₓ; (case k1ₓ => k_asm); (case k2ₓ => k_asm); (case k3ₓ => k_asm); (case k5ₓ => k_asm); (case k6ₓ => k_is); (case k7ₓ => k_is); (case k8ₓ => exact Nat.le_of_ble_eq_true rfl); (case k9ₓ => exact rfl); (case c5ₓ => decide); (case kBₓ => exact locs rfl); (case c2ₓ => exact rfl); (case c3ₓ => exact rfl); (case c4ₓ => exact rfl); k_whole; intro g'ₓ L'ₓ h'ₓ FG'ₓ F'ₓ N'ₓ X'ₓ T'ₓ; (try dsimp only [List.map, List.zip, List.zipWith] at F'ₓ); (try dsimp only); (try k_fold))
  k_with "k_mem" => first | with_reducible assumption | with_reducible exact List.mem_cons_self | (with_reducible apply List.mem_cons_of_mem; k_mem)
  k_with "k_all" => first | assumption | exact allLt_off (by assumption)
  k_with "size_fits" => first | assumption | (simp only [Array.size_push, List.size_toArray, List.length_append, List.length_cons, List.length_nil, vz_length, PySem.sizeLine_eq]; omega)
  k_with "binaryOp Add ref ref" => (k_here; (with_reducible show wpAny _ _ (binaryOp _ (Value.ref _) (Value.ref _)) _ _ _); k_dflt (refine' addL ?Fₓ ?Nₓ ?aₓ ?bₓ ?zₓ ?_; (case Fₓ => k_asm); (case Nₓ => k_asm); (case aₓ => k_mem); (case bₓ => k_mem); (case zₓ => (simp only [List.length_cons, List.length_nil, vz_length, sizeLine_eq]; omega))); intro D'ₓ h'ₓ F'ₓ N'ₓ l1ₓ; (try k_lt l1ₓ); (try k_sweep))
  k_with "k_sub" => ((try simp only [List.cons_append, List.nil_append]); (repeat ((with_reducible refine List.forall_mem_cons.mpr ⟨?_, ?_⟩); (next => (first | ((repeat (first | with_reducible exact List.mem_cons_self | with_reducible apply List.mem_cons_of_mem)); done) | (repeat (first | exact List.mem_cons_self | apply List.mem_cons_of_mem)))))); intro qₓ hqₓ; first | with_reducible exact absurd hqₓ List.not_mem_nil | (repeat (first | with_reducible exact hqₓ | with_reducible exact List.mem_append_left _ hqₓ | with_reducible exact List.mem_append_right _ hqₓ | with_reducible apply List.mem_cons_of_mem)))
  k_with "SrcLP" => (k_here; k_dflt (refine LCp.SrcLP.ledger (by rfl) (by k_asm) (by k_asm) (by k_mem) (by size_fits) ?_); intro g'ₓ; refine Halt.out ?_)
  k_with "CompSrc" => (k_here; k_dflt (refine LCg.CompSrc.ledger (by rfl) (by k_asm) (by k_asm) (by k_mem) (by size_fits) ?_); intro g'ₓ; refine Halt.out ?_)
  k_with "CompSrcT" => (k_here; k_dflt (refine LCt.CompSrcT.ledger (by rfl) (by k_asm) (by k_asm) (by k_mem) (by size_fits) ?_); intro g'ₓ; refine Halt.out ?_)
  k_with "CompEnd" => (refine Halt.out ?_)
  k_with "lsm_bools" => assumption
  k_with "eval Name" => (k_here; k_dflt (refine' nameX_L ?Fₓ ?vₓ ?_ ?aₓ ?bₓ; (case Fₓ => k_asm); (case aₓ => rfl); (case bₓ => rfl); (case vₓ => first | exact rfl | assumption); k_whole))
  k_with "eval Name" => (k_here; (with_reducible show wpAny _ _ (eval (Expr.Name _ _) (envOf _ _ _ _ _)) _ _ _); k_dflt (refine' ld ?k1ₓ ?k2ₓ ?_; (case k1ₓ => k_asm); (case k2ₓ => first | exact rfl | assumption); k_whole))
  k_with "k_ne" => (first | assumption | (apply Ne.symm; assumption) | exact Nat.ne_of_lt (by assumption) | exact Nat.ne_of_gt (by assumption))
  k_with "call builtin:len" => (k_here; (with_reducible show wpAny _ _ (call (Value.builtin "len") [Value.ref _]) _ _ _); k_dflt (refine' lenL ?Nₓ ?aₓ ?zₓ ?_; (case Nₓ => k_asm); (case aₓ => k_mem); (case zₓ => (simp only [vz_length]; omega))); (try simp only [vz_length]))
  k_with "setItem ref int" => (k_here; k_dflt (refine' kda_set (knd := PySem.intKind _ _) ?Fₓ ?Nₓ ?Uₓ ?dₓ (intKind_is _ _ _ _) ?zₓ ?_; (case Fₓ => k_asm); (case Nₓ => k_asm); (case Uₓ => k_updF); (case dₓ => assumption); (case zₓ => assumption)); intro h'ₓ o'ₓ F'ₓ N'ₓ hd'ₓ; (try k_sweep))
  k_with "call ref" => (k_here; (with_reducible show wpAny _ _ (call (Value.ref 238) _) _ _ _); k_dflt (refine' to_AL rfl ?dₓ ?uₓ (draw_at ?Fₓ ?Nₓ ?Xₓ ?Tₓ ?Uₓ ?oₓ ?hPₓ ?hSₓ ?hiₓ ?hlₓ ?psₓ ?hmₓ ?_); (case dₓ => exact Nat.le_of_ble_eq_true rfl); (case uₓ => exact Nat.le_of_ble_eq_true rfl); (case Fₓ => k_asm); (case Nₓ => k_asm); (case Xₓ => k_asm); (case Tₓ => k_asm); (case Uₓ => k_updF); (case oₓ => assumption); (case hPₓ => k_mem); (case hSₓ => k_mem); (case hiₓ => assumption); (case hlₓ => assumption); (case psₓ => k_ne); (case hmₓ => first | decide | assumption)); intro v'ₓ t'ₓ o'ₓ h'ₓ tk'ₓ hv0'ₓ hv1'ₓ oP'ₓ F'ₓ N'ₓ; (try dsimp only at N'ₓ); (try k_sweep))
  k_with "call ref" => (k_here; (with_reducible show wpAny _ _ (call (Value.ref 53) _) _ _ _); k_dflt (refine' to_AL rfl ?dₓ ?uₓ (add_at ?Fₓ ?Nₓ ?Xₓ ?Tₓ ?hLₓ ?hzₓ ?hlenₓ ?_); (case dₓ => exact Nat.le_of_ble_eq_true rfl); (case uₓ => exact Nat.le_of_ble_eq_true rfl); (case Fₓ => k_asm); (case Nₓ => k_asm); (case Xₓ => k_asm); (case Tₓ => k_asm); (case hLₓ => k_mem); (case hzₓ => k_sub); (case hlenₓ => first | assumption | omega)); intro RL' z' rs' k' h' tk' F' N' n1' n2' n3' er' es' el'; (repeat (replace n1' := List.forall_mem_cons.mp n1'; (have hn' := And.left n1'); replace n1' := And.right n1'; try dsimp only at hn')); (repeat (replace n2' := List.forall_mem_cons.mp n2'; (have hn' := And.left n2'); replace n2' := And.right n2'; try dsimp only at hn')); (try dsimp only at n3'); (try k_sweep))
  k_with "call ref" => (k_here; (with_reducible show wpAny _ _ (call (Value.ref 58) _) _ _ _); k_dflt (refine' to_AL rfl ?dₓ ?uₓ (has_at ?Fₓ ?Nₓ ?Xₓ ?Tₓ ?hLₓ ?hzₓ ?hlenₓ ?_); (case dₓ => exact Nat.le_of_ble_eq_true rfl); (case uₓ => exact Nat.le_of_ble_eq_true rfl); (case Fₓ => k_asm); (case Nₓ => k_asm); (case Xₓ => k_asm); (case Tₓ => k_asm); (case hLₓ => k_mem); (case hzₓ => k_sub); (case hlenₓ => first | assumption | omega)); intro h'ₓ tk'ₓ F'ₓ N'ₓ; (try k_sweep))
  k_with "compareOp NotIn str ref" => (k_here; k_dflt (refine' notin_el ?Fₓ ?Xₓ ?_; (case Fₓ => k_asm); (case Xₓ => k_asm)))
  k_with "compareOp NotIn str ref" => (k_here; k_dflt (refine' notin_cl ?Nₓ ?mₓ ?_; (case Nₓ => k_asm); (case mₓ => k_mem)))
  k_with "eval ListComp" => (refine Halt.out ?_)
  k_with "pyIter_ref" => (refine Halt.out ?_)
  k_with "subscriptTail Name" => (k_here; (with_reducible show wpAny _ _ (subscriptTail _ _ (Value.ref (FZ.a _)) (Value.int _ _)) _ _ _); k_dflt (refine' frame_name ?Nₓ ?mₓ ?oₓ ?_; (case Nₓ => k_asm); (case mₓ => k_mem); (case oₓ => assumption)))
  k_with "subscriptTail" => (k_here; (with_reducible show wpAny _ _ (subscriptTail _ _ (Value.ref (FZ.a _)) (Value.int _ _)) _ _ _); k_dflt (refine' frame_name ?Nₓ ?mₓ ?oₓ ?_; (case Nₓ => k_asm); (case mₓ => k_mem); (case oₓ => assumption)))
  trivial
theorem anyel_at {FR : Addr} {fs : List FZ} {k : Nat}
    (F : Fr h₀ L s.heap m) (N : News h₀ L s.heap news) (X₀ : (heap w.params).In h₀) (T : Top p loose mean mg mb h₀)
    (hL : (FR, listOf (vf fs).toArray k) ∈ news) (hz : ∀ q ∈ tf fs, q ∈ news) (ok : ∀ f ∈ fs, FOk f) (hlen : fs.length ≤ 1000)
    (h : ∀ h' tk', Fr h₀ L h' m → News h₀ L h' news → Q (.bool (fs.any fun f => elicB f.nm)) { s with heap := h', toks := tk' }) :
    wpAny (model prog w) (AL 370) (call (.ref 41) [.ref FR]) Q (fun _ _ => False) s := by
  have hW : ∀ q ∈ (FR, listOf (vf fs).toArray k) :: tf fs, q ∈ news := by
    intro q hq
    rcases List.mem_cons.mp hq with rfl | hq
    · exact hL
    · exact hz q hq
  refine enter (binds := [(Str.ofString "row", .ref FR)]) (W := (FR, listOf (vf fs).toArray k) :: tf fs) F N X₀ T hW (by k_dflt k_is) (by k_dflt k_is) (by decide) (BindsTo.of_eq rfl) (locs rfl) ?_ rfl rfl rfl (by decide)
  intro g L' h₁ tk hg F' N' X' T'
  have fin : ∀ b h' tk' m', b = (fs.any fun f => elicB f.nm) → Fr g L' h' m' → News g L' h' ((FR, listOf (vf fs).toArray k) :: tf fs) → Q (.bool b) { s with heap := h', toks := tk' } := fun b h' tk' m' e F' N' => e ▸ h h' tk' (backF F N hW hg F') (backAll F N hW hg F' (pre := []) N')
  clear h hW hL hz N X₀ T F hg
  generalize hTF : tf fs = TF at N' fin
  (try dsimp only)
  k_unmd
  k_fold
  k_steps
  refine' Halt.mk (comp_T (h₀ := g) (L := L') (m := fun y => [(Str.ofString "row", Value.ref FR)].reverse.lookup y) (cl := []) (x := Str.ofString "f") rfl (by decide) rfl (by decide) rfl ?_)
  k_steps
  refine Halt.mk (compT_list (its := (vf fs).toArray) rfl (by assumption) (by assumption) (.inr ⟨_, .head _, rfl, _, rfl⟩) (by simp only [vf, List.size_toArray, List.length_map, sizeLine_eq]; omega) ?_)
  intro s₂ hs₂
  obtain ⟨g', rfl⟩ := hs₂
  refine invT (fun i ys nw => nw = (FR, listOf (vf fs).toArray k) :: TF ∧ ys = ((fs.take i).filter fun f => elicB f.nm).map fun f => Value.ref f.a) ⟨rfl, rfl⟩ ?turn ?done
  case turn =>
    intro i ys nw v I oI C oC D m₂ h tk E' hi hJ hv hC hx F₂ N₂ off ne
    obtain ⟨rfl, rfl⟩ := hJ
    obtain ⟨z, hz, rfl⟩ := vf_get (i := i) (v := v) (by simpa using hv)
    have hzm : (z.a, z.o) ∈ TF := hTF ▸ tf_mem (List.mem_of_getElem? hz)
    have okz := ok z (List.mem_of_getElem? hz)
    clear fin
    k_unmd
    k_fold
    k_steps
    · refine ⟨LCg.CompEnd.intro (by assumption) (newsSub (by assumption) (by k_sub)) _ (fun _ h => h) off (.inr ⟨_, .head _, rfl, _, rfl⟩) ⟨rfl, ?_⟩⟩
      rw [← take_filter (f := fun f : FZ => elicB f.nm) hz (by assumption), List.map_append]; rfl
    · refine ⟨LCg.CompEnd.intro (by assumption) (newsSub (by assumption) (by k_sub)) _ (fun _ h => h) off (.inr ⟨_, .head _, rfl, _, rfl⟩) ⟨rfl, ?_⟩⟩
      rw [← take_filter0 (f := fun f : FZ => elicB f.nm) hz (by assumption)]
  case done =>
    intro ys nw hJ
    obtain ⟨rfl, rfl⟩ := hJ
    rw [show (vf fs).toArray.size = fs.length by simp [vf], List.take_length]
    intro D h' tk' F₃ N₃ o1
    clear F' N' ok hlen
    k_unmd
    try k_fold
    k_steps
    refine ne_nil (by assumption) (.tail _ (.head _)) (.head _) (Nat.le_of_ble_eq_true rfl) ?_
    rw [any_filter]
    k_steps
    exact fin _ _ _ _ rfl (by assumption) (newsSub (by assumption) (by k_sub))
theorem anyfl_at {FR : Addr} {fs : List FZ} {k : Nat}
    (F : Fr h₀ L s.heap m) (N : News h₀ L s.heap news) (X₀ : (heap w.params).In h₀) (T : Top p loose mean mg mb h₀)
    (hL : (FR, listOf (vf fs).toArray k) ∈ news) (hz : ∀ q ∈ tf fs, q ∈ news) (ok : ∀ f ∈ fs, FOk f) (hlen : fs.length ≤ 1000)
    (h : ∀ h' tk', Fr h₀ L h' m → News h₀ L h' news → Q (.bool (fs.any fun f => cntB f.nm)) { s with heap := h', toks := tk' }) :
    wpAny (model prog w) (AL 370) (call (.ref 46) [.ref FR]) Q (fun _ _ => False) s := by
  have hW : ∀ q ∈ (FR, listOf (vf fs).toArray k) :: tf fs, q ∈ news := by
    intro q hq
    rcases List.mem_cons.mp hq with rfl | hq
    · exact hL
    · exact hz q hq
  refine enter (binds := [(Str.ofString "row", .ref FR)]) (W := (FR, listOf (vf fs).toArray k) :: tf fs) F N X₀ T hW (by k_dflt k_is) (by k_dflt k_is) (by decide) (BindsTo.of_eq rfl) (locs rfl) ?_ rfl rfl rfl (by decide)
  intro g L' h₁ tk hg F' N' X' T'
  have fin : ∀ b h' tk' m', b = (fs.any fun f => cntB f.nm) → Fr g L' h' m' → News g L' h' ((FR, listOf (vf fs).toArray k) :: tf fs) → Q (.bool b) { s with heap := h', toks := tk' } := fun b h' tk' m' e F' N' => e ▸ h h' tk' (backF F N hW hg F') (backAll F N hW hg F' (pre := []) N')
  clear h hW hL hz N X₀ T F hg
  generalize hTF : tf fs = TF at N' fin
  (try dsimp only)
  k_unmd
  k_fold
  k_steps
  refine' Halt.mk (comp_T (h₀ := g) (L := L') (m := fun y => [(Str.ofString "row", Value.ref FR)].reverse.lookup y) (cl := []) (x := Str.ofString "f") rfl (by decide) rfl (by decide) rfl ?_)
  k_steps
  refine Halt.mk (compT_list (its := (vf fs).toArray) rfl (by assumption) (by assumption) (.inr ⟨_, .head _, rfl, _, rfl⟩) (by simp only [vf, List.size_toArray, List.length_map, sizeLine_eq]; omega) ?_)
  intro s₂ hs₂
  obtain ⟨g', rfl⟩ := hs₂
  refine invT (fun i ys nw => nw = (FR, listOf (vf fs).toArray k) :: TF ∧ ys = ((fs.take i).filter fun f => cntB f.nm).map fun f => Value.ref f.a) ⟨rfl, rfl⟩ ?turn ?done
  case turn =>
    intro i ys nw v I oI C oC D m₂ h tk E' hi hJ hv hC hx F₂ N₂ off ne
    obtain ⟨rfl, rfl⟩ := hJ
    obtain ⟨z, hz, rfl⟩ := vf_get (i := i) (v := v) (by simpa using hv)
    have hzm : (z.a, z.o) ∈ TF := hTF ▸ tf_mem (List.mem_of_getElem? hz)
    have okz := ok z (List.mem_of_getElem? hz)
    clear fin
    k_unmd
    k_fold
    k_steps
    · refine ⟨LCg.CompEnd.intro (by assumption) (newsSub (by assumption) (by k_sub)) _ (fun _ h => h) off (.inr ⟨_, .head _, rfl, _, rfl⟩) ⟨rfl, ?_⟩⟩
      rw [← take_filter (f := fun f : FZ => cntB f.nm) hz (by assumption), List.map_append]; rfl
    · refine ⟨LCg.CompEnd.intro (by assumption) (newsSub (by assumption) (by k_sub)) _ (fun _ h => h) off (.inr ⟨_, .head _, rfl, _, rfl⟩) ⟨rfl, ?_⟩⟩
      rw [← take_filter0 (f := fun f : FZ => cntB f.nm) hz (by assumption)]
  case done =>
    intro ys nw hJ
    obtain ⟨rfl, rfl⟩ := hJ
    rw [show (vf fs).toArray.size = fs.length by simp [vf], List.take_length]
    intro D h' tk' F₃ N₃ o1
    clear F' N' ok hlen
    k_unmd
    try k_fold
    k_steps
    refine ne_nil (by assumption) (.tail _ (.head _)) (.head _) (Nat.le_of_ble_eq_true rfl) ?_
    rw [any_filter]
    k_steps
    exact fin _ _ _ _ rfl (by assumption) (newsSub (by assumption) (by k_sub))
end

-- needs: led frs
noncomputable def tk16 (t0 t1 t2 t3 t4 t5 t6 t7 t8 t9 t10 t11 t12 t13 t14 t15 : Tok) : Nat → Tok
  | 0 => t0
  | 1 => t1
  | 2 => t2
  | 3 => t3
  | 4 => t4
  | 5 => t5
  | 6 => t6
  | 7 => t7
  | 8 => t8
  | 9 => t9
  | 10 => t10
  | 11 => t11
  | 12 => t12
  | 13 => t13
  | 14 => t14
  | _ => t15
section
variable {prog : Program} {w : World} {A : Around} {E : Value → Shared → Prop} {s : Shared} {h₀ : Heap} {L : Addr} {m mg mb : Str → Option Value}
  {p : Program} {loose : List Str} {mean : ExcName → Option Value} {Q : Value → Shared → Prop} {TL : List (Addr × Obj)}
theorem words_space_1 : True := by
  k_with_none
  k_with "k_enter" => (refine' code_defM ?k1ₓ ?k2ₓ ?k3ₓ ?k5ₓ ?k6ₓ ?k7ₓ ?k8ₓ ?k9ₓ ?kBₓ ?_ ?c2ₓ ?c3ₓ ?c4ₓ ?c5ₓ; (case k1ₓ => k_asm); (case k2ₓ => k_asm); (case k3ₓ => k_asm); (case k5ₓ => k_asm); (case k6ₓ => k_is); (case k7ₓ => k_is); (case k8ₓ => exact Nat.le_of_ble_eq_true rfl); (case k9ₓ => exact rfl); (case c5ₓ => decide); (case kBₓ => exact locs rfl); (case c2ₓ => exact rfl); (case c3ₓ => exact rfl); (case c4ₓ => exact rfl); k_whole; intro g'ₓ L'ₓ h'ₓ FG'ₓ F'ₓ N'ₓ X'ₓ T'ₓ; (try dsimp only [List.map, List.zip, List.zipWith] at F'ₓ); (try dsimp only); (try k_fold))
  k_with "k_mem" => first | with_reducible assumption | with_reducible exact List.mem_cons_self | (with_reducible apply List.mem_cons_of_mem; k_mem)
  k_with "k_all" => first | assumption | exact allLt_off (by assumption)
  k_with "size_fits" => first | assumption | (simp only [Array.size_push, List.size_toArray, List.length_append, List.length_cons, List.length_nil, vz_length, PySem.sizeLine_eq]; omega)
  k_with "binaryOp Add ref ref" => (k_here; (with_reducible show wpAny _ _ (binaryOp _ (Value.ref _) (Value.ref _)) _ _ _); k_dflt (refine' addL ?Fₓ ?Nₓ ?aₓ ?bₓ ?zₓ ?_; (case Fₓ => k_asm); (case Nₓ => k_asm); (case aₓ => k_mem); (case bₓ => k_mem); (case zₓ => (simp only [List.length_cons, List.length_nil, vz_length, sizeLine_eq]; omega))); intro D'ₓ h'ₓ F'ₓ N'ₓ l1ₓ; (try k_lt l1ₓ); (try k_sweep))
  k_with "k_sub" => ((try simp only [List.cons_append, List.nil_append]); (repeat ((with_reducible refine List.forall_mem_cons.mpr ⟨?_, ?_⟩); (next => (first | ((repeat (first | with_reducible exact List.mem_cons_self | with_reducible apply List.mem_cons_of_mem)); done) | (repeat (first | exact List.mem_cons_self | apply List.mem_cons_of_mem)))))); intro qₓ hqₓ; first | with_reducible exact absurd hqₓ List.not_mem_nil | (repeat (first | with_reducible exact hqₓ | with_reducible exact List.mem_append_left _ hqₓ | with_reducible exact List.mem_append_right _ hqₓ | with_reducible apply List.mem_cons_of_mem)))
  k_with "SrcLP" => (k_here; k_dflt (refine LCp.SrcLP.ledger (by rfl) (by k_asm) (by k_asm) (by k_mem) (by size_fits) ?_); intro g'ₓ; refine Halt.out ?_)
  k_with "CompSrc" => (k_here; k_dflt (refine LCg.CompSrc.ledger (by rfl) (by k_asm) (by k_asm) (by k_mem) (by size_fits) ?_); intro g'ₓ; refine Halt.out ?_)
  k_with "CompSrcT" => (k_here; k_dflt (refine LCt.CompSrcT.ledger (by rfl) (by k_asm) (by k_asm) (by k_mem) (by size_fits) ?_); intro g'ₓ; refine Halt.out ?_)
  k_with "CompEnd" => (refine Halt.out ?_)
  k_with "lsm_bools" => assumption
  k_with "eval Name" => (k_here; k_dflt (refine' nameX_L ?Fₓ ?vₓ ?_ ?aₓ ?bₓ; (case Fₓ => k_asm); (case aₓ => rfl); (case bₓ => rfl); (case vₓ => first | exact rfl | assumption); k_whole))
  k_with "eval Name" => (k_here; (with_reducible show wpAny _ _ (eval (Expr.Name _ _) (envOf _ _ _ _ _)) _ _ _); k_dflt (refine' ld ?k1ₓ ?k2ₓ ?_; (case k1ₓ => k_asm); (case k2ₓ => first | exact rfl | assumption); k_whole))
  k_with "k_ne" => (first | assumption | (apply Ne.symm; assumption) | exact Nat.ne_of_lt (by assumption) | exact Nat.ne_of_gt (by assumption))
  k_with "call builtin:len" => (k_here; (with_reducible show wpAny _ _ (call (Value.builtin "len") [Value.ref _]) _ _ _); k_dflt (refine' lenL ?Nₓ ?aₓ ?zₓ ?_; (case Nₓ => k_asm); (case aₓ => k_mem); (case zₓ => (simp only [vz_length]; omega))); (try simp only [vz_length]))
  k_with "setItem ref int" => (k_here; k_dflt (refine' kda_set (knd := PySem.intKind _ _) ?Fₓ ?Nₓ ?Uₓ ?dₓ (intKind_is _ _ _ _) ?zₓ ?_; (case Fₓ => k_asm); (case Nₓ => k_asm); (case Uₓ => k_updF); (case dₓ => assumption); (case zₓ => assumption)); intro h'ₓ o'ₓ F'ₓ N'ₓ hd'ₓ; (try k_sweep))
  k_with "call ref" => (k_here; (with_reducible show wpAny _ _ (call (Value.ref 238) _) _ _ _); k_dflt (refine' to_AL rfl ?dₓ ?uₓ (draw_at ?Fₓ ?Nₓ ?Xₓ ?Tₓ ?Uₓ ?oₓ ?hPₓ ?hSₓ ?hiₓ ?hlₓ ?psₓ ?hmₓ ?_); (case dₓ => exact Nat.le_of_ble_eq_true rfl); (case uₓ => exact Nat.le_of_ble_eq_true rfl); (case Fₓ => k_asm); (case Nₓ => k_asm); (case Xₓ => k_asm); (case Tₓ => k_asm); (case Uₓ => k_updF); (case oₓ => assumption); (case hPₓ => k_mem); (case hSₓ => k_mem); (case hiₓ => assumption); (case hlₓ => assumption); (case psₓ => k_ne); (case hmₓ => first | decide | assumption)); intro v'ₓ t'ₓ o'ₓ h'ₓ tk'ₓ hv0'ₓ hv1'ₓ oP'ₓ F'ₓ N'ₓ; (try dsimp only at N'ₓ); (try k_sweep))
  k_with "call ref" => (k_here; (with_reducible show wpAny _ _ (call (Value.ref 53) _) _ _ _); k_dflt (refine' to_AL rfl ?dₓ ?uₓ (add_at ?Fₓ ?Nₓ ?Xₓ ?Tₓ ?hLₓ ?hzₓ ?hlenₓ ?_); (case dₓ => exact Nat.le_of_ble_eq_true rfl); (case uₓ => exact Nat.le_of_ble_eq_true rfl); (case Fₓ => k_asm); (case Nₓ => k_asm); (case Xₓ => k_asm); (case Tₓ => k_asm); (case hLₓ => k_mem); (case hzₓ => k_sub); (case hlenₓ => first | assumption | omega)); intro RL' z' rs' k' h' tk' F' N' n1' n2' n3' er' es' el'; (repeat (replace n1' := List.forall_mem_cons.mp n1'; (have hn' := And.left n1'); replace n1' := And.right n1'; try dsimp only at hn')); (repeat (replace n2' := List.forall_mem_cons.mp n2'; (have hn' := And.left n2'); replace n2' := And.right n2'; try dsimp only at hn')); (try dsimp only at n3'); (try k_sweep))
  k_with "call ref" => (k_here; (with_reducible show wpAny _ _ (call (Value.ref 58) _) _ _ _); k_dflt (refine' to_AL rfl ?dₓ ?uₓ (has_at ?Fₓ ?Nₓ ?Xₓ ?Tₓ ?hLₓ ?hzₓ ?hlenₓ ?_); (case dₓ => exact Nat.le_of_ble_eq_true rfl); (case uₓ => exact Nat.le_of_ble_eq_true rfl); (case Fₓ => k_asm); (case Nₓ => k_asm); (case Xₓ => k_asm); (case Tₓ => k_asm); (case hLₓ => k_mem); (case hzₓ => k_sub); (case hlenₓ => first | assumption | omega)); intro h'ₓ tk'ₓ F'ₓ N'ₓ; (try k_sweep))
  k_with "call ref" => (k_here; (with_reducible show wpAny _ _ (call (Value.ref 41) _) _ _ _); k_dflt (refine' to_AL rfl ?dₓ ?uₓ (anyel_at ?Fₓ ?Nₓ ?Xₓ ?Tₓ ?hLₓ ?hzₓ ?oₓ ?hlₓ ?_); (case dₓ => exact Nat.le_of_ble_eq_true rfl); (case uₓ => exact Nat.le_of_ble_eq_true rfl); (case Fₓ => k_asm); (case Nₓ => k_asm); (case Xₓ => k_asm); (case Tₓ => k_asm); (case hLₓ => k_mem); (case hzₓ => (intro qₓ hqₓ; first | (refine mem_in ((‹∀ qₓ ∈ tf _, qₓ ∈ _›) qₓ hqₓ) ?_; first | exact ⟨1, rfl⟩ | exact ⟨2, rfl⟩ | exact ⟨3, rfl⟩ | exact ⟨4, rfl⟩ | exact ⟨5, rfl⟩ | exact ⟨6, rfl⟩ | exact ⟨7, rfl⟩ | exact ⟨8, rfl⟩ | exact ⟨9, rfl⟩ | exact ⟨10, rfl⟩ | exact ⟨11, rfl⟩ | exact ⟨12, rfl⟩ | exact ⟨13, rfl⟩ | exact ⟨14, rfl⟩ | exact ⟨15, rfl⟩) | (repeat (first | with_reducible exact (‹∀ qₓ ∈ tf _, qₓ ∈ _›) qₓ hqₓ | with_reducible apply List.mem_cons_of_mem)))); (case oₓ => assumption); (case hlₓ => assumption)); intro h'ₓ tk'ₓ F'ₓ N'ₓ; (try k_sweep))
  k_with "call ref" => (k_here; (with_reducible show wpAny _ _ (call (Value.ref 46) _) _ _ _); k_dflt (refine' to_AL rfl ?dₓ ?uₓ (anyfl_at ?Fₓ ?Nₓ ?Xₓ ?Tₓ ?hLₓ ?hzₓ ?oₓ ?hlₓ ?_); (case dₓ => exact Nat.le_of_ble_eq_true rfl); (case uₓ => exact Nat.le_of_ble_eq_true rfl); (case Fₓ => k_asm); (case Nₓ => k_asm); (case Xₓ => k_asm); (case Tₓ => k_asm); (case hLₓ => k_mem); (case hzₓ => (intro qₓ hqₓ; first | (refine mem_in ((‹∀ qₓ ∈ tf _, qₓ ∈ _›) qₓ hqₓ) ?_; first | exact ⟨1, rfl⟩ | exact ⟨2, rfl⟩ | exact ⟨3, rfl⟩ | exact ⟨4, rfl⟩ | exact ⟨5, rfl⟩ | exact ⟨6, rfl⟩ | exact ⟨7, rfl⟩ | exact ⟨8, rfl⟩ | exact ⟨9, rfl⟩ | exact ⟨10, rfl⟩ | exact ⟨11, rfl⟩ | exact ⟨12, rfl⟩ | exact ⟨13, rfl⟩ | exact ⟨14, rfl⟩ | exact ⟨15, rfl⟩) | (repeat (first | with_reducible exact (‹∀ qₓ ∈ tf _, qₓ ∈ _›) qₓ hqₓ | with_reducible apply List.mem_cons_of_mem)))); (case oₓ => assumption); (case hlₓ => assumption)); intro h'ₓ tk'ₓ F'ₓ N'ₓ; (try k_sweep))
  trivial
theorem space_at {nm : Str} {tn : Tok} (F : Fr h₀ L s.heap m) (X₀ : (heap w.params).In h₀) (T : Top p loose mean mg mb h₀) (N : News h₀ L s.heap TL)
    (h : ∀ (X XD SD AK RL EC : Addr) (oSD : Obj) (kx : Nat → Tok) (kR kE : Nat) (t0 t1 t2 t3 t4 : Tok) h' tk', oSD.IsDictOf (intKind prog w) [] → (SD == sysModules) = false → Fr h₀ L h' m →
      News h₀ L h' ((X, instObj 220 XD) :: (XD, xdO w kx (.str nm tn) (.int 0 t0) (.ref SD) .none (.ref AK) .none .none (.ref RL) .none .none .none (.int 0 t1) (.bool false) (.bool false) (.ref EC) (.bool false)) :: (SD, oSD) :: (EC, listOf #[.int 0 t2, .int 0 t3, .int 0 t4] kE) :: (RL, listOf #[] kR) :: TL) →
      (∀ q ∈ TL, @LT.lt Nat _ q.1 XD) → @LT.lt Nat _ XD SD → @LT.lt Nat _ SD EC → @LT.lt Nat _ RL EC → (∀ q ∈ TL, @LT.lt Nat _ q.1 RL) → Q (.ref X) { s with heap := h', toks := tk' }) :
    wpAny (model prog w) (AL 330) (call (.ref 220) [.str nm tn]) Q (fun _ _ => False) s := by
  have X' := X₀
  have T' := T
  clear X₀ T
  k_unmd
  k_steps
  rename News h₀ L _ _ => kN
  refine h _ _ _ _ _ _ _ (tk16 _ _ _ _ _ _ _ _ _ _ _ _ _ _ _ _) _ _ _ _ _ _ _ _ _ ?a1 ?a2 (by assumption) (newsSub kN (List.forall_mem_cons.mpr ⟨.tail _ (.tail _ (.tail _ (.tail _ (.head _)))), List.forall_mem_cons.mpr ⟨.tail _ (.tail _ (.tail _ (.tail _ (.tail _ (.head _))))), List.forall_mem_cons.mpr ⟨.tail _ (.tail _ (.tail _ (.head _))), List.forall_mem_cons.mpr ⟨.head _, List.forall_mem_cons.mpr ⟨.tail _ (.head _), fun q hq => .tail _ (.tail _ (.tail _ (.tail _ (.tail _ (.tail _ hq)))))⟩⟩⟩⟩⟩)) ?a3 ?a4 ?a5 ?a6 ?a7
  case a1 => assumption
  case a2 => assumption
  case a3 => assumption
  case a4 => assumption
  case a5 => assumption
  case a6 => assumption
  case a7 => exact allLt_lt (by assumption)
end

-- nolocal
-- needs: eng
/-! dict(a list of pairs) -/
namespace DPf
theorem entry_update_loop : entryFor table "dict.update.loop" = some Builtin.«dict.update.loop» := entryFor_of_tree (by kernel_rfl)
theorem plain_update_loop : plainId "dict.update.loop" = true := by decide +kernel
theorem list_keys_none : typeLookup (.type "list") (Str.ofString "keys") = pure none := am_miss_of_fast (by kernel_rfl)
end DPf
section
variable {prog : Program} {w : World} {A : Around} {E : Value → Shared → Prop} {s : Shared}
theorem getAttrQ_keys {a : Addr} {vs : Array Value} {k : Nat} {Q : Option Value → Shared → Prop} (hx : s.heap.get? a = some { cls := .type "list", data := .seq vs k }) (hA : A.handled = none)
    (h : ∀ h' tk, (∀ b o, s.heap.get? b = some o → h'.get? b = some o) → Q none { s with heap := h', toks := tk }) : wpAny (model prog w) A (getAttr? (.ref a) (Str.ofString "keys")) Q E s := by
  obtain ⟨hp, g, d, tk, os⟩ := s
  have hT : ∀ tk', (⟨hp, g, d, tk', os⟩ : Shared).TypeIs (.ref a) "list" := fun _ => ⟨_, hx, rfl⟩
  have f1 := sub_AttributeError
  have f3 := F.slot_list_getattribute.lookup
  have f4 := F.slot_list_getattribute.bind (.ref a)
  have f5 := am_list_getattr_none
  unfold getAttr? getAttrBy? getAttrBy
  repeat (any_goals (first | assumption | exact hT _ | ((with_reducible show wpAny _ _ (call (Value.builtin "list.__getattribute__") _ _) _ _ _); refine call_meets F.slot_list_getattribute (hT _) am_entry_list_getattribute (F.args_list_getattribute_2 _ _) (meets_getattribute_miss_list a vs k #[] (Str.ofString "keys") _ DPf.list_keys_none (by decide +kernel)) ⟨hx, hA, fun h' tk' e hx' => ?_⟩) | wp_step))
  obtain ⟨t', u', he⟩ := hx'.there
  show wpAny _ _ (getattributeRaised _ _ _ _ _ _ _) _ _ _
  unfold getattributeRaised
  repeat (any_goals (first | assumption | wp_step))
  exact h _ _ hx'.keeps
end
section
variable {prog : Program} {w : World} {A : Around} {R : Result → Shared → Prop} {I d : Addr} {fp : List Addr} {n : Nat} {P : Nat → Value → Prop} {St : Nat → Heap → Prop}
theorem update_loop (W : Walks prog w A.in1 I fp [I] n P St) (hd : d ∉ fp) (kvs : List (Int × Value)) (hl : kvs.length = n) (hz : n ≤ 1000)
    (Tup : Heap → Prop) (hT : ∀ h h', Tup h → (∀ b o, b ≠ d → b ≠ I → h.get? b = some o → h'.get? b = some o) → Tup h')
    (hP : ∀ i v h, P i v → Tup h → ∃ a k t x c, v = .ref a ∧ kvs[i]? = some (k, x) ∧ h.get? a = some { cls := .type "tuple", data := .seq #[.int k t, x] c }) :
    ∀ (j i : Nat) (ii : Int) (t : Tok) (s : Shared), n - i = j → i ≤ n → St i s.heap → Tup s.heap → s.heap.DictOf (intKind prog w) d (merged [] (kvs.take i)) →
      (∀ h' tk, (∀ b o, b ≠ d → b ≠ I → s.heap.get? b = some o → h'.get? b = some o) → h'.DictOf (intKind prog w) d (merged [] kvs) → R (.ok (.ret .none)) { s with heap := h', toks := tk }) →
      codeAny (model prog w) A (.builtin "dict.update.loop" ⟨[.ref d, .ref I, .int ii t, .none], []⟩) R s := by
  have hdI : d ≠ I := fun e => hd (e ▸ W.sub I (List.mem_singleton.mpr rfl))
  have inI : ∀ b : Addr, b ≠ I → b ∉ [I] := fun b hb hm => hb (List.mem_singleton.mp hm)
  intro j
  induction j with
  | zero =>
    intro i ii t s hj hi hst hT0 hd0 hR
    have hin : i = n := by omega
    subst hin
    refine codeAny_builtin DPf.entry_update_loop ?_
    rw [Around.under_plainId DPf.plain_update_loop _]
    show wpAny _ A.in1 (pyNext (.ref I) >>= _) _ _ s
    refine wpAny_bind (W.done s _ _ hst fun h' tk hk => ?_)
    show wpAny _ A.in1 (Builtin.Dict.addKeywords d [] >>= fun _ => ret Value.none) _ _ _
    refine wpAny_bind (wpAny_pure (wpAny_pure (hR h' tk (fun b o _ hb e => hk b o (inI b hb) e) ?_)))
    rw [← hl, List.take_length] at hd0
    let ⟨o, es, ep, ho, r⟩ := hd0
    exact ⟨o, es, ep, hk d o (inI d hdI) ho, r⟩
  | succ j ih =>
    intro i ii t s hj hi hst hT0 hd0 hR
    have hlt : i < n := by omega
    refine codeAny_builtin DPf.entry_update_loop ?_
    rw [Around.under_plainId DPf.plain_update_loop _]
    show wpAny _ A.in1 (pyNext (.ref I) >>= _) _ _ s
    refine wpAny_bind (W.item i s _ _ hlt hst fun v h' tk hPv hst' hk => ?_)
    have hT1 := hT _ _ hT0 fun b o _ hb e => hk b o (inI b hb) e
    obtain ⟨a, k, tk', x, c, rfl, hkv, ha⟩ := hP i v h' hPv hT1
    have hd1 : h'.DictOf (intKind prog w) d (merged [] (kvs.take i)) := let ⟨o, es, ep, ho, r⟩ := hd0; ⟨o, es, ep, hk d o (inI d hdI) ho, r⟩
    refine wpAny_bind (wpAny_holding ?_)
    refine wpAny_bind (wpAny_tryCatch ?_)
    unfold Builtin.Dict.pairItems
    refine wpAny_bind (wpAny_typeOf (T := "tuple") ⟨_, ha, rfl⟩ ?_)
    rw [if_pos (by decide)]
    refine wpAny_bind (wpAny_seqItems ha rfl (wpAny_pure ?_))
    show wpAny _ _ (holding [Value.int k tk', x] (dictSet d (Value.int k tk') x)) _ _ _
    refine wpAny_holding ?_
    have hlen : (merged [] (kvs.take i)).length ≤ sizeLine := by
      rw [sizeLine_eq]
      have key : ∀ (more acc : List (Int × Value)), (merged acc more).length ≤ acc.length + more.length := by
        intro more
        induction more with
        | nil => exact fun acc => Nat.le_refl _
        | cons p r ih =>
          intro acc
          have h1 := ih (stored acc p.1 p.2)
          have h2 : (stored acc p.1 p.2).length ≤ acc.length + 1 := by
            unfold stored
            split
            · rw [List.length_map]; omega
            · rw [List.length_append]; exact Nat.le_refl _
          show (merged (stored acc p.1 p.2) r).length ≤ _
          rw [List.length_cons]
          omega
      have := key (kvs.take i) []
      have := List.length_take_le i kvs
      simp only [List.length_nil] at *
      omega
    refine wpAny_dictSet_pairs (knd := intKind prog w) (intKind_is _ _ _ _) hd1 (fun h'' hd2 hs => ?_) hlen
    rw [← merged_take_succ [] kvs i (k, x) hkv] at hd2
    refine wpAny_pure ⟨plainId_quiet DPf.plain_update_loop _, ih (i + 1) _ _ _ (by omega) hlt (W.frame _ _ _ hst' fun b hb o e => (hs.2 b fun q => hd (q ▸ hb)).trans e) (hT _ _ hT1 fun b o hb _ e => (hs.2 b hb).trans e) hd2 fun h3 tk3 hk3 hd3 => ?_⟩
    exact hR h3 tk3 (fun b o h1 h2 e => hk3 b o h1 h2 ((hs.2 b h1).trans (hk b o (inI b h2) e))) hd3
end
section
variable {prog : Program} {w : World} {A : Around} {E : Value → Shared → Prop} {s : Shared} {h₀ : Heap} {L : Addr} {m : Str → Option Value} {news : List (Addr × Obj)}
/-- a pair as it lies: its tuple's address, key, value -/
structure PZ where
  a : Addr
  k : Int
  t : Tok
  x : Value
noncomputable abbrev PZ.obj (p : PZ) : Obj := { cls := .type "tuple", data := .seq #[.int p.k p.t, p.x] }
noncomputable def pairsK (ps : List PZ) : List (Int × Value) := ps.map fun p => (p.k, p.x)
noncomputable def pairsV (ps : List PZ) : List Value := ps.map fun p => .ref p.a
noncomputable def pairsN (ps : List PZ) : List (Addr × Obj) := ps.map fun p => (p.a, p.obj)
theorem dict_pairs {l : Addr} {ps : List PZ} {kl : Nat} {Q : Value → Shared → Prop} (hh : A.handled = none) (F : Fr h₀ L s.heap m) (N : News h₀ L s.heap news) (hbig : h₀.NoLimit) (hl : (l, listOf (pairsV ps).toArray kl) ∈ news) (hp : ∀ q ∈ pairsN ps, q ∈ news) (hz : ps.length ≤ 1000)
    (h : ∀ D o h' tk, Fr h₀ L h' m → News h₀ L h' ((D, o) :: news) → (∀ q ∈ news, q.1 < D) → (D == sysModules) = false → o.IsDictOf (intKind prog w) (merged [] (pairsK ps)) → Q (.ref D) { s with heap := h', toks := tk }) :
    wpAny (model prog w) A (call (.type "dict") [.ref l]) Q E s := by
  have hll := (N _ hl).1
  have hlt : l < s.heap.objs.size := Heap.lt_size hll
  refine callType_codes (Q₁ := fun obj s₁ => obj = .ref s.heap.objs.size ∧ s₁ = { s with heap := s.heap.push { cls := .type "dict", data := .dict #[] } }) PySem.F.kt_called_dict (PySem.F.kt_typeCall_dict_1 _) PySem.F.entry_dict_init (kt_code_dict_new _ ⟨rfl, rfl⟩) ?_
  rintro obj s₁ ⟨rfl, rfl⟩
  have hnew : (s.heap.push { cls := .type "dict", data := .dict #[] }).DictOf (intKind prog w) s.heap.objs.size [] := Heap.DictOf.new s.heap
  have up : ∀ b o, s.heap.get? b = some o → (s.heap.push { cls := .type "dict", data := .dict #[] }).get? b = some o := fun b o e => Heap.get?_push_of_some _ e
  refine ⟨hnew.typeIs, PySem.F.args_dict_init_2 _ _, ?_⟩
  unfold Builtin.«dict.__init__»
  refine wpAny_bind ?_
  unfold Builtin.Dict.selfAndRest
  refine wpAny_bind (wpAny_notOrdered_dict hnew.typeIs ?_)
  show wpAny _ _ (pure (s.heap.objs.size, [Value.ref l])) _ _ _
  refine wpAny_pure ?_
  show wpAny _ _ (Builtin.Dict.updateFrom "dict.__init__" s.heap.objs.size (.ref l) [] .none) _ _ _
  unfold Builtin.Dict.updateFrom
  refine wpAny_bind (wpAny_typeOf (T := "list") ⟨_, up _ _ hll, rfl⟩ ?_)
  rw [if_pos (by decide)]
  refine wpAny_bind (getAttrQ_keys (up _ _ hll) (by simp [hh]) fun h₁ tk₁ hk₁ => ?_)
  show wpAny _ _ (rule _ >>= _) _ _ _
  refine wpAny_bind (wpAny_rule ?_)
  have hli : h₁.IsList l (pairsV ps).toArray := ⟨_, hk₁ _ _ (up _ _ hll), rfl, _, rfl⟩
  refine wpAny_bind (wpAny_pyIter_list hli ?_)
  have hlt₁ : l < h₁.objs.size := by obtain ⟨_, e, _⟩ := hli; exact Heap.lt_size e
  have hd₁ : h₁.DictOf (intKind prog w) s.heap.objs.size [] := hnew.keep hk₁
  have hdI : s.heap.objs.size < h₁.objs.size := by obtain ⟨_, _, _, e, _⟩ := hd₁; exact Heap.lt_size e
  have keep₁ : ∀ b o, s.heap.get? b = some o → (h₁.push { cls := .type "list_iterator", data := .fields #[.ref l, .int 0 0] }).get? b = some o := fun b o e => Heap.get?_push_of_some _ (hk₁ _ _ (up _ _ e))
  have hget : ∀ (i : Nat) (v : Value), (pairsV ps).toArray[i]? = some v → ∃ p, ps[i]? = some p ∧ v = .ref p.a := fun i v e => by
    have e' : (pairsV ps)[i]? = some v := by simpa using e
    rw [pairsV, List.getElem?_map] at e'
    obtain ⟨p, hp, rfl⟩ := Option.map_eq_some_iff.mp e'
    exact ⟨p, hp, rfl⟩
  refine wpAny_pure ⟨plainId_quiet DPf.plain_update_loop _, ?_⟩
  refine update_loop (fp := [h₁.objs.size, l]) (n := (pairsV ps).toArray.size) (Walks.list (by simp [hh]) h₁.objs.size l (Nat.ne_of_lt hlt₁) _) ?_ (pairsK ps) (by simp [pairsK, pairsV]) (by simpa [pairsV] using hz)
    (fun h => ∀ p ∈ ps, h.get? p.a = some p.obj) (fun g g' hg hk p hpm => hk _ _ ?_ ?_ (hg p hpm)) (fun i v g hv hg => ?_) _ 0 _ _ _ rfl (Nat.zero_le _) ⟨⟨_, Heap.get?_push_size _ rfl, rfl, rfl⟩, hli.push _⟩ (fun p hpm => keep₁ _ _ (N _ (hp _ (List.mem_map_of_mem hpm))).1) (hd₁.push _) fun h₂ tk₂ hk₂ hd₂ => ?_
  · simp only [List.mem_cons, List.not_mem_nil, or_false, not_or]
    exact ⟨Nat.ne_of_lt hdI, Nat.ne_of_gt hlt⟩
  · exact Nat.ne_of_lt (Heap.lt_size (N _ (hp _ (List.mem_map_of_mem (f := fun p : PZ => (p.a, p.obj)) hpm))).1)
  · exact Nat.ne_of_lt (Nat.lt_trans (Heap.lt_size (N _ (hp _ (List.mem_map_of_mem (f := fun p : PZ => (p.a, p.obj)) hpm))).1) hdI)
  · obtain ⟨p, hpi, rfl⟩ := hget i v hv
    exact ⟨p.a, p.k, p.t, p.x, 0, rfl, by rw [pairsK, List.getElem?_map, hpi]; rfl, hg p (List.mem_of_getElem? hpi)⟩
  · have hk : ∀ b o, s.heap.get? b = some o → h₂.get? b = some o := fun b o e => hk₂ b o (Nat.ne_of_lt (Heap.lt_size e)) (Nat.ne_of_lt (Nat.lt_trans (Heap.lt_size e) hdI)) (keep₁ _ _ e)
    obtain ⟨o, ho, hd₃⟩ := Heap.dictOf_iff.mp hd₂
    exact ⟨rfl, h _ o h₂ tk₂ (F.keeps hk) (news_pushed F N hk ho rfl) (fun q hq => Heap.lt_size (N q hq).1) (F.notModules (modules_low hbig)) hd₃⟩
theorem merged_keys {more : List (Int × Value)} {x : Int} : x ∈ (merged [] more).map (·.1) ↔ x ∈ more.map (·.1) := by
  have st : ∀ (acc : List (Int × Value)) (k : Int) (v : Value), x ∈ (stored acc k v).map (·.1) ↔ x ∈ acc.map (·.1) ∨ x = k := by
    intro acc k v
    unfold stored
    split
    · rename_i h
      obtain ⟨p, hp, e⟩ := List.any_eq_true.mp h
      have e' : p.1 = k := by simpa using e
      have e2 : (acc.map fun kv => if kv.1 = k then (kv.1, v) else kv).map (·.1) = acc.map (·.1) := by
        rw [List.map_map]
        refine List.map_congr_left fun q _ => ?_
        show (if q.1 = k then (q.1, v) else q).1 = q.1
        split <;> rfl
      rw [e2]
      constructor
      · exact .inl
      · rintro (h | rfl)
        · exact h
        · exact e' ▸ List.mem_map_of_mem (f := (·.1)) hp
    · rw [List.map_append, List.mem_append]
      simp
  have key : ∀ (more acc : List (Int × Value)), x ∈ (merged acc more).map (·.1) ↔ x ∈ acc.map (·.1) ∨ x ∈ more.map (·.1) := by
    intro more
    induction more with
    | nil => intro acc; simp [merged]
    | cons p r ih =>
      intro acc
      show x ∈ (merged (stored acc p.1 p.2) r).map (·.1) ↔ _
      rw [ih, st, List.map_cons, List.mem_cons, or_assoc]
  rw [key more []]
  simp
end

-- needs: frs led
section
variable {prog : Program} {w : World} {A : Around} {E : Value → Shared → Prop} {s : Shared} {h₀ : Heap} {L : Addr} {m mg mb : Str → Option Value}
  {p : Program} {loose : List Str} {mean : ExcName → Option Value} {Q : Value → Shared → Prop} {TL : List (Addr × Obj)}
theorem words_onsent_1 : True := by
  k_with_none
  k_with "k_enter" => (refine' code_defM ?k1ₓ ?k2ₓ ?k3ₓ ?k5ₓ ?k6ₓ ?k7ₓ ?k8ₓ ?k9ₓ ?kBₓ ?_ ?c2ₓ ?c3ₓ ?c4ₓ ?c5ₓ; (case k1ₓ => k_asm); (case k2ₓ => k_asm); (case k3ₓ => k_asm); (case k5ₓ => k_asm); (case k6ₓ => k_is); (case k7ₓ => k_is); (case k8ₓ => exact Nat.le_of_ble_eq_true rfl); (case k9ₓ => exact rfl); (case c5ₓ => decide); (case kBₓ => exact locs rfl); (case c2ₓ => exact rfl); (case c3ₓ => exact rfl); (case c4ₓ => exact rfl); k_whole; intro g'ₓ L'ₓ h'ₓ FG'ₓ F'ₓ N'ₓ X'ₓ T'ₓ; (try dsimp only [List.map, List.zip, List.zipWith] at F'ₓ); (try dsimp only); (try k_fold))
  k_with "k_mem" => first | with_reducible assumption | with_reducible exact List.mem_cons_self | (with_reducible apply List.mem_cons_of_mem; k_mem)
  k_with "k_all" => first | assumption | exact allLt_off (by assumption)
  k_with "size_fits" => first | assumption | (simp only [Array.size_push, List.size_toArray, List.length_append, List.length_cons, List.length_nil, vz_length, PySem.sizeLine_eq]; omega)
  k_with "binaryOp Add ref ref" => (k_here; (with_reducible show wpAny _ _ (binaryOp _ (Value.ref _) (Value.ref _)) _ _ _); k_dflt (refine' addL ?Fₓ ?Nₓ ?aₓ ?bₓ ?zₓ ?_; (case Fₓ => k_asm); (case Nₓ => k_asm); (case aₓ => k_mem); (case bₓ => k_mem); (case zₓ => (simp only [List.length_cons, List.length_nil, vz_length, sizeLine_eq]; omega))); intro D'ₓ h'ₓ F'ₓ N'ₓ l1ₓ; (try k_lt l1ₓ); (try k_sweep))
  k_with "k_sub" => ((try simp only [List.cons_append, List.nil_append]); (repeat ((with_reducible refine List.forall_mem_cons.mpr ⟨?_, ?_⟩); (next => (first | ((repeat (first | with_reducible exact List.mem_cons_self | with_reducible apply List.mem_cons_of_mem)); done) | (repeat (first | exact List.mem_cons_self | apply List.mem_cons_of_mem)))))); intro qₓ hqₓ; first | with_reducible exact absurd hqₓ List.not_mem_nil | (repeat (first | with_reducible exact hqₓ | with_reducible exact List.mem_append_left _ hqₓ | with_reducible exact List.mem_append_right _ hqₓ | with_reducible apply List.mem_cons_of_mem)))
  k_with "SrcLP" => (k_here; k_dflt (refine LCp.SrcLP.ledger (by rfl) (by k_asm) (by k_asm) (by k_mem) (by size_fits) ?_); intro g'ₓ; refine Halt.out ?_)
  k_with "CompSrc" => (k_here; k_dflt (refine LCg.CompSrc.ledger (by rfl) (by k_asm) (by k_asm) (by k_mem) (by size_fits) ?_); intro g'ₓ; refine Halt.out ?_)
  k_with "CompSrcT" => (k_here; k_dflt (refine LCt.CompSrcT.ledger (by rfl) (by k_asm) (by k_asm) (by k_mem) (by size_fits) ?_); intro g'ₓ; refine Halt.out ?_)
  k_with "CompEnd" => (refine Halt.out ?_)
  k_with "lsm_bools" => assumption
  k_with "eval Name" => (k_here; k_dflt (refine' nameX_L ?Fₓ ?vₓ ?_ ?aₓ ?bₓ; (case Fₓ => k_asm); (case aₓ => rfl); (case bₓ => rfl); (case vₓ => first | exact rfl | assumption); k_whole))
  k_with "eval Name" => (k_here; (with_reducible show wpAny _ _ (eval (Expr.Name _ _) (envOf _ _ _ _ _)) _ _ _); k_dflt (refine' ld ?k1ₓ ?k2ₓ ?_; (case k1ₓ => k_asm); (case k2ₓ => first | exact rfl | assumption); k_whole))
  k_with "k_ne" => (first | assumption | (apply Ne.symm; assumption) | exact Nat.ne_of_lt (by assumption) | exact Nat.ne_of_gt (by assumption))
  k_with "call builtin:len" => (k_here; (with_reducible show wpAny _ _ (call (Value.builtin "len") [Value.ref _]) _ _ _); k_dflt (refine' lenL ?Nₓ ?aₓ ?zₓ ?_; (case Nₓ => k_asm); (case aₓ => k_mem); (case zₓ => (simp only [vz_length]; omega))); (try simp only [vz_length]))
  k_with "setItem ref int" => (k_here; k_dflt (refine' kda_set (knd := PySem.intKind _ _) ?Fₓ ?Nₓ ?Uₓ ?dₓ (intKind_is _ _ _ _) ?zₓ ?_; (case Fₓ => k_asm); (case Nₓ => k_asm); (case Uₓ => k_updF); (case dₓ => assumption); (case zₓ => assumption)); intro h'ₓ o'ₓ F'ₓ N'ₓ hd'ₓ; (try k_sweep))
  k_with "call ref" => (k_here; (with_reducible show wpAny _ _ (call (Value.ref 238) _) _ _ _); k_dflt (refine' to_AL rfl ?dₓ ?uₓ (draw_at ?Fₓ ?Nₓ ?Xₓ ?Tₓ ?Uₓ ?oₓ ?hPₓ ?hSₓ ?hiₓ ?hlₓ ?psₓ ?hmₓ ?_); (case dₓ => exact Nat.le_of_ble_eq_true rfl); (case uₓ => exact Nat.le_of_ble_eq_true rfl); (case Fₓ => k_asm); (case Nₓ => k_asm); (case Xₓ => k_asm); (case Tₓ => k_asm); (case Uₓ => k_updF); (case oₓ => assumption); (case hPₓ => k_mem); (case hSₓ => k_mem); (case hiₓ => assumption); (case hlₓ => assumption); (case psₓ => k_ne); (case hmₓ => first | decide | assumption)); intro v'ₓ t'ₓ o'ₓ h'ₓ tk'ₓ hv0'ₓ hv1'ₓ oP'ₓ F'ₓ N'ₓ; (try dsimp only at N'ₓ); (try k_sweep))
  k_with "call ref" => (k_here; (with_reducible show wpAny _ _ (call (Value.ref 53) _) _ _ _); k_dflt (refine' to_AL rfl ?dₓ ?uₓ (add_at ?Fₓ ?Nₓ ?Xₓ ?Tₓ ?hLₓ ?hzₓ ?hlenₓ ?_); (case dₓ => exact Nat.le_of_ble_eq_true rfl); (case uₓ => exact Nat.le_of_ble_eq_true rfl); (case Fₓ => k_asm); (case Nₓ => k_asm); (case Xₓ => k_asm); (case Tₓ => k_asm); (case hLₓ => k_mem); (case hzₓ => k_sub); (case hlenₓ => first | assumption | omega)); intro RL' z' rs' k' h' tk' F' N' n1' n2' n3' er' es' el'; (repeat (replace n1' := List.forall_mem_cons.mp n1'; (have hn' := And.left n1'); replace n1' := And.right n1'; try dsimp only at hn')); (repeat (replace n2' := List.forall_mem_cons.mp n2'; (have hn' := And.left n2'); replace n2' := And.right n2'; try dsimp only at hn')); (try dsimp only at n3'); (try k_sweep))
  k_with "call ref" => (k_here; (with_reducible show wpAny _ _ (call (Value.ref 58) _) _ _ _); k_dflt (refine' to_AL rfl ?dₓ ?uₓ (has_at ?Fₓ ?Nₓ ?Xₓ ?Tₓ ?hLₓ ?hzₓ ?hlenₓ ?_); (case dₓ => exact Nat.le_of_ble_eq_true rfl); (case uₓ => exact Nat.le_of_ble_eq_true rfl); (case Fₓ => k_asm); (case Nₓ => k_asm); (case Xₓ => k_asm); (case Tₓ => k_asm); (case hLₓ => k_mem); (case hzₓ => k_sub); (case hlenₓ => first | assumption | omega)); intro h'ₓ tk'ₓ F'ₓ N'ₓ; (try k_sweep))
  k_with "call ref" => (k_here; (with_reducible show wpAny _ _ (call (Value.ref 41) _) _ _ _); k_dflt (refine' to_AL rfl ?dₓ ?uₓ (anyel_at ?Fₓ ?Nₓ ?Xₓ ?Tₓ ?hLₓ ?hzₓ ?oₓ ?hlₓ ?_); (case dₓ => exact Nat.le_of_ble_eq_true rfl); (case uₓ => exact Nat.le_of_ble_eq_true rfl); (case Fₓ => k_asm); (case Nₓ => k_asm); (case Xₓ => k_asm); (case Tₓ => k_asm); (case hLₓ => k_mem); (case hzₓ => (intro qₓ hqₓ; first | (refine mem_in ((‹∀ qₓ ∈ tf _, qₓ ∈ _›) qₓ hqₓ) ?_; first | exact ⟨1, rfl⟩ | exact ⟨2, rfl⟩ | exact ⟨3, rfl⟩ | exact ⟨4, rfl⟩ | exact ⟨5, rfl⟩ | exact ⟨6, rfl⟩ | exact ⟨7, rfl⟩ | exact ⟨8, rfl⟩ | exact ⟨9, rfl⟩ | exact ⟨10, rfl⟩ | exact ⟨11, rfl⟩ | exact ⟨12, rfl⟩ | exact ⟨13, rfl⟩ | exact ⟨14, rfl⟩ | exact ⟨15, rfl⟩) | (repeat (first | with_reducible exact (‹∀ qₓ ∈ tf _, qₓ ∈ _›) qₓ hqₓ | with_reducible apply List.mem_cons_of_mem)))); (case oₓ => assumption); (case hlₓ => assumption)); intro h'ₓ tk'ₓ F'ₓ N'ₓ; (try k_sweep))
  k_with "call ref" => (k_here; (with_reducible show wpAny _ _ (call (Value.ref 46) _) _ _ _); k_dflt (refine' to_AL rfl ?dₓ ?uₓ (anyfl_at ?Fₓ ?Nₓ ?Xₓ ?Tₓ ?hLₓ ?hzₓ ?oₓ ?hlₓ ?_); (case dₓ => exact Nat.le_of_ble_eq_true rfl); (case uₓ => exact Nat.le_of_ble_eq_true rfl); (case Fₓ => k_asm); (case Nₓ => k_asm); (case Xₓ => k_asm); (case Tₓ => k_asm); (case hLₓ => k_mem); (case hzₓ => (intro qₓ hqₓ; first | (refine mem_in ((‹∀ qₓ ∈ tf _, qₓ ∈ _›) qₓ hqₓ) ?_; first | exact ⟨1, rfl⟩ | exact ⟨2, rfl⟩ | exact ⟨3, rfl⟩ | exact ⟨4, rfl⟩ | exact ⟨5, rfl⟩ | exact ⟨6, rfl⟩ | exact ⟨7, rfl⟩ | exact ⟨8, rfl⟩ | exact ⟨9, rfl⟩ | exact ⟨10, rfl⟩ | exact ⟨11, rfl⟩ | exact ⟨12, rfl⟩ | exact ⟨13, rfl⟩ | exact ⟨14, rfl⟩ | exact ⟨15, rfl⟩) | (repeat (first | with_reducible exact (‹∀ qₓ ∈ tf _, qₓ ∈ _›) qₓ hqₓ | with_reducible apply List.mem_cons_of_mem)))); (case oₓ => assumption); (case hlₓ => assumption)); intro h'ₓ tk'ₓ F'ₓ N'ₓ; (try k_sweep))
  trivial
theorem onsent_at {X XD SD FR : Addr} {oSD : Obj} {kvs : List (Int × Value)} {fs : List FZ} {k : Nat} {n now size : Int} {tn tw ts : Tok} {kx : Nat → Tok} {vName vNext vLA vAK vLET vLT vRec vLS vLTm vFU vUn vWN vHN vECN vGone : Value}
    (F : Fr h₀ L s.heap m) (X₀ : (heap w.params).In h₀) (T : Top p loose mean mg mb h₀)
    (N : News h₀ L s.heap ((XD, xdO w kx vName vNext (.ref SD) vLA vAK vLET vLT vRec vLS vLTm vFU vUn vWN vHN vECN vGone) :: (SD, oSD) :: TL))
    (hX : (X, instObj 220 XD) ∈ TL) (hF : (FR, listOf (vf fs).toArray k) ∈ TL) (hfs : ∀ q ∈ tf fs, q ∈ TL) (ok : ∀ f ∈ fs, FOk f) (hlen : fs.length ≤ 1000)
    (hd : oSD.IsDictOf (intKind prog w) kvs) (hkl : kvs.length ≤ 1000) (d1 : @Ne Nat XD SD) (tX : ∀ q ∈ TL, @Ne Nat q.1 XD) (tS : ∀ q ∈ TL, @Ne Nat q.1 SD)
    (h : ∀ (PA PD : Addr) (oSD' : Obj) (t0 t1 t2 t3 t4 t5 : Tok) (vLET' : Value) h' tk', oSD'.IsDictOf (intKind prog w) (stored kvs n (.ref PA)) → vLET' = (if (fs.any fun f => elicB f.nm) = true then .int now tw else vLET) →
      (∀ q ∈ TL, @Ne Nat q.1 PD) → @Ne Nat XD PD → @Ne Nat SD PD → Fr h₀ L h' m →
      News h₀ L h' ((PA, instObj 93 PD) :: (PD, dictOf [en w (Str.ofString "number") t0 (.int n tn), en w (Str.ofString "time") t1 (.int now tw), en w (Str.ofString "size") t2 (.int size ts), en w (Str.ofString "frames") t3 (.ref FR), en w (Str.ofString "is_eliciting") t4 (.bool (fs.any fun f => elicB f.nm)), en w (Str.ofString "in_flight") t5 (.bool (fs.any fun f => cntB f.nm))] 6) ::
        (XD, xdO w kx vName vNext (.ref SD) vLA vAK vLET' vLT vRec vLS vLTm vFU vUn vWN vHN vECN vGone) :: (SD, oSD') :: TL) → Q (.ref PA) { s with heap := h', toks := tk' }) :
    wpAny (model prog w) (AL 340) (call (.ref 160) [.ref X, .int n tn, .int now tw, .int size ts, .ref FR]) Q (fun _ _ => False) s := by
  have hW : ∀ q ∈ ((XD, xdO w kx vName vNext (.ref SD) vLA vAK vLET vLT vRec vLS vLTm vFU vUn vWN vHN vECN vGone) :: (SD, oSD) :: TL), q ∈ ((XD, xdO w kx vName vNext (.ref SD) vLA vAK vLET vLT vRec vLS vLTm vFU vUn vWN vHN vECN vGone) :: (SD, oSD) :: TL) := fun _ hq => hq
  refine enter (binds := [(Str.ofString "self", .ref X), (Str.ofString "number", .int n tn), (Str.ofString "now", .int now tw), (Str.ofString "size", .int size ts), (Str.ofString "frames", .ref FR)]) F N X₀ T hW (by k_dflt k_is) (by k_dflt k_is) (by decide) (BindsTo.of_eq rfl) (locs rfl) ?_ rfl rfl rfl (by decide)
  intro g L' h₁ tk hg F' N' X' T'
  replace h : ∀ (PA PD : Addr) (oSD' : Obj) (t0 t1 t2 t3 t4 t5 : Tok) (vLET' : Value) h' tk' m', oSD'.IsDictOf (intKind prog w) (stored kvs n (.ref PA)) → vLET' = (if (fs.any fun f => elicB f.nm) = true then .int now tw else vLET) →
      (∀ q ∈ TL, @Ne Nat q.1 PD) → @Ne Nat XD PD → @Ne Nat SD PD → Fr g L' h' m' →
      News g L' h' ((PA, instObj 93 PD) :: (PD, dictOf [en w (Str.ofString "number") t0 (.int n tn), en w (Str.ofString "time") t1 (.int now tw), en w (Str.ofString "size") t2 (.int size ts), en w (Str.ofString "frames") t3 (.ref FR), en w (Str.ofString "is_eliciting") t4 (.bool (fs.any fun f => elicB f.nm)), en w (Str.ofString "in_flight") t5 (.bool (fs.any fun f => cntB f.nm))] 6) ::
        (XD, xdO w kx vName vNext (.ref SD) vLA vAK vLET' vLT vRec vLS vLTm vFU vUn vWN vHN vECN vGone) :: (SD, oSD') :: TL) → Q (.ref PA) { s with heap := h', toks := tk' } :=
    fun PA PD oSD' t0 t1 t2 t3 t4 t5 vLET' h' tk' m' a1 a2 a3 a4 a5 F' N' => h PA PD oSD' t0 t1 t2 t3 t4 t5 vLET' h' tk' a1 a2 a3 a4 a5 (backF F N hW hg F') (backN F N hW hg N')
  have fin := h
  clear h
  clear hW N X₀ T F hg
  have dX : @Ne Nat X XD := tX _ hX
  have dXs : @Ne Nat X SD := tS _ hX
  have hsz : kvs.length ≤ sizeLine := by rw [sizeLine_eq]; omega
  (try dsimp only)
  k_unmd
  k_fold
  k_steps
  · exact fin _ _ _ _ _ _ _ _ _ _ _ _ _ (by assumption) (if_pos (by assumption)).symm (allLt_off (by assumption)) (Nat.ne_of_lt (by assumption)) (Nat.ne_of_lt (by assumption)) (by assumption) (newsSub (by assumption) (by k_sub))
  · exact fin _ _ _ _ _ _ _ _ _ _ _ _ _ (by assumption) (if_neg (Bool.eq_false_iff.mp (by assumption))).symm (allLt_off (by assumption)) (Nat.ne_of_lt (by assumption)) (Nat.ne_of_lt (by assumption)) (by assumption) (newsSub (by assumption) (by k_sub))
end

-- nolocal
-- needs: led
namespace Led
/-- what packets that go turn, first; the rest behind -/
noncomputable abbrev ex (w : World) (D : Led) : List (Addr × Obj) := [(D.P, D.oP), (D.OD, D.oOD), (D.XD, D.xd w), (D.SD, D.oSD), (D.OO, D.oOO)]
noncomputable abbrev tl (w : World) (D : Led) (rest : List (Addr × Obj)) : List (Addr × Obj) := (D.S, listOf D.vs.toArray D.nS) :: (D.X, instObj 220 D.XD) :: (D.EC, D.ec) :: (D.RL, listOf (vz D.zs).toArray D.kR) :: (D.SE, listOf D.ses.toArray D.kS) :: (D.MA, listOf D.mas.toArray D.kM) :: (tz D.zs ++ (pz D.os ++ (qz w D.os ++ (wz D.os ++ rest))))
end Led
section
variable {w : World} {rest : List (Addr × Obj)}
theorem led_to (D : Led) : ∀ q ∈ D.ex w ++ D.tl w rest, q ∈ D.fst w ++ (D.snd w ++ rest) := by
  intro q hq
  simp only [Led.ex, Led.tl, Led.fst, Led.snd, List.cons_append, List.nil_append, List.mem_cons, List.mem_append] at hq ⊢
  rcases hq with h | h | h | h | h | h | h | h | h | h | h | h | h | h | h | h
  all_goals simp only [h, true_or, or_true]
theorem led_of (D : Led) : ∀ q ∈ D.fst w ++ (D.snd w ++ rest), q ∈ D.ex w ++ D.tl w rest := by
  intro q hq
  simp only [Led.ex, Led.tl, List.cons_append, List.nil_append, List.mem_cons, List.mem_append]
  rcases List.mem_append.mp hq with hq | hq
  · rcases List.mem_cons.mp hq with h | hq
    · simp only [h, true_or, or_true]
    rcases List.mem_cons.mp hq with h | hq
    · simp only [h, true_or, or_true]
    rcases List.mem_cons.mp hq with h | hq
    · simp only [h, true_or, or_true]
    rcases List.mem_cons.mp hq with h | hq
    · simp only [h, true_or, or_true]
    rcases List.mem_cons.mp hq with h | hq
    · simp only [h, true_or, or_true]
    rcases List.mem_cons.mp hq with h | hq
    · simp only [h, true_or, or_true]
    rcases List.mem_cons.mp hq with h | hq
    · simp only [h, true_or, or_true]
    rcases List.mem_cons.mp hq with h | hq
    · simp only [h, true_or, or_true]
    rcases List.mem_cons.mp hq with h | hq
    · simp only [h, true_or, or_true]
    have h := hq
    simp only [h, true_or, or_true]
  · rcases List.mem_append.mp hq with hq | hq
    · rcases List.mem_cons.mp hq with h | hq
      · simp only [h, true_or, or_true]
      rcases List.mem_cons.mp hq with h | hq
      · simp only [h, true_or, or_true]
      rcases List.mem_append.mp hq with h | hq
      · simp only [h, true_or, or_true]
      rcases List.mem_append.mp hq with h | h
      · simp only [h, true_or, or_true]
      · simp only [h, true_or, or_true]
    · have h := hq
      simp only [h, true_or, or_true]
end
structure Dis2 (P OD XD SD OO : Addr) (T : List (Addr × Obj)) : Prop where
  a1 : @Ne Nat P OD
  a2 : @Ne Nat P XD
  a3 : @Ne Nat P SD
  a4 : @Ne Nat P OO
  b1 : @Ne Nat OD XD
  b2 : @Ne Nat OD SD
  b3 : @Ne Nat OD OO
  c1 : @Ne Nat XD SD
  c2 : @Ne Nat XD OO
  d1 : @Ne Nat SD OO
  tP : ∀ q ∈ T, @Ne Nat q.1 P
  tOD : ∀ q ∈ T, @Ne Nat q.1 OD
  tXD : ∀ q ∈ T, @Ne Nat q.1 XD
  tSD : ∀ q ∈ T, @Ne Nat q.1 SD
  tOO : ∀ q ∈ T, @Ne Nat q.1 OO
section
variable {prog : Program} {w : World} {h₀ h : Heap} {L : Addr} {k : Nat} {rest : List (Addr × Obj)}
theorem Led.Ok.dis2 {D : Led} (O : D.Ok prog w k) (N : News h₀ L h (D.ex w ++ D.tl w rest)) (hr : ∀ q ∈ rest, tagO q.2 = 4) : Dis2 D.P D.OD D.XD D.SD D.OO (D.tl w rest) := by
  have m1 : (D.P, D.oP) ∈ D.ex w ++ D.tl w rest := .head _
  have m2 : (D.OD, D.oOD) ∈ D.ex w ++ D.tl w rest := .tail _ (.head _)
  have m3 : (D.XD, D.xd w) ∈ D.ex w ++ D.tl w rest := .tail _ (.tail _ (.head _))
  have m4 : (D.SD, D.oSD) ∈ D.ex w ++ D.tl w rest := .tail _ (.tail _ (.tail _ (.head _)))
  have m5 : (D.OO, D.oOO) ∈ D.ex w ++ D.tl w rest := .tail _ (.tail _ (.tail _ (.tail _ (.head _))))
  have tP := tag_pool O.pool
  have t2 := tag_dict O.od
  have t4 := tag_dict O.sd
  have t5 := tag_dict O.oo
  have key : ∀ q ∈ D.tl w rest, (tagO q.2 = 2 ∧ @Ne Nat q.1 D.XD ∧ @Ne Nat q.1 D.OD ∧ @Ne Nat q.1 D.SD ∧ @Ne Nat q.1 D.OO) ∨ (tagO q.2 = 1 ∧ @Ne Nat q.1 D.P) ∨ tagO q.2 = 230 ∨ tagO q.2 = 103 ∨ tagO q.2 = 3 ∨ tagO q.2 = 4 := by
    intro q hq
    rcases List.mem_cons.mp hq with rfl | hq
    · exact .inr (.inl ⟨rfl, Ne.symm O.p1⟩)
    rcases List.mem_cons.mp hq with rfl | hq
    · exact .inr (.inr (.inl rfl))
    rcases List.mem_cons.mp hq with rfl | hq
    · exact .inr (.inl ⟨rfl, Ne.symm O.p2⟩)
    rcases List.mem_cons.mp hq with rfl | hq
    · exact .inr (.inl ⟨rfl, Ne.symm O.p3⟩)
    rcases List.mem_cons.mp hq with rfl | hq
    · exact .inr (.inl ⟨rfl, Ne.symm O.p4⟩)
    rcases List.mem_cons.mp hq with rfl | hq
    · exact .inr (.inl ⟨rfl, Ne.symm O.p5⟩)
    rcases List.mem_append.mp hq with hq | hq
    · exact .inr (.inr (.inr (.inr (.inl (tag_tz hq)))))
    rcases List.mem_append.mp hq with hq | hq
    · exact .inr (.inr (.inr (.inl (tag_pz hq))))
    rcases List.mem_append.mp hq with hq | hq
    · exact .inl ⟨tag_qz hq, O.v1 q hq, O.v2 q hq, O.v3 q hq, O.v4 q hq⟩
    rcases List.mem_append.mp hq with hq | hq
    · exact .inr (.inr (.inr (.inr (.inl (tag_wz hq)))))
    · exact .inr (.inr (.inr (.inr (.inr (hr q hq)))))
  have h1 : ∀ q ∈ D.tl w rest, @Ne Nat q.1 D.P := fun q hq => by
    have hq' : (q.1, q.2) ∈ D.ex w ++ D.tl w rest := List.mem_append_right _ hq
    rcases key q hq with ⟨e, _⟩ | ⟨_, e⟩ | e | e | e | e
    · exact ne_tag N hq' m1 e tP (by decide)
    · exact e
    all_goals exact ne_tag N hq' m1 e tP (by decide)
  have h2 : ∀ q ∈ D.tl w rest, ∀ a o, (a, o) ∈ D.ex w ++ D.tl w rest → tagO o = 2 → (@Ne Nat q.1 D.XD ∧ @Ne Nat q.1 D.OD ∧ @Ne Nat q.1 D.SD ∧ @Ne Nat q.1 D.OO → @Ne Nat q.1 a) → @Ne Nat q.1 a := fun q hq a o ha ho f => by
    have hq' : (q.1, q.2) ∈ D.ex w ++ D.tl w rest := List.mem_append_right _ hq
    rcases key q hq with ⟨_, e⟩ | ⟨e, _⟩ | e | e | e | e
    · exact f e
    all_goals exact ne_tag N hq' ha e ho (by decide)
  exact {
    a1 := ne_tag N m1 m2 tP t2 (by decide), a2 := ne_tag N m1 m3 tP (j := 2) rfl (by decide), a3 := ne_tag N m1 m4 tP t4 (by decide), a4 := ne_tag N m1 m5 tP t5 (by decide),
    b1 := Ne.symm O.u1, b2 := O.u4, b3 := O.u5, c1 := O.u2, c2 := O.u3, d1 := O.u6,
    tP := h1, tOD := fun q hq => h2 q hq _ _ m2 t2 (fun e => e.2.1), tXD := fun q hq => h2 q hq _ _ m3 rfl (fun e => e.1), tSD := fun q hq => h2 q hq _ _ m4 t4 (fun e => e.2.2.1), tOO := fun q hq => h2 q hq _ _ m5 t5 (fun e => e.2.2.2) }
/-- a packet went -/
noncomputable def Led.sent (D : Led) (oP' oOD' oSD' oOO' : Obj) (tnx' tnx2' : Tok) (vLET' vLast' : Value) (last' : Option Int) (o : OZ) : Led :=
  { D with oP := oP', oOD := oOD', oSD := oSD', oOO := oOO', nx := D.nx + 1, tnx := tnx', tnx2 := tnx2', vLET := vLET', vLast := vLast', last := last', os := D.os ++ [o] }
theorem stored_new {K : Type} [DecidableEq K] {kvs : List (K × Value)} {x : K} {v : Value} (h : ∀ p ∈ kvs, p.1 ≠ x) : stored kvs x v = kvs ++ [(x, v)] := by
  unfold stored
  rw [if_neg]
  simp only [List.any_eq_true, decide_eq_true_eq, not_exists, not_and]
  exact h
theorem Led.Ok.sent {D : Led} (O : D.Ok prog w k) {oP' oOD' oSD' oOO' : Obj} {tnx' tnx2' : Tok} {vLET' vLast' : Value} {last' : Option Int} {o : OZ}
    (h1 : PoolO D.S oP') (h2 : oOD'.IsDictOf (strKind prog w) (odK (.str D.nm D.tnm2) (.ref D.SE) (.ref D.MA) (.int D.hi D.thi) (.int D.hiA D.thiA) D.vSince (.int D.un D.task) (.bool D.wn) (.ref D.OO) (.int (D.nx + 1) tnx2') D.vTop vLast' (.int D.now D.tnow)))
    (h3 : oSD'.IsDictOf (intKind prog w) (stored (sentK D.os) D.nx (.ref o.pa))) (h4 : oOO'.IsDictOf (intKind prog w) (stored (outK D.os) D.nx (.ref o.ta))) (hn : o.n = D.nx)
    (x1 : OI vLET' last') (x2 : OI vLast' last') (n1 : @Ne Nat o.pd D.XD) (n2 : @Ne Nat o.pd D.OD) (n3 : @Ne Nat o.pd D.SD) (n4 : @Ne Nat o.pd D.OO) :
    (D.sent oP' oOD' oSD' oOO' tnx' tnx2' vLET' vLast' last' o).Ok prog w (k + 1) := by
  have e3 : stored (sentK D.os) D.nx (.ref o.pa) = sentK (D.os ++ [o]) := by
    rw [stored_new]
    · simp [sentK, hn]
    · intro q hq
      obtain ⟨z, hz, rfl⟩ := List.mem_map.mp hq
      exact Int.ne_of_lt (O.on z hz)
  have e4 : stored (outK D.os) D.nx (.ref o.ta) = outK (D.os ++ [o]) := by
    rw [stored_new]
    · simp [outK, hn]
    · intro q hq
      obtain ⟨z, hz, rfl⟩ := List.mem_map.mp hq
      exact Int.ne_of_lt (O.on z hz)
  have hv : ∀ a : Addr, (∀ q ∈ qz w D.os, @Ne Nat q.1 a) → @Ne Nat o.pd a → ∀ q ∈ qz w (D.os ++ [o]), @Ne Nat q.1 a := by
    intro a ha hb q hq
    unfold qz at hq ha
    rw [List.map_append] at hq
    rcases List.mem_append.mp hq with hq | hq
    · exact ha q hq
    · rw [List.mem_singleton.mp hq]; exact hb
  have := O.nxk
  have := O.lo
  have := O.nx0
  have hon : ∀ z ∈ D.os ++ [o], z.n < D.nx + 1 := fun z hz => by
    rcases List.mem_append.mp hz with hz | hz
    · have := O.on z hz; omega
    · rw [List.mem_singleton.mp hz, hn]; omega
  have hlo : (D.os ++ [o]).length ≤ k + 1 := by rw [List.length_append]; exact Nat.succ_le_succ O.lo
  have hx0 : 0 ≤ D.nx + 1 := by omega
  have hxk : D.nx + 1 ≤ ((k + 1 : Nat) : Int) := by omega
  exact { O with pool := h1, od := h2, sd := e3 ▸ h3, oo := e4 ▸ h4, xLET := x1, xLast := x2, lk := Nat.le_succ_of_le O.lk, nx0 := hx0, nxk := hxk, lo := hlo, on := hon, tp := (fun t ht => Int.le_trans (O.tp t ht) (by omega)), v1 := hv _ O.v1 n1, v2 := hv _ O.v2 n2, v3 := hv _ O.v3 n3, v4 := hv _ O.v4 n4 }
end

-- needs: led2 onsent draw
section
variable {prog : Program} {w : World} {A : Around} {E : Value → Shared → Prop} {s : Shared} {h₀ : Heap} {L : Addr} {m : Str → Option Value} {Q : Value → Shared → Prop} {news : List (Addr × Obj)}
theorem list_item {value slice : PySem.Expr} {l : Addr} {vs : List Value} {i : Int} {j n : Nat} {u : Tok} {v : Value} {news : List (Addr × Obj)} (N : News h₀ L s.heap news) (hm : (l, listOf vs.toArray n) ∈ news) (hi : i = (j : Int)) (hj : j < 100000) (hx : vs[j]? = some v) (h : Q v s)
    (hs : subscripted slice false (.ref l) (.int i u) = operate [.ref l, .int i u] (getItem (.ref l) (.int i u)) := by with_unfolding_all rfl) :
    wpAny (model prog w) A (subscriptTail value slice (.ref l) (.int i u)) Q E s := by
  have hl : s.heap.IsList l vs.toArray := ⟨_, (N _ hm).1, rfl, _, rfl⟩
  subst hi
  exact tail_any hl.typeIs slot_list_getitem.lookup (wpAny_getItem_list hl (by omega) (by omega) (by simpa using hx) h) hs
theorem eq_self {a : Addr} {vs : List Value} {k : Nat} (N : News h₀ L s.heap news) (ha : (a, listOf vs.toArray k) ∈ news) (hu : A.units < cLine) (h : Q (.bool true) s) : wpAny (model prog w) A (compareOp .Eq (.ref a) (.ref a)) Q E s := by
  have hl : s.heap.IsList a vs.toArray := ⟨_, (N _ ha).1, rfl, _, rfl⟩
  refine SeqAt.eq_listAt (e := fun _ => true) hl hl rfl hu (fun j _ _ => SeqAt.EqAt.same _) ?_
  have e : (List.range vs.toArray.size).all (fun _ => true) = true := List.all_eq_true.mpr fun _ _ => rfl
  rw [e]; exact h
/-- two pairs of bools alike -/
theorem eq_bools {x y : Addr} {a b c d : Bool} (N : News h₀ L s.heap news) (hx : (x, ({ cls := .type "tuple", data := .seq #[.bool a, .bool b] } : Obj)) ∈ news) (hy : (y, ({ cls := .type "tuple", data := .seq #[.bool c, .bool d] } : Obj)) ∈ news) (hu : A.units < cLine) (e1 : a = c) (e2 : b = d) (h : Q (.bool true) s) :
    wpAny (model prog w) A (compareOp .Eq (.ref x) (.ref y)) Q E s := by
  subst e1 e2
  refine SeqAt.eq_tupleAt (e := fun _ => true) (items := #[.bool a, .bool b]) (items2 := #[.bool a, .bool b]) ⟨_, (N _ hx).1, rfl, _, rfl⟩ ⟨_, (N _ hy).1, rfl, _, rfl⟩ hu (fun j _ _ => SeqAt.EqAt.same _) ?_
  exact h
theorem in_strs {a : Addr} {x : Str} {t : Tok} {ss : List (Str × Tok)} (ht : IsTup s.heap a (ss.map fun p => Value.str p.1 p.2).toArray) (h : Q (.bool (strsAny ss x)) s) :
    wpAny (model prog w) A (compareOp .In (.str x t) (.ref a)) Q E s := by
  have e : (ss.map fun p => Value.str p.1 p.2).toArray.any (fun v => match v with | .str y _ => y == x | _ => false) = strsAny ss x := by
    clear ht h
    rw [List.any_toArray]
    induction ss with
    | nil => rfl
    | cons p r ih => simp only [List.map_cons, List.any_cons, ih]; rfl
  refine SeqAt.in_tupleAt (fun v => match v with | .str y _ => y == x | _ => false) ht (fun y hy => ?_) (by rw [e]; exact h)
  simp only [List.mem_toArray, List.mem_map] at hy
  obtain ⟨p, _, rfl⟩ := hy
  exact str_eqAt _ _ _ _
theorem in_pm {a : Addr} {x : Str} {t : Tok} {n : Nat} {u u' : Tok} (N : News h₀ L s.heap news) (ha : (a, ({ cls := .type "tuple", data := .seq #[.str (Str.ofString "ping") u, .str (Str.ofString "max_data") u'] n } : Obj)) ∈ news)
    (h : Q (.bool (x == Str.ofString "ping" || x == Str.ofString "max_data")) s) : wpAny (model prog w) A (compareOp .In (.str x t) (.ref a)) Q E s :=
  in_strs (ss := [(Str.ofString "ping", u), (Str.ofString "max_data", u')]) ⟨_, (N _ ha).1, rfl, _, rfl⟩ (by
    have e : (x == Str.ofString "ping" || x == Str.ofString "max_data") = strsAny [(Str.ofString "ping", u), (Str.ofString "max_data", u')] x := by
      simp only [strsAny, Bool.or_false, Bool.beq_comm]
    rw [← e]; exact h)
end
section
variable {prog : Program} {w : World} {A : Around} {E : Value → Shared → Prop} {s : Shared} {h₀ : Heap} {L : Addr} {m mg mb : Str → Option Value}
  {p : Program} {loose : List Str} {mean : ExcName → Option Value} {Q : Value → Shared → Prop} {rest : List (Addr × Obj)}
theorem words_sends_1 : True := by
  k_with_none
  k_with "k_enter" => (refine' code_defM ?k1ₓ ?k2ₓ ?k3ₓ ?k5ₓ ?k6ₓ ?k7ₓ ?k8ₓ ?k9ₓ ?kBₓ ?_ ?c2ₓ ?c3ₓ ?c4ₓ ?c5ₓ; (case k1ₓ => k_asm); (case k2ₓ => k_asm); (case k3ₓ => k_asm); (case k5ₓ => k_asm); (case k6ₓ => k_is); (case k7ₓ => k_is); (case k8ₓ => exact Nat.le_of_ble_eq_true rfl); (case k9ₓ => exact rfl); (case c5ₓ => decide); (case kBₓ => exact locs rfl); (case c2ₓ => exact rfl); (case c3ₓ => exact rfl); (case c4ₓ => exact rfl); k_whole; intro g'ₓ L'ₓ h'ₓ FG'ₓ F'ₓ N'ₓ X'ₓ T'ₓ; (try dsimp only [List.map, List.zip, List.zipWith] at F'ₓ); (try dsimp only); (try k_fold))
  k_with "k_mem" => first | with_reducible assumption | with_reducible exact List.mem_cons_self | (with_reducible apply List.mem_cons_of_mem; k_mem)
  k_with "k_all" => first | assumption | exact allLt_off (by assumption)
  k_with "size_fits" => first | assumption | (simp only [Array.size_push, List.size_toArray, List.length_append, List.length_cons, List.length_nil, vz_length, PySem.sizeLine_eq]; omega)
  k_with "binaryOp Add ref ref" => (k_here; (with_reducible show wpAny _ _ (binaryOp _ (Value.ref _) (Value.ref _)) _ _ _); k_dflt (refine' addL ?Fₓ ?Nₓ ?aₓ ?bₓ ?zₓ ?_; (case Fₓ => k_asm); (case Nₓ => k_asm); (case aₓ => k_mem); (case bₓ => k_mem); (case zₓ => (simp only [List.length_cons, List.length_nil, vz_length, sizeLine_eq]; omega))); intro D'ₓ h'ₓ F'ₓ N'ₓ l1ₓ; (try k_lt l1ₓ); (try k_sweep))
  k_with "k_sub" => ((try simp only [List.cons_append, List.nil_append]); (repeat ((with_reducible refine List.forall_mem_cons.mpr ⟨?_, ?_⟩); (next => (first | ((repeat (first | with_reducible exact List.mem_cons_self | with_reducible apply List.mem_cons_of_mem)); done) | (repeat (first | exact List.mem_cons_self | apply List.mem_cons_of_mem)))))); intro qₓ hqₓ; first | with_reducible exact absurd hqₓ List.not_mem_nil | (repeat (first | with_reducible exact hqₓ | with_reducible exact List.mem_append_left _ hqₓ | with_reducible exact List.mem_append_right _ hqₓ | with_reducible apply List.mem_cons_of_mem)))
  k_with "SrcLP" => (k_here; k_dflt (refine LCp.SrcLP.ledger (by rfl) (by k_asm) (by k_asm) (by k_mem) (by size_fits) ?_); intro g'ₓ; refine Halt.out ?_)
  k_with "CompSrc" => (k_here; k_dflt (refine LCg.CompSrc.ledger (by rfl) (by k_asm) (by k_asm) (by k_mem) (by size_fits) ?_); intro g'ₓ; refine Halt.out ?_)
  k_with "CompSrcT" => (k_here; k_dflt (refine LCt.CompSrcT.ledger (by rfl) (by k_asm) (by k_asm) (by k_mem) (by size_fits) ?_); intro g'ₓ; refine Halt.out ?_)
  k_with "CompEnd" => (refine Halt.out ?_)
  k_with "lsm_bools" => assumption
  k_with "eval Name" => (k_here; k_dflt (refine' nameX_L ?Fₓ ?vₓ ?_ ?aₓ ?bₓ; (case Fₓ => k_asm); (case aₓ => rfl); (case bₓ => rfl); (case vₓ => first | exact rfl | assumption); k_whole))
  k_with "eval Name" => (k_here; (with_reducible show wpAny _ _ (eval (Expr.Name _ _) (envOf _ _ _ _ _)) _ _ _); k_dflt (refine' ld ?k1ₓ ?k2ₓ ?_; (case k1ₓ => k_asm); (case k2ₓ => first | exact rfl | assumption); k_whole))
  k_with "k_ne" => (first | assumption | (apply Ne.symm; assumption) | exact Nat.ne_of_lt (by assumption) | exact Nat.ne_of_gt (by assumption))
  k_with "call builtin:len" => (k_here; (with_reducible show wpAny _ _ (call (Value.builtin "len") [Value.ref _]) _ _ _); k_dflt (refine' lenL ?Nₓ ?aₓ ?zₓ ?_; (case Nₓ => k_asm); (case aₓ => k_mem); (case zₓ => (simp only [vz_length]; omega))); (try simp only [vz_length]))
  k_with "setItem ref int" => (k_here; k_dflt (refine' kda_set (knd := PySem.intKind _ _) ?Fₓ ?Nₓ ?Uₓ ?dₓ (intKind_is _ _ _ _) ?zₓ ?_; (case Fₓ => k_asm); (case Nₓ => k_asm); (case Uₓ => k_updF); (case dₓ => assumption); (case zₓ => assumption)); intro h'ₓ o'ₓ F'ₓ N'ₓ hd'ₓ; (try k_sweep))
  k_with "call ref" => (k_here; (with_reducible show wpAny _ _ (call (Value.ref 238) _) _ _ _); k_dflt (refine' to_AL rfl ?dₓ ?uₓ (draw_at ?Fₓ ?Nₓ ?Xₓ ?Tₓ ?Uₓ ?oₓ ?hPₓ ?hSₓ ?hiₓ ?hlₓ ?psₓ ?hmₓ ?_); (case dₓ => exact Nat.le_of_ble_eq_true rfl); (case uₓ => exact Nat.le_of_ble_eq_true rfl); (case Fₓ => k_asm); (case Nₓ => k_asm); (case Xₓ => k_asm); (case Tₓ => k_asm); (case Uₓ => k_updF); (case oₓ => assumption); (case hPₓ => k_mem); (case hSₓ => k_mem); (case hiₓ => assumption); (case hlₓ => assumption); (case psₓ => k_ne); (case hmₓ => first | decide | assumption)); intro v'ₓ t'ₓ o'ₓ h'ₓ tk'ₓ hv0'ₓ hv1'ₓ oP'ₓ F'ₓ N'ₓ; (try dsimp only at N'ₓ); (try k_sweep))
  k_with "call ref" => (k_here; (with_reducible show wpAny _ _ (call (Value.ref 53) _) _ _ _); k_dflt (refine' to_AL rfl ?dₓ ?uₓ (add_at ?Fₓ ?Nₓ ?Xₓ ?Tₓ ?hLₓ ?hzₓ ?hlenₓ ?_); (case dₓ => exact Nat.le_of_ble_eq_true rfl); (case uₓ => exact Nat.le_of_ble_eq_true rfl); (case Fₓ => k_asm); (case Nₓ => k_asm); (case Xₓ => k_asm); (case Tₓ => k_asm); (case hLₓ => k_mem); (case hzₓ => k_sub); (case hlenₓ => first | assumption | omega)); intro RL' z' rs' k' h' tk' F' N' n1' n2' n3' er' es' el'; (repeat (replace n1' := List.forall_mem_cons.mp n1'; (have hn' := And.left n1'); replace n1' := And.right n1'; try dsimp only at hn')); (repeat (replace n2' := List.forall_mem_cons.mp n2'; (have hn' := And.left n2'); replace n2' := And.right n2'; try dsimp only at hn')); (try dsimp only at n3'); (try k_sweep))
  k_with "call ref" => (k_here; (with_reducible show wpAny _ _ (call (Value.ref 58) _) _ _ _); k_dflt (refine' to_AL rfl ?dₓ ?uₓ (has_at ?Fₓ ?Nₓ ?Xₓ ?Tₓ ?hLₓ ?hzₓ ?hlenₓ ?_); (case dₓ => exact Nat.le_of_ble_eq_true rfl); (case uₓ => exact Nat.le_of_ble_eq_true rfl); (case Fₓ => k_asm); (case Nₓ => k_asm); (case Xₓ => k_asm); (case Tₓ => k_asm); (case hLₓ => k_mem); (case hzₓ => k_sub); (case hlenₓ => first | assumption | omega)); intro h'ₓ tk'ₓ F'ₓ N'ₓ; (try k_sweep))
  k_with "call ref" => (k_here; (with_reducible show wpAny _ _ (call (Value.ref 41) _) _ _ _); k_dflt (refine' to_AL rfl ?dₓ ?uₓ (anyel_at ?Fₓ ?Nₓ ?Xₓ ?Tₓ ?hLₓ ?hzₓ ?oₓ ?hlₓ ?_); (case dₓ => exact Nat.le_of_ble_eq_true rfl); (case uₓ => exact Nat.le_of_ble_eq_true rfl); (case Fₓ => k_asm); (case Nₓ => k_asm); (case Xₓ => k_asm); (case Tₓ => k_asm); (case hLₓ => k_mem); (case hzₓ => (intro qₓ hqₓ; first | (refine mem_in ((‹∀ qₓ ∈ tf _, qₓ ∈ _›) qₓ hqₓ) ?_; first | exact ⟨1, rfl⟩ | exact ⟨2, rfl⟩ | exact ⟨3, rfl⟩ | exact ⟨4, rfl⟩ | exact ⟨5, rfl⟩ | exact ⟨6, rfl⟩ | exact ⟨7, rfl⟩ | exact ⟨8, rfl⟩ | exact ⟨9, rfl⟩ | exact ⟨10, rfl⟩ | exact ⟨11, rfl⟩ | exact ⟨12, rfl⟩ | exact ⟨13, rfl⟩ | exact ⟨14, rfl⟩ | exact ⟨15, rfl⟩) | (repeat (first | with_reducible exact (‹∀ qₓ ∈ tf _, qₓ ∈ _›) qₓ hqₓ | with_reducible apply List.mem_cons_of_mem)))); (case oₓ => assumption); (case hlₓ => assumption)); intro h'ₓ tk'ₓ F'ₓ N'ₓ; (try k_sweep))
  k_with "call ref" => (k_here; (with_reducible show wpAny _ _ (call (Value.ref 46) _) _ _ _); k_dflt (refine' to_AL rfl ?dₓ ?uₓ (anyfl_at ?Fₓ ?Nₓ ?Xₓ ?Tₓ ?hLₓ ?hzₓ ?oₓ ?hlₓ ?_); (case dₓ => exact Nat.le_of_ble_eq_true rfl); (case uₓ => exact Nat.le_of_ble_eq_true rfl); (case Fₓ => k_asm); (case Nₓ => k_asm); (case Xₓ => k_asm); (case Tₓ => k_asm); (case hLₓ => k_mem); (case hzₓ => (intro qₓ hqₓ; first | (refine mem_in ((‹∀ qₓ ∈ tf _, qₓ ∈ _›) qₓ hqₓ) ?_; first | exact ⟨1, rfl⟩ | exact ⟨2, rfl⟩ | exact ⟨3, rfl⟩ | exact ⟨4, rfl⟩ | exact ⟨5, rfl⟩ | exact ⟨6, rfl⟩ | exact ⟨7, rfl⟩ | exact ⟨8, rfl⟩ | exact ⟨9, rfl⟩ | exact ⟨10, rfl⟩ | exact ⟨11, rfl⟩ | exact ⟨12, rfl⟩ | exact ⟨13, rfl⟩ | exact ⟨14, rfl⟩ | exact ⟨15, rfl⟩) | (repeat (first | with_reducible exact (‹∀ qₓ ∈ tf _, qₓ ∈ _›) qₓ hqₓ | with_reducible apply List.mem_cons_of_mem)))); (case oₓ => assumption); (case hlₓ => assumption)); intro h'ₓ tk'ₓ F'ₓ N'ₓ; (try k_sweep))
  k_with "k_lt_off" => skip
  k_with "k_ne" => (first | assumption | (apply Ne.symm; assumption) | exact ne_new (by assumption) (by k_mem) | exact Ne.symm (ne_new (by assumption) (by k_mem)))
  k_with "k_all" => first | assumption | (refine all_new (by assumption) ?_; intro qₓ hqₓ; repeat (first | with_reducible exact hqₓ | with_reducible apply List.mem_cons_of_mem))
  k_with "newTuple" => (k_here; k_dflt (refine' kup_newTuple ?Fₓ ?Nₓ ?_ ?zₓ; (case Fₓ => k_asm); (case Nₓ => k_asm); (case zₓ => kmk_size)); intro D'ₓ h'ₓ F'ₓ N'ₓ l1ₓ; (try k_sweep))
  k_with "subscriptTail Name" => (k_here; (with_reducible show wpAny _ _ (subscriptTail _ _ (Value.ref _) (Value.str _ _)) _ _ _); k_dflt (refine' kda_item (knd := PySem.strKind _ _) ?Nₓ ?pₓ ?dₓ (strKind_is _ _ _ _) ?lₓ ?_; (case Nₓ => k_asm); (case pₓ => k_mem); (case dₓ => assumption); (case lₓ => rfl)); (try dsimp only))
  k_with "subscriptTail" => (k_here; (with_reducible show wpAny _ _ (subscriptTail _ _ (Value.ref _) (Value.str _ _)) _ _ _); k_dflt (refine' kda_item (knd := PySem.strKind _ _) ?Nₓ ?pₓ ?dₓ (strKind_is _ _ _ _) ?lₓ ?_; (case Nₓ => k_asm); (case pₓ => k_mem); (case dₓ => assumption); (case lₓ => rfl)); (try dsimp only))
  k_with "compareOp Eq ref ref" => (k_here; k_dflt (refine' eq_self ?Nₓ ?mₓ ?uₓ ?_; (case Nₓ => k_asm); (case mₓ => k_mem); (case uₓ => exact Nat.le_of_ble_eq_true rfl)))
  k_with "compareOp Eq ref ref" => (k_here; k_dflt (refine' eq_bools ?Nₓ ?xₓ ?yₓ ?uₓ ?e1ₓ ?e2ₓ ?_; (case Nₓ => k_asm); (case xₓ => k_mem); (case yₓ => k_mem); (case uₓ => exact Nat.le_of_ble_eq_true rfl); (case e1ₓ => assumption); (case e2ₓ => assumption)))
  k_with "compareOp In str ref" => (k_here; k_dflt (refine' in_pm ?Nₓ ?mₓ ?_; (case Nₓ => k_asm); (case mₓ => k_mem)))
  k_with "subscriptTail Name" => (k_here; (with_reducible show wpAny _ _ (subscriptTail _ _ (Value.ref (FZ.a _)) (Value.int _ _)) _ _ _); k_dflt (refine' frame_name ?Nₓ ?mₓ ?oₓ ?_; (case Nₓ => k_asm); (case mₓ => k_mem); (case oₓ => assumption)))
  k_with "subscriptTail" => (k_here; (with_reducible show wpAny _ _ (subscriptTail _ _ (Value.ref (FZ.a _)) (Value.int _ _)) _ _ _); k_dflt (refine' frame_name ?Nₓ ?mₓ ?oₓ ?_; (case Nₓ => k_asm); (case mₓ => k_mem); (case oₓ => assumption)))
  k_with "subscriptTail Name" => (k_here; (with_reducible show wpAny _ _ (subscriptTail (Expr.Name (Str.ofString "frames") _) _ (Value.ref _) (Value.int 0 _)) _ _ _); k_dflt (refine' list_item (j := 0) ?Nₓ ?mₓ ?iₓ ?jₓ ?xₓ ?_; (case Nₓ => k_asm); (case mₓ => k_mem); (case iₓ => rfl); (case jₓ => decide); (case xₓ => rfl)))
  k_with "subscriptTail" => (k_here; (with_reducible show wpAny _ _ (subscriptTail (Expr.Name (Str.ofString "frames") _) _ (Value.ref _) (Value.int 0 _)) _ _ _); k_dflt (refine' list_item (j := 0) ?Nₓ ?mₓ ?iₓ ?jₓ ?xₓ ?_; (case Nₓ => k_asm); (case mₓ => k_mem); (case iₓ => rfl); (case jₓ => decide); (case xₓ => rfl)))
  k_with "call ref" => ((with_reducible show wpAny _ _ (call (Value.ref 160) _) _ _ _); refine Halt.out ?_)
  k_with "subscriptTail" => ((with_reducible show wpAny _ _ (subscriptTail (Expr.List _ _) _ _ _) _ _ _); refine Halt.out ?_)
  k_with "eval IfExp" => ((have hst'ₓ : Stop := by assumption); clear hst'ₓ; refine Halt.out ?_)
  trivial
theorem cases4 {v : Int} (h0 : 0 ≤ v) (h4 : v < 4) : v = 0 ∨ v = 1 ∨ v = 2 ∨ v = 3 := by omega
/-- the frames were chosen -/
inductive FrQ (w : World) (D : Led) (g : Heap) (L' : Addr) (TL : List (Addr × Obj)) (s : Shared) : Value → Shared → Prop
  | mk {FR : Addr} {f0 : FZ} {fr : List FZ} {k' : Nat} {h : Heap} {tk : Nat} {oP2 : Obj} (F : Fr g L' h (fun y => [(Str.ofString "pool", Value.ref D.P), (Str.ofString "space", Value.ref D.X), (Str.ofString "own", Value.ref D.OD)].reverse.lookup y)) (hP : PoolO D.S oP2)
    (N : News g L' h ((D.P, oP2) :: (D.OD, D.oOD) :: (D.XD, D.xd w) :: (D.SD, D.oSD) :: (D.OO, D.oOO) :: (FR, listOf (vf (f0 :: fr)).toArray k') :: (tf (f0 :: fr) ++ TL))) (fok : ∀ f ∈ f0 :: fr, FOk f) (frl : fr.length ≤ 1)
    (e1 : ((f0 :: fr).any fun f => elicB f.nm) = (f0.nm == Str.ofString "ping" || f0.nm == Str.ofString "max_data")) (e2 : ((f0 :: fr).any fun f => cntB f.nm) = !(f0.nm == Str.ofString "ack")) (n : @Ne Nat FR D.P) : FrQ w D g L' TL s (.ref FR) { s with heap := h, toks := tk }
/-- what stands at the end -/
inductive SendEnd (prog : Program) (w : World) (D : Led) (g : Heap) (L' : Addr) (TM : List (Addr × Obj)) (PA PD FR : Addr) (t0 t1 t2 t3 t4 t5 : Tok) (vLET' vL : Value) (oSD' : Obj) (b0 b1 b2 : Bool) (h : Heap) : Prop
  | mk {sz : Int} {tA tS tX tN2 : Tok} {RT : Addr} {oP9 oD9 oO9 : Obj} (y1 : PoolO D.S oP9)
    (y2 : oD9.IsDictOf (strKind prog w) (odK (.str D.nm D.tnm2) (.ref D.SE) (.ref D.MA) (.int D.hi D.thi) (.int D.hiA D.thiA) D.vSince (.int D.un D.task) (.bool D.wn) (.ref D.OO) (.int (D.nx + 1 - 1 + 1) tN2) D.vTop vL (.int D.now D.tnow)))
    (y3 : oO9.IsDictOf (intKind prog w) (stored (outK D.os) (D.nx + 1 - 1) (.ref RT)))
    (N : News g L' h ((PA, instObj 93 PD) :: (PD, dictOf [en w (Str.ofString "number") t0 (.int (D.nx + 1 - 1) tA), en w (Str.ofString "time") t1 (.int D.now D.tnow), en w (Str.ofString "size") t2 (.int sz tS), en w (Str.ofString "frames") t3 (.ref FR), en w (Str.ofString "is_eliciting") t4 (.bool b0), en w (Str.ofString "in_flight") t5 (.bool b1)] 6) ::
            (RT, { cls := .type "tuple", data := .seq #[.int D.now D.tnow, .int sz tS, .bool b0, .bool b2] }) :: (D.P, oP9) :: (D.OD, oD9) ::
            (D.XD, xdO w D.kx (.str D.nm D.tnm) (.int (D.nx + 1) tX) (.ref D.SD) D.vLA D.vAK vLET' D.vLT (.ref D.RL) D.vLS D.vLTm D.vFU (.int D.un D.tun) (.bool D.wn) D.vHN (.ref D.EC) D.vGone) :: (D.SD, oSD') :: (D.OO, oO9) :: TM)) : SendEnd prog w D g L' TM PA PD FR t0 t1 t2 t3 t4 t5 vLET' vL oSD' b0 b1 b2 h
noncomputable abbrev tupO (items : Array Value) : Obj := { cls := .type "tuple", data := .seq items }
theorem tup_ok {a : Addr} {nm : Str} {t : Tok} {items : Array Value} (h0 : items.toList[0]? = some (.str nm t)) : FOk ⟨a, nm, t, tupO items⟩ := by
  refine ⟨rfl, items, _, rfl, h0, ?_⟩
  obtain ⟨l⟩ := items
  cases l with
  | nil => cases h0
  | cons _ _ => simp
theorem FrQ.one {D : Led} {g h : Heap} {L' FR a : Addr} {TL all : List (Addr × Obj)} {nm : Str} {t : Tok} {items : Array Value} {k tk : Nat} {oP2 : Obj}
    (F : Fr g L' h (fun y => [(Str.ofString "pool", Value.ref D.P), (Str.ofString "space", Value.ref D.X), (Str.ofString "own", Value.ref D.OD)].reverse.lookup y)) (hP : PoolO D.S oP2) (N : News g L' h all)
    (hs : ∀ q ∈ (D.P, oP2) :: (D.OD, D.oOD) :: (D.XD, D.xd w) :: (D.SD, D.oSD) :: (D.OO, D.oOO) :: (FR, listOf #[.ref a] k) :: (a, tupO items) :: TL, q ∈ all) (h0 : items.toList[0]? = some (.str nm t))
    (e1 : elicB nm = (nm == Str.ofString "ping" || nm == Str.ofString "max_data")) (e2 : cntB nm = !(nm == Str.ofString "ack")) (n : @Ne Nat FR D.P) : FrQ w D g L' TL s (.ref FR) { s with heap := h, toks := tk } :=
  @FrQ.mk w D g L' TL s FR ⟨a, nm, t, tupO items⟩ [] k h tk oP2 F hP (newsSub N hs) ( List.forall_mem_cons.mpr ⟨tup_ok h0, fun _ h => nomatch h⟩) (Nat.zero_le _) (by simpa using e1) (by simpa using e2) n
theorem FrQ.two {D : Led} {g h : Heap} {L' FR a b : Addr} {TL all : List (Addr × Obj)} {nm nm' : Str} {t t' : Tok} {items items' : Array Value} {k tk : Nat} {oP2 : Obj}
    (F : Fr g L' h (fun y => [(Str.ofString "pool", Value.ref D.P), (Str.ofString "space", Value.ref D.X), (Str.ofString "own", Value.ref D.OD)].reverse.lookup y)) (hP : PoolO D.S oP2) (N : News g L' h all)
    (hs : ∀ q ∈ (D.P, oP2) :: (D.OD, D.oOD) :: (D.XD, D.xd w) :: (D.SD, D.oSD) :: (D.OO, D.oOO) :: (FR, listOf #[.ref a, .ref b] k) :: (a, tupO items) :: (b, tupO items') :: TL, q ∈ all) (h0 : items.toList[0]? = some (.str nm t)) (h1 : items'.toList[0]? = some (.str nm' t'))
    (e1 : (elicB nm || elicB nm') = (nm == Str.ofString "ping" || nm == Str.ofString "max_data")) (e2 : (cntB nm || cntB nm') = !(nm == Str.ofString "ack")) (n : @Ne Nat FR D.P) : FrQ w D g L' TL s (.ref FR) { s with heap := h, toks := tk } :=
  @FrQ.mk w D g L' TL s FR ⟨a, nm, t, tupO items⟩ [⟨b, nm', t', tupO items'⟩] k h tk oP2 F hP (newsSub N hs) ( List.forall_mem_cons.mpr ⟨tup_ok h0, List.forall_mem_cons.mpr ⟨tup_ok h1, fun _ h => nomatch h⟩⟩) (Nat.le_refl _) (by simpa using e1) (by simpa using e2) n
theorem tag_tf {fs : List FZ} (fok : ∀ f ∈ fs, FOk f) {q : Addr × Obj} (h : q ∈ tf fs) : tagO q.2 = 3 := by
  obtain ⟨z, hz, rfl⟩ := List.mem_map.mp h
  show tagO z.o = 3
  unfold tagO
  rw [(fok z hz).1]
  rfl
theorem fr_off {h : Heap} {FR a : Addr} {o : Obj} {fs : List FZ} {k' : Nat} {pre TL : List (Addr × Obj)} (N : News h₀ L h (pre ++ (FR, listOf (vf fs).toArray k') :: (tf fs ++ TL))) (ha : (a, o) ∈ pre) (fok : ∀ f ∈ fs, FOk f) (ht : tagO o ≠ 3) (hF : tagO o ≠ 1 ∨ @Ne Nat FR a) (tX : ∀ q ∈ TL, @Ne Nat q.1 a) :
    ∀ q ∈ (FR, listOf (vf fs).toArray k') :: (tf fs ++ TL), @Ne Nat q.1 a := by
  intro q hq
  rcases List.mem_cons.mp hq with rfl | hq
  · rcases hF with hF | hF
    · exact ne_tag N (List.mem_append_right _ (.head _)) (List.mem_append_left _ ha) (i := 1) rfl rfl (Ne.symm hF)
    · exact hF
  · rcases List.mem_append.mp hq with hq | hq
    · exact ne_tag N (List.mem_append_right _ (.tail _ (List.mem_append_left _ hq))) (List.mem_append_left _ ha) (tag_tf fok hq) rfl (Ne.symm ht)
    · exact tX q hq
theorem sends_at {D : Led} {k : Nat}
    (F : Fr h₀ L s.heap m) (X₀ : (heap w.params).In h₀) (T : Top p loose mean mg mb h₀) (O : D.Ok prog w k) (hk : k ≤ 29)
    (N : News h₀ L s.heap (D.fst w ++ (D.snd w ++ rest))) (hr : ∀ q ∈ rest, tagO q.2 = 4)
    (h : ∀ (D' : Led) h' tk', D'.Ok prog w (k + 1) → D'.P = D.P → D'.X = D.X → D'.OD = D.OD → Fr h₀ L h' m → News h₀ L h' (D'.fst w ++ (D'.snd w ++ rest)) → Q (.bool true) { s with heap := h', toks := tk' }) :
    wpAny (model prog w) (AL 330) (call (.ref 264) [.ref D.P, .ref D.X, .ref D.OD]) Q (fun _ _ => False) s := by
  have N₁ := newsSub N (led_to D)
  have hW : ∀ q ∈ D.ex w ++ D.tl w rest, q ∈ D.fst w ++ (D.snd w ++ rest) := led_to D
  have ds := O.dis2 N₁ hr
  refine enter (binds := [(Str.ofString "pool", .ref D.P), (Str.ofString "space", .ref D.X), (Str.ofString "own", .ref D.OD)]) F N X₀ T hW (by k_dflt k_is) (by k_dflt k_is) (by decide) (BindsTo.of_eq rfl) (locs rfl) ?_ rfl rfl rfl (by decide)
  intro g L' h₁ tk hg F' N' X' T'
  have fin : ∀ (oP' oOD' oSD' oOO' : Obj) (tnx' tnx2' : Tok) (vLET' vLast' : Value) (last' : Option Int) (o : OZ) W' h' tk' m', (D.sent oP' oOD' oSD' oOO' tnx' tnx2' vLET' vLast' last' o).Ok prog w (k + 1) → Fr g L' h' m' → News g L' h' W' →
      (∀ q ∈ (o.pa, instObj 93 o.pd) :: (o.pd, pkO w o) :: (o.ta, rowO o) :: (D.P, oP') :: (D.OD, oOD') :: (D.XD, (D.sent oP' oOD' oSD' oOO' tnx' tnx2' vLET' vLast' last' o).xd w) :: (D.SD, oSD') :: (D.OO, oOO') :: D.tl w rest, q ∈ W') → Q (.bool true) { s with heap := h', toks := tk' } := by
    intro oP' oOD' oSD' oOO' tnx' tnx2' vLET' vLast' last' o W' h' tk' m' x1 F' N' w1
    refine h _ h' tk' x1 rfl rfl rfl (backF F N hW hg F') (backN F N hW hg (newsSub (newsSub N' w1) fun q hq => ?_))
    replace hq := led_of _ q hq
    simp only [Led.sent, Led.ex, Led.tl, pz, qz, wz, List.map_append, List.map_cons, List.map_nil, List.cons_append, List.nil_append, List.mem_cons, List.mem_append, List.not_mem_nil, or_false] at hq ⊢
    rcases hq with h | h | h | h | h | h | h | h | h | h | h | h | (h | h) | (h | h) | (h | h) | h
    all_goals simp only [h, true_or, or_true]
  have hS : (D.S, listOf D.vs.toArray D.nS) ∈ D.tl w rest := .head _
  have hX : (D.X, instObj 220 D.XD) ∈ D.tl w rest := .tail _ (.head _)
  generalize hTL : D.tl w rest = TL at N' fin hS hX ds
  replace N' : News g L' h₁ ((D.P, D.oP) :: (D.OD, D.oOD) :: (D.XD, D.xd w) :: (D.SD, D.oSD) :: (D.OO, D.oOO) :: TL) := N'
  have oP' : PoolO D.S D.oP := O.pool
  have iv : IntsAre D.vs D.ns := O.iv
  have ln : D.ns.length ≤ 63 := O.ln
  have od : D.oOD.IsDictOf (strKind prog w) (odK (.str D.nm D.tnm2) (.ref D.SE) (.ref D.MA) (.int D.hi D.thi) (.int D.hiA D.thiA) D.vSince (.int D.un D.task) (.bool D.wn) (.ref D.OO) (.int D.nx D.tnx2) D.vTop D.vLast (.int D.now D.tnow)) := O.od
  have lod : (D.OD == sysModules) = false := O.lod
  have hid : Hid (D.Ok prog w k) := ⟨O⟩
  obtain ⟨a1, a2, a3, a4, b1, b2, b3, c1, c2, d1, tP, tOD, tXD, tSD, tOO⟩ := ds
  have sP : @Ne Nat D.S D.P := tP _ hS
  clear hr X₀ T F N h O N₁ hW
  (try dsimp only)
  k_unmd
  k_fold
  k_steps
  refine Halt.mk (merge (FrQ w D g L' TL s) ?g1 ?g2)
  case g1 =>
    clear fin
    rename (_ < (4 : Int)) => hv4
    rename ((0 : Int) ≤ _) => hv0
    rcases cases4 hv0 hv4 with rfl | rfl | rfl | rfl
    · exact list_item (j := 0) (by assumption) (.head _) rfl (by decide) rfl (FrQ.one (by assumption) (by assumption) (by assumption) (by k_sub) (by rfl) (by rfl) (by rfl) (by k_ne))
    · exact list_item (j := 1) (by assumption) (.head _) rfl (by decide) rfl (FrQ.one (by assumption) (by assumption) (by assumption) (by k_sub) (by rfl) (by rfl) (by rfl) (by k_ne))
    · exact list_item (j := 2) (by assumption) (.head _) rfl (by decide) rfl (FrQ.one (by assumption) (by assumption) (by assumption) (by k_sub) (by rfl) (by rfl) (by rfl) (by k_ne))
    · exact list_item (j := 3) (by assumption) (.head _) rfl (by decide) rfl (FrQ.two (by assumption) (by assumption) (by assumption) (by k_sub) (by rfl) (by rfl) (by rfl) (by rfl) (by k_ne))
  case g2 =>
    intro v s' hq
    obtain @⟨FR, f0, fr, k', h₂, tk₂, oP2, F₂, oP2', N₂, fok, frl, ee, ec, nFP⟩ := hq
    have uP := fr_off (pre := [(D.P, oP2), (D.OD, D.oOD), (D.XD, D.xd w), (D.SD, D.oSD), (D.OO, D.oOO)]) N₂ (.head _) fok (by rw [tag_pool oP2']; decide) (.inr nFP) tP
    have uOD := fr_off (pre := [(D.P, oP2), (D.OD, D.oOD), (D.XD, D.xd w), (D.SD, D.oSD), (D.OO, D.oOO)]) N₂ (.tail _ (.head _)) fok (by rw [tag_dict od]; decide) (.inl (by rw [tag_dict od]; decide)) tOD
    have uXD := fr_off (pre := [(D.P, oP2), (D.OD, D.oOD), (D.XD, D.xd w), (D.SD, D.oSD), (D.OO, D.oOO)]) N₂ (.tail _ (.tail _ (.head _))) fok (by rw [show tagO (D.xd w) = 2 from rfl]; decide) (.inl (by rw [show tagO (D.xd w) = 2 from rfl]; decide)) tXD
    have uSD := fr_off (pre := [(D.P, oP2), (D.OD, D.oOD), (D.XD, D.xd w), (D.SD, D.oSD), (D.OO, D.oOO)]) N₂ (.tail _ (.tail _ (.tail _ (.head _)))) fok (by rw [tag_dict hid.out.sd]; decide) (.inl (by rw [tag_dict hid.out.sd]; decide)) tSD
    have uOO := fr_off (pre := [(D.P, oP2), (D.OD, D.oOD), (D.XD, D.xd w), (D.SD, D.oSD), (D.OO, D.oOO)]) N₂ (.tail _ (.tail _ (.tail _ (.tail _ (.head _))))) fok (by rw [tag_dict hid.out.oo]; decide) (.inl (by rw [tag_dict hid.out.oo]; decide)) tOO
    have hFR : (FR, listOf (vf (f0 :: fr)).toArray k') ∈ (FR, listOf (vf (f0 :: fr)).toArray k') :: (tf (f0 :: fr) ++ TL) := .head _
    have hfs : ∀ q ∈ tf (f0 :: fr), q ∈ (FR, listOf (vf (f0 :: fr)).toArray k') :: (tf (f0 :: fr) ++ TL) := fun q hq => .tail _ (List.mem_append_left _ hq)
    have hTLm : ∀ q ∈ TL, q ∈ (FR, listOf (vf (f0 :: fr)).toArray k') :: (tf (f0 :: fr) ++ TL) := fun q hq => .tail _ (List.mem_append_right _ hq)
    generalize ((FR, listOf (vf (f0 :: fr)).toArray k') :: (tf (f0 :: fr) ++ TL)) = TM at N₂ uP uOD uXD uSD uOO hFR hfs hTLm
    have hX2 := hTLm _ hX
    have hS2 := hTLm _ hS
    have hlen : (f0 :: fr).length ≤ 1000 := by rw [List.length_cons]; omega
    clear tP tOD tXD tSD tOO hX hS
    (try dsimp only)
    k_steps
    · exact absurd (show D.nx + 1 - 1 = D.nx by omega) (by assumption)
    refine Halt.mk ?_
    rename Obj.IsDictOf (strKind prog w) _ _ => od2
    have N₃ := newsSub (news' := (D.XD, _) :: (D.SD, D.oSD) :: (D.P, _) :: (D.OD, _) :: (D.OO, D.oOO) :: TM) (by assumption) (by k_sub)
    refine to_AL rfl (Nat.le_of_ble_eq_true rfl) (Nat.le_of_ble_eq_true rfl) (onsent_at (by assumption) (by assumption) (by assumption) N₃ (.tail _ (.tail _ (.tail _ hX2))) (.tail _ (.tail _ (.tail _ hFR))) (fun q hq => .tail _ (.tail _ (.tail _ (hfs q hq)))) fok hlen hid.out.sd ?z c1 ?x1 ?x2 ?_)
    case z => rw [sentK, List.length_map]; exact Nat.le_trans hid.out.lo (by omega)
    case x1 => exact List.forall_mem_cons.mpr ⟨a2, List.forall_mem_cons.mpr ⟨b1, List.forall_mem_cons.mpr ⟨Ne.symm c2, uXD⟩⟩⟩
    case x2 => exact List.forall_mem_cons.mpr ⟨a3, List.forall_mem_cons.mpr ⟨b2, List.forall_mem_cons.mpr ⟨Ne.symm d1, uSD⟩⟩⟩
    clear N₃
    intro PA PD oSD' t0 t1 t2 t3 t4 t5 vLET' h₃ tk₃ r1 r2 r3 r4 r5 F₃ N₃
    have dP : @Ne Nat D.P PD := r3 _ (.head _)
    have dOD : @Ne Nat D.OD PD := r3 _ (.tail _ (.head _))
    have dOO : @Ne Nat D.OO PD := r3 _ (.tail _ (.tail _ (.head _)))
    have ePA : @Ne Nat D.OD PA := ne_tag N₃ (.tail _ (.tail _ (.tail _ (.tail _ (.tail _ (.head _)))))) (.head _) (tag_dict od2) (j := 103) rfl (by decide)
    have eOO : @Ne Nat D.OO PA := ne_tag N₃ (.tail _ (.tail _ (.tail _ (.tail _ (.tail _ (.tail _ (.head _))))))) (.head _) (tag_dict hid.out.oo) (j := 103) rfl (by decide)
    have r6 : ∀ q ∈ TM, @Ne Nat q.1 PD := fun q hq => r3 q (.tail _ (.tail _ (.tail _ hq)))
    clear r3
    have hf0 : (f0.a, f0.o) ∈ TM := hfs _ (.head _)
    have okf0 : FOk f0 := fok _ (.head _)
    have hoo : D.oOO.IsDictOf (intKind prog w) (outK D.os) := hid.out.oo
    have hol : (outK D.os).length ≤ sizeLine := by rw [outK, List.length_map, sizeLine_eq]; exact Nat.le_trans hid.out.lo (by omega)
    have st : Stop := ⟨⟩
    (try dsimp only)
    k_steps
    refine Halt.mk (mergeV (fun v => OI v (if (f0.nm == Str.ofString "ping" || f0.nm == Str.ofString "max_data") = true then some D.now else D.last)) (by assumption) (by assumption) ?g1 ?g2)
    case g1 =>
      clear st fin
      k_steps
      · exact MidV.intro (by assumption) (by assumption) (fun _ h => h) (by rw [if_pos (by assumption)]; exact ⟨_, rfl⟩)
      · exact MidV.intro (by assumption) (by assumption) (fun _ h => h) (by rw [if_neg (Bool.eq_false_iff.mp (by assumption))]; exact hid.out.xLast)
    case g2 =>
      clear st
      intro vL h₅ tk₅ hvL F₅ N₅
      (try dsimp only)
      k_steps
      rename News g L' _ _ => N₆
      rw [ee, ec] at N₆
      rw [ee] at r2
      obtain @⟨sz, tA, tS, tX, tN2, RT, oP9, oD9, oO9, y1, y2, y3, N₇⟩ : SendEnd prog w D g L' TM PA PD FR t0 t1 t2 t3 t4 t5 vLET' vL oSD' (f0.nm == Str.ofString "ping" || f0.nm == Str.ofString "max_data") (!(f0.nm == Str.ofString "ack")) (f0.nm != Str.ofString "ack") _ :=
        .mk (by assumption) (by assumption) (by assumption) (newsSub N₆ (by k_sub))
      clear N₆
      have e1 : D.nx + 1 - 1 = D.nx := by omega
      rw [e1] at y2 y3 r1 N₇
      subst hTL
      refine fin oP9 oD9 oSD' oO9 tX tN2 vLET' vL (if (f0.nm == Str.ofString "ping" || f0.nm == Str.ofString "max_data") = true then some D.now else D.last)
        ⟨D.nx, D.now, sz, f0.nm == Str.ofString "ping" || f0.nm == Str.ofString "max_data", f0.nm != Str.ofString "ack", PA, PD, RT, .ref FR, fun i => [t0, t1, t2, t3, t4, t5, tA, D.tnow, tS, D.tnow, tS].getD i 0⟩ _ _ _ _
        (hid.out.sent y1 y2 r1 y3 rfl ?x1 hvL (Ne.symm r4) (Ne.symm dOD) (Ne.symm r5) (Ne.symm dOO)) (by assumption) N₇ ?s
      case x1 =>
        rw [r2]
        by_cases hb : (f0.nm == Str.ofString "ping" || f0.nm == Str.ofString "max_data") = true
        · rw [if_pos hb, if_pos hb]; exact ⟨_, rfl⟩
        · rw [if_neg hb, if_neg hb]; exact hid.out.xLET
      case s =>
        intro q hq
        rcases List.mem_cons.mp hq with rfl | hq
        · exact .head _
        rcases List.mem_cons.mp hq with rfl | hq
        · exact .tail _ (.head _)
        rcases List.mem_cons.mp hq with rfl | hq
        · exact .tail _ (.tail _ (.head _))
        rcases List.mem_cons.mp hq with rfl | hq
        · exact .tail _ (.tail _ (.tail _ (.head _)))
        rcases List.mem_cons.mp hq with rfl | hq
        · exact .tail _ (.tail _ (.tail _ (.tail _ (.head _))))
        rcases List.mem_cons.mp hq with rfl | hq
        · exact .tail _ (.tail _ (.tail _ (.tail _ (.tail _ (.head _)))))
        rcases List.mem_cons.mp hq with rfl | hq
        · exact .tail _ (.tail _ (.tail _ (.tail _ (.tail _ (.tail _ (.head _))))))
        rcases List.mem_cons.mp hq with rfl | hq
        · exact .tail _ (.tail _ (.tail _ (.tail _ (.tail _ (.tail _ (.tail _ (.head _)))))))
        · exact .tail _ (.tail _ (.tail _ (.tail _ (.tail _ (.tail _ (.tail _ (.tail _ (hTLm q hq))))))))
end

-- needs: srt frs led
noncomputable def stepL (acc : List (Int × Int)) (n : Int) : List (Int × Int) := match acc.getLast? with
  | some r => if r.1 = n + 1 then acc.dropLast ++ [(n, r.2)] else acc ++ [(n, n)]
  | none => [(n, n)]
noncomputable def lawR (ns : List Int) : List (Int × Int) := ns.foldl stepL []
theorem ne_nil0 {prog : Program} {w : World} {A : Around} {E : Value → Shared → Prop} {s : Shared} {h₀ : Heap} {L : Addr} {Q : Value → Shared → Prop} {news : List (Addr × Obj)} {a b : Addr} {k j : Nat} (N : News h₀ L s.heap news) (ha : (a, listOf #[] k) ∈ news) (hb : (b, listOf #[] j) ∈ news) (hu : A.units < cLine) (h : Q (.bool false) s) :
    wpAny (model prog w) A (compareOp .NotEq (.ref a) (.ref b)) Q E s := ne_nil (vs := []) N ha hb hu h
theorem ne_nil1 {prog : Program} {w : World} {A : Around} {E : Value → Shared → Prop} {s : Shared} {h₀ : Heap} {L : Addr} {Q : Value → Shared → Prop} {news : List (Addr × Obj)} {a b : Addr} {k j : Nat} {vs : List Value} {v : Value} (N : News h₀ L s.heap news) (ha : (a, listOf (vs ++ [v]).toArray k) ∈ news) (hb : (b, listOf #[] j) ∈ news) (hu : A.units < cLine) (h : Q (.bool true) s) :
    wpAny (model prog w) A (compareOp .NotEq (.ref a) (.ref b)) Q E s := ne_nil N ha hb hu (by
      have e : (!(vs ++ [v]).isEmpty) = true := by simp
      rw [e]; exact h)
theorem foldl_snoc {α β : Type} {f : β → α → β} {a : β} {xs : List α} {i : Nat} {x : α} (h : xs[i]? = some x) : (xs.take (i + 1)).foldl f a = f ((xs.take i).foldl f a) x := by
  rw [List.take_add_one, h]; simp
section
variable {prog : Program} {w : World} {A : Around} {E : Value → Shared → Prop} {s : Shared} {h₀ : Heap} {L : Addr} {m mg mb : Str → Option Value}
  {p : Program} {loose : List Str} {mean : ExcName → Option Value} {Q : Value → Shared → Prop} {news : List (Addr × Obj)}
theorem words_lawr_1 : True := by
  k_with_none
  k_with "k_enter" => (refine' code_defM ?k1ₓ ?k2ₓ ?k3ₓ ?k5ₓ ?k6ₓ ?k7ₓ ?k8ₓ ?k9ₓ ?kBₓ ?_ ?c2ₓ ?c3ₓ ?c4ₓ ?c5ₓ; (case k1ₓ => k_asm); (case k2ₓ => k_asm); (case k3ₓ => k_asm); (case k5ₓ => k_asm); (case k6ₓ => k_is); (case k7ₓ => k_is); (case k8ₓ => exact Nat.le_of_ble_eq_true rfl); (case k9ₓ => exact rfl); (case c5ₓ => decide); (case kBₓ => exact locs rfl); (case c2ₓ => exact rfl); (case c3ₓ => exact rfl); (case c4ₓ => exact rfl); k_whole; intro g'ₓ L'ₓ h'ₓ FG'ₓ F'ₓ N'ₓ X'ₓ T'ₓ; (try dsimp only [List.map, List.zip, List.zipWith] at F'ₓ); (try dsimp only); (try k_fold))
  k_with "k_mem" => first | with_reducible assumption | with_reducible exact List.mem_cons_self | (with_reducible apply List.mem_cons_of_mem; k_mem)
  k_with "k_all" => first | assumption | exact allLt_off (by assumption)
  k_with "size_fits" => first | assumption | (simp only [Array.size_push, List.size_toArray, List.length_append, List.length_cons, List.length_nil, vz_length, PySem.sizeLine_eq]; omega)
  k_with "binaryOp Add ref ref" => (k_here; (with_reducible show wpAny _ _ (binaryOp _ (Value.ref _) (Value.ref _)) _ _ _); k_dflt (refine' addL ?Fₓ ?Nₓ ?aₓ ?bₓ ?zₓ ?_; (case Fₓ => k_asm); (case Nₓ => k_asm); (case aₓ => k_mem); (case bₓ => k_mem); (case zₓ => (simp only [List.length_cons, List.length_nil, vz_length, sizeLine_eq]; omega))); intro D'ₓ h'ₓ F'ₓ N'ₓ l1ₓ; (try k_lt l1ₓ); (try k_sweep))
  k_with "k_sub" => ((try simp only [List.cons_append, List.nil_append]); (repeat ((with_reducible refine List.forall_mem_cons.mpr ⟨?_, ?_⟩); (next => (first | ((repeat (first | with_reducible exact List.mem_cons_self | with_reducible apply List.mem_cons_of_mem)); done) | (repeat (first | exact List.mem_cons_self | apply List.mem_cons_of_mem)))))); intro qₓ hqₓ; first | with_reducible exact absurd hqₓ List.not_mem_nil | (repeat (first | with_reducible exact hqₓ | with_reducible exact List.mem_append_left _ hqₓ | with_reducible exact List.mem_append_right _ hqₓ | with_reducible apply List.mem_cons_of_mem)))
  k_with "SrcLP" => (k_here; k_dflt (refine LCp.SrcLP.ledger (by rfl) (by k_asm) (by k_asm) (by k_mem) (by size_fits) ?_); intro g'ₓ; refine Halt.out ?_)
  k_with "CompSrc" => (k_here; k_dflt (refine LCg.CompSrc.ledger (by rfl) (by k_asm) (by k_asm) (by k_mem) (by size_fits) ?_); intro g'ₓ; refine Halt.out ?_)
  k_with "CompSrcT" => (k_here; k_dflt (refine LCt.CompSrcT.ledger (by rfl) (by k_asm) (by k_asm) (by k_mem) (by size_fits) ?_); intro g'ₓ; refine Halt.out ?_)
  k_with "CompEnd" => (refine Halt.out ?_)
  k_with "lsm_bools" => assumption
  k_with "eval Name" => (k_here; k_dflt (refine' nameX_L ?Fₓ ?vₓ ?_ ?aₓ ?bₓ; (case Fₓ => k_asm); (case aₓ => rfl); (case bₓ => rfl); (case vₓ => first | exact rfl | assumption); k_whole))
  k_with "eval Name" => (k_here; (with_reducible show wpAny _ _ (eval (Expr.Name _ _) (envOf _ _ _ _ _)) _ _ _); k_dflt (refine' ld ?k1ₓ ?k2ₓ ?_; (case k1ₓ => k_asm); (case k2ₓ => first | exact rfl | assumption); k_whole))
  k_with "k_ne" => (first | assumption | (apply Ne.symm; assumption) | exact Nat.ne_of_lt (by assumption) | exact Nat.ne_of_gt (by assumption))
  k_with "call builtin:len" => (k_here; (with_reducible show wpAny _ _ (call (Value.builtin "len") [Value.ref _]) _ _ _); k_dflt (refine' lenL ?Nₓ ?aₓ ?zₓ ?_; (case Nₓ => k_asm); (case aₓ => k_mem); (case zₓ => (simp only [vz_length]; omega))); (try simp only [vz_length]))
  k_with "setItem ref int" => (k_here; k_dflt (refine' kda_set (knd := PySem.intKind _ _) ?Fₓ ?Nₓ ?Uₓ ?dₓ (intKind_is _ _ _ _) ?zₓ ?_; (case Fₓ => k_asm); (case Nₓ => k_asm); (case Uₓ => k_updF); (case dₓ => assumption); (case zₓ => assumption)); intro h'ₓ o'ₓ F'ₓ N'ₓ hd'ₓ; (try k_sweep))
  k_with "call ref" => (k_here; (with_reducible show wpAny _ _ (call (Value.ref 238) _) _ _ _); k_dflt (refine' to_AL rfl ?dₓ ?uₓ (draw_at ?Fₓ ?Nₓ ?Xₓ ?Tₓ ?Uₓ ?oₓ ?hPₓ ?hSₓ ?hiₓ ?hlₓ ?psₓ ?hmₓ ?_); (case dₓ => exact Nat.le_of_ble_eq_true rfl); (case uₓ => exact Nat.le_of_ble_eq_true rfl); (case Fₓ => k_asm); (case Nₓ => k_asm); (case Xₓ => k_asm); (case Tₓ => k_asm); (case Uₓ => k_updF); (case oₓ => assumption); (case hPₓ => k_mem); (case hSₓ => k_mem); (case hiₓ => assumption); (case hlₓ => assumption); (case psₓ => k_ne); (case hmₓ => first | decide | assumption)); intro v'ₓ t'ₓ o'ₓ h'ₓ tk'ₓ hv0'ₓ hv1'ₓ oP'ₓ F'ₓ N'ₓ; (try dsimp only at N'ₓ); (try k_sweep))
  k_with "call ref" => (k_here; (with_reducible show wpAny _ _ (call (Value.ref 53) _) _ _ _); k_dflt (refine' to_AL rfl ?dₓ ?uₓ (add_at ?Fₓ ?Nₓ ?Xₓ ?Tₓ ?hLₓ ?hzₓ ?hlenₓ ?_); (case dₓ => exact Nat.le_of_ble_eq_true rfl); (case uₓ => exact Nat.le_of_ble_eq_true rfl); (case Fₓ => k_asm); (case Nₓ => k_asm); (case Xₓ => k_asm); (case Tₓ => k_asm); (case hLₓ => k_mem); (case hzₓ => k_sub); (case hlenₓ => first | assumption | omega)); intro RL' z' rs' k' h' tk' F' N' n1' n2' n3' er' es' el'; (repeat (replace n1' := List.forall_mem_cons.mp n1'; (have hn' := And.left n1'); replace n1' := And.right n1'; try dsimp only at hn')); (repeat (replace n2' := List.forall_mem_cons.mp n2'; (have hn' := And.left n2'); replace n2' := And.right n2'; try dsimp only at hn')); (try dsimp only at n3'); (try k_sweep))
  k_with "call ref" => (k_here; (with_reducible show wpAny _ _ (call (Value.ref 58) _) _ _ _); k_dflt (refine' to_AL rfl ?dₓ ?uₓ (has_at ?Fₓ ?Nₓ ?Xₓ ?Tₓ ?hLₓ ?hzₓ ?hlenₓ ?_); (case dₓ => exact Nat.le_of_ble_eq_true rfl); (case uₓ => exact Nat.le_of_ble_eq_true rfl); (case Fₓ => k_asm); (case Nₓ => k_asm); (case Xₓ => k_asm); (case Tₓ => k_asm); (case hLₓ => k_mem); (case hzₓ => k_sub); (case hlenₓ => first | assumption | omega)); intro h'ₓ tk'ₓ F'ₓ N'ₓ; (try k_sweep))
  k_with "call ref" => (k_here; (with_reducible show wpAny _ _ (call (Value.ref 41) _) _ _ _); k_dflt (refine' to_AL rfl ?dₓ ?uₓ (anyel_at ?Fₓ ?Nₓ ?Xₓ ?Tₓ ?hLₓ ?hzₓ ?oₓ ?hlₓ ?_); (case dₓ => exact Nat.le_of_ble_eq_true rfl); (case uₓ => exact Nat.le_of_ble_eq_true rfl); (case Fₓ => k_asm); (case Nₓ => k_asm); (case Xₓ => k_asm); (case Tₓ => k_asm); (case hLₓ => k_mem); (case hzₓ => (intro qₓ hqₓ; first | (refine mem_in ((‹∀ qₓ ∈ tf _, qₓ ∈ _›) qₓ hqₓ) ?_; first | exact ⟨1, rfl⟩ | exact ⟨2, rfl⟩ | exact ⟨3, rfl⟩ | exact ⟨4, rfl⟩ | exact ⟨5, rfl⟩ | exact ⟨6, rfl⟩ | exact ⟨7, rfl⟩ | exact ⟨8, rfl⟩ | exact ⟨9, rfl⟩ | exact ⟨10, rfl⟩ | exact ⟨11, rfl⟩ | exact ⟨12, rfl⟩ | exact ⟨13, rfl⟩ | exact ⟨14, rfl⟩ | exact ⟨15, rfl⟩) | (repeat (first | with_reducible exact (‹∀ qₓ ∈ tf _, qₓ ∈ _›) qₓ hqₓ | with_reducible apply List.mem_cons_of_mem)))); (case oₓ => assumption); (case hlₓ => assumption)); intro h'ₓ tk'ₓ F'ₓ N'ₓ; (try k_sweep))
  k_with "call ref" => (k_here; (with_reducible show wpAny _ _ (call (Value.ref 46) _) _ _ _); k_dflt (refine' to_AL rfl ?dₓ ?uₓ (anyfl_at ?Fₓ ?Nₓ ?Xₓ ?Tₓ ?hLₓ ?hzₓ ?oₓ ?hlₓ ?_); (case dₓ => exact Nat.le_of_ble_eq_true rfl); (case uₓ => exact Nat.le_of_ble_eq_true rfl); (case Fₓ => k_asm); (case Nₓ => k_asm); (case Xₓ => k_asm); (case Tₓ => k_asm); (case hLₓ => k_mem); (case hzₓ => (intro qₓ hqₓ; first | (refine mem_in ((‹∀ qₓ ∈ tf _, qₓ ∈ _›) qₓ hqₓ) ?_; first | exact ⟨1, rfl⟩ | exact ⟨2, rfl⟩ | exact ⟨3, rfl⟩ | exact ⟨4, rfl⟩ | exact ⟨5, rfl⟩ | exact ⟨6, rfl⟩ | exact ⟨7, rfl⟩ | exact ⟨8, rfl⟩ | exact ⟨9, rfl⟩ | exact ⟨10, rfl⟩ | exact ⟨11, rfl⟩ | exact ⟨12, rfl⟩ | exact ⟨13, rfl⟩ | exact ⟨14, rfl⟩ | exact ⟨15, rfl⟩) | (repeat (first | with_reducible exact (‹∀ qₓ ∈ tf _, qₓ ∈ _›) qₓ hqₓ | with_reducible apply List.mem_cons_of_mem)))); (case oₓ => assumption); (case hlₓ => assumption)); intro h'ₓ tk'ₓ F'ₓ N'ₓ; (try k_sweep))
  k_with "k_lt_off" => skip
  k_with "k_ne" => (first | assumption | (apply Ne.symm; assumption) | exact ne_new (by assumption) (by k_mem) | exact Ne.symm (ne_new (by assumption) (by k_mem)))
  k_with "k_all" => first | assumption | (refine all_new (by assumption) ?_; intro qₓ hqₓ; repeat (first | with_reducible exact hqₓ | with_reducible apply List.mem_cons_of_mem))
  k_with "newTuple" => (k_here; k_dflt (refine' kup_newTuple ?Fₓ ?Nₓ ?_ ?zₓ; (case Fₓ => k_asm); (case Nₓ => k_asm); (case zₓ => kmk_size)); intro D'ₓ h'ₓ F'ₓ N'ₓ l1ₓ; (try k_sweep))
  k_with "call builtin:sorted" => (refine Halt.out ?_)
  k_with "pyIter_ref" => (refine Halt.out ?_)
  k_with "exec For" => (refine Halt.out ?_)
  k_with "compareOp NotEq ref ref" => (k_here; k_dflt (refine' ne_nil0 ?Nₓ ?aₓ ?bₓ ?uₓ ?_; (case Nₓ => k_asm); (case aₓ => k_mem); (case bₓ => k_mem); (case uₓ => exact Nat.le_of_ble_eq_true rfl)))
  k_with "compareOp NotEq ref ref" => (k_here; k_dflt (refine' ne_nil1 ?Nₓ ?aₓ ?bₓ ?uₓ ?_; (case Nₓ => k_asm); (case aₓ => k_mem); (case bₓ => k_mem); (case uₓ => exact Nat.le_of_ble_eq_true rfl)))
  k_with "subscriptTail Name" => (k_here; (with_reducible show wpAny _ _ (subscriptTail _ _ (Value.ref _) (Value.int (-1) _)) _ _ _); k_dflt (refine' list_last ?Nₓ ?mₓ ?zₓ ?_; (case Nₓ => k_asm); (case mₓ => k_mem); (case zₓ => assumption)))
  k_with "subscriptTail" => (k_here; (with_reducible show wpAny _ _ (subscriptTail _ _ (Value.ref _) (Value.int (-1) _)) _ _ _); k_dflt (refine' list_last ?Nₓ ?mₓ ?zₓ ?_; (case Nₓ => k_asm); (case mₓ => k_mem); (case zₓ => assumption)))
  k_with "setItem ref int ref" => (k_here; (with_reducible show wpAny _ _ (setItem (Value.ref _) (Value.int (-1) _) _) _ _ _); k_dflt (refine' set_last ?Fₓ ?Nₓ ?Uₓ ?_; (case Fₓ => k_asm); (case Nₓ => k_asm); (case Uₓ => k_updF)); intro h'ₓ c'ₓ F'ₓ N'ₓ; (try k_sweep))
  trivial
theorem lawr_at {src : Addr} {osrc : Obj} {ns : List Int}
    (F : Fr h₀ L s.heap m) (N : News h₀ L s.heap news) (X₀ : (heap w.params).In h₀) (T : Top p loose mean mg mb h₀)
    (hm : (src, osrc) ∈ news) (ho : (∃ vs k, osrc = listOf vs.toArray k ∧ IntsAre vs ns) ∨ ((src == sysModules) = false ∧ ∃ kvs : List (Int × Value), osrc.IsDictOf (intKind prog w) kvs ∧ ns = kvs.map (·.1))) (hl : ns.length < 64)
    (h : ∀ (FL : Addr) (fz : List RZ) k' h' tk' (ms : List Int), ms.Perm ns → ms.Pairwise (· ≤ ·) → rz fz = lawR ms.reverse → fz.length ≤ ns.length → Fr h₀ L h' m → News h₀ L h' ((FL, listOf (vz fz).toArray k') :: (tz fz ++ news)) → Q (.ref FL) { s with heap := h', toks := tk' }) :
    wpAny (model prog w) (AL 360) (call (.ref 245) [.ref src]) Q (fun _ _ => False) s := by
  have hW : ∀ q ∈ [(src, osrc)], q ∈ news := List.forall_mem_cons.mpr ⟨hm, fun _ h => nomatch h⟩
  refine enter (binds := [(Str.ofString "numbers", .ref src)]) (W := [(src, osrc)]) F N X₀ T hW (by k_dflt k_is) (by k_dflt k_is) (by decide) (BindsTo.of_eq rfl) (locs rfl) ?_ rfl rfl rfl (by decide)
  intro g L' h₁ tk hg F' N' X' T'
  have fin : ∀ (FL : Addr) (fz : List RZ) k' h' tk' m' (ms : List Int), ms.Perm ns → ms.Pairwise (· ≤ ·) → rz fz = lawR ms.reverse → fz.length ≤ ns.length → Fr g L' h' m' → News g L' h' ((FL, listOf (vz fz).toArray k') :: (tz fz ++ [(src, osrc)])) → Q (.ref FL) { s with heap := h', toks := tk' } :=
    fun FL fz k' h' tk' m' ms a1 a2 a3 a4 F' N' => h FL fz k' h' tk' ms a1 a2 a3 a4 (backF F N hW hg F') (by
      have N9 := backAll F N hW hg F' (pre := (FL, listOf (vz fz).toArray k') :: tz fz) N'
      exact N9)
  clear h hW hm N X₀ T F hg
  (try dsimp only)
  k_unmd
  k_fold
  k_steps
  obtain ⟨FL, F₂, N₂, nF⟩ : ∃ FL, Fr g L' _ (fun y => if y = Str.ofString "found" then some (.ref FL) else [(Str.ofString "numbers", Value.ref src)].reverse.lookup y) ∧ News g L' _ [(FL, listOf #[] 0), (src, osrc)] ∧ @Ne Nat src FL := ⟨_, by assumption, by assumption, by k_ne⟩
  refine Halt.mk ?_
  refine For_at g ?_
  k_steps
  refine Halt.mk (merge (fun v s' => ∃ (D : Addr) (h : Heap) (tk : Nat) (vs : List Value) (ms : List Int) (c : Nat), v = .ref D ∧ s' = { s with heap := h, toks := tk } ∧ Fr g L' h (fun y => if y = Str.ofString "found" then some (.ref FL) else [(Str.ofString "numbers", Value.ref src)].reverse.lookup y) ∧ News g L' h [(D, listOf vs.toArray c), (FL, listOf #[] 0), (src, osrc)] ∧ IntsAre vs ms ∧ ms.Perm ns ∧ ms.Pairwise (· ≤ ·) ∧ @Ne Nat FL D) ?g1 ?g2)
  case g1 =>
    clear fin
    rcases ho with ⟨vs, c, rfl, hi⟩ | ⟨lo, kvs, hd, rfl⟩
    · refine kso_sorted F₂ N₂ ⟨_, (N₂ _ (.tail _ (.head _))).1, rfl, _, rfl⟩ hi hl ?_
      intro D vs' ns' c h' F3 N3 l1 i' e' p' o' _
      exact ⟨D, h', _, vs', ns', c, rfl, rfl, F3, N3, i', p', o', Nat.ne_of_lt (l1 _ (.head _))⟩
    · refine sorted_dict rfl F₂ N₂ (.tail _ (.head _)) hd lo (by simpa using hl) ?_
      intro D h' tk vs' ns' c F3 N3 l1 i' p' o'
      exact ⟨D, h', tk, vs', ns', c, rfl, rfl, F3, N3, i', p', o', Nat.ne_of_lt (l1 _ (.head _))⟩
  case g2 =>
    intro v s' hq
    obtain ⟨D, h₂, tk₂, vs, ms, c, rfl, rfl, F₃, N₃, hI, hP, hO, nD⟩ := hq
    have hml : ms.length < 64 := by rw [hP.length_eq]; exact hl
    (try dsimp only)
    k_steps
    have D'ₓ := True.intro; have F'ₓ := True.intro; have FG'ₓ := True.intro; have L'ₓ := True.intro; have N'ₓ := True.intro; have T'ₓ := True.intro; have X'ₓ := True.intro; have c'ₓ := True.intro; have g'ₓ := True.intro; have h'ₓ := True.intro; have hd'ₓ := True.intro; have hqₓ := True.intro; have hv0'ₓ := True.intro; have hv1'ₓ := True.intro; have l1ₓ := True.intro; have o'ₓ := True.intro; have oP'ₓ := True.intro; have qₓ := True.intro; have t'ₓ := True.intro; have tk'ₓ := True.intro; have v'ₓ := True.intro
    rename_i D2 ws h₄ F₄ N₄' l₄ hI2 _
    clear D'ₓ F'ₓ FG'ₓ L'ₓ N'ₓ T'ₓ X'ₓ c'ₓ g'ₓ h'ₓ hd'ₓ hqₓ hv0'ₓ hv1'ₓ l1ₓ o'ₓ oP'ₓ qₓ t'ₓ tk'ₓ v'ₓ
    have nFD : @Ne Nat FL D2 := ne_new l₄ (.tail _ (.head _))
    have N₄ : News g L' h₄ [(FL, listOf #[] 0), (D2, listOf ws.toArray 0), (src, osrc)] := newsSub N₄' (by k_sub)
    clear N₄'
    clear nD hI
    generalize hrs : ms.reverse = rs at hI2
    have hrl : rs.length < 64 := by rw [← hrs, List.length_reverse]; exact hml
    have hwl : ws.length = rs.length := IntsAre.length hI2
    refine Halt.mk ?_
    k_dflt refine iter_list (its := ws.toArray) rfl rfl rfl F₄ N₄ (.inr ⟨listOf ws.toArray 0, .tail _ (.head _), rfl, _, rfl⟩) (fun i m nw => ∃ (fz : List RZ) (k' : Nat), m (Str.ofString "found") = some (.ref FL) ∧ rz fz = (rs.take i).foldl stepL [] ∧ fz.length ≤ i ∧ nw = (FL, listOf (vz fz).toArray k') :: (D2, listOf ws.toArray 0) :: (tz fz ++ [(src, osrc)])) ?h0 ?turn ?done
    case h0 => exact ⟨[], 0, rfl, rfl, Nat.le_refl _, rfl⟩
    case turn =>
      clear N₄ F₄ fin
      intro i v m₁ nw I oI h₁ tk₁ s' hi hv hJ _ off F₁ N₁ hs'
      obtain ⟨g', rfl⟩ := hs'
      obtain ⟨n, tn, rfl, hn⟩ := IntsAre.at hI2 i v (by simpa using hv)
      obtain ⟨fz, k', hfd, hfold, hfl, rfl⟩ := hJ
      have hnext := foldl_snoc (f := stepL) (a := []) hn
      rw [← hfold] at hnext
      have hi' : i < 64 := by have : i < ws.length := by simpa using hi
                              omega
      replace F₁ : Fr g L' h₁ (fun y => if y = Str.ofString "number" then some (.int n tn) else m₁ y) := F₁
      rcases List.eq_nil_or_concat fz with rfl | ⟨fz', z, rfl⟩
      · have o1 : @Ne Nat FL I := off _ (.head _)
        have o2 : @Ne Nat D2 I := off _ (.tail _ (.head _))
        have o3 : @Ne Nat src I := off _ (.tail _ (.tail _ (.head _)))
        replace N₁ : News g L' h₁ [(I, oI), (FL, listOf #[] k'), (D2, listOf ws.toArray 0), (src, osrc)] := N₁
        k_unmd
        k_fold
        k_steps
        all_goals (try k_unfold)
        have D'ₓ := True.intro; have F'ₓ := True.intro; have FG'ₓ := True.intro; have L'ₓ := True.intro; have N'ₓ := True.intro; have T'ₓ := True.intro; have X'ₓ := True.intro; have c'ₓ := True.intro; have g'ₓ := True.intro; have h'ₓ := True.intro; have hd'ₓ := True.intro; have hqₓ := True.intro; have hv0'ₓ := True.intro; have hv1'ₓ := True.intro; have l1ₓ := True.intro; have o'ₓ := True.intro; have oP'ₓ := True.intro; have qₓ := True.intro; have t'ₓ := True.intro; have tk'ₓ := True.intro; have v'ₓ := True.intro
        rename_i D9 _ l5 h9 F9 N9
        clear D'ₓ F'ₓ FG'ₓ L'ₓ N'ₓ T'ₓ X'ₓ c'ₓ g'ₓ h'ₓ hd'ₓ hqₓ hv0'ₓ hv1'ₓ l1ₓ o'ₓ oP'ₓ qₓ t'ₓ tk'ₓ v'ₓ
        refine ForEnd.intro ((FL, listOf (vz [⟨D9, n, n, tn, tn⟩]).toArray (k' + 1)) :: (D2, listOf ws.toArray 0) :: (tz [⟨D9, n, n, tn, tn⟩] ++ [(src, osrc)])) F9 N9 ?_ ?_ (.inr ⟨listOf ws.toArray 0, .tail _ (.head _), rfl, _, rfl⟩) ⟨[⟨D9, n, n, tn, tn⟩], k' + 1, hfd, by rw [hnext]; rfl, Nat.succ_le_succ (Nat.zero_le _), rfl⟩
        · show ∀ q ∈ [(I, oI), (FL, listOf (#[].push (.ref D9)) (k' + 1)), (D2, listOf ws.toArray 0), (D9, tup2 n tn n tn), (src, osrc)], _
          k_sub
        · exact List.forall_mem_cons.mpr ⟨o1, List.forall_mem_cons.mpr ⟨o2, List.forall_mem_cons.mpr ⟨Ne.symm (ne_new l5 (.tail _ (.head _))), List.forall_mem_cons.mpr ⟨o3, fun _ h => nomatch h⟩⟩⟩⟩
      · have o1 : @Ne Nat FL I := off _ (.head _)
        have o2 : @Ne Nat D2 I := off _ (.tail _ (.head _))
        have o3 : @Ne Nat src I := off _ (.tail _ (.tail _ (List.mem_append_right _ (.head _))))
        have e1 : vz (fz'.concat z) = vz fz' ++ [.ref z.a] := by simp [vz]
        have e2 : tz (fz'.concat z) = tz fz' ++ [(z.a, z.obj)] := by simp [tz]
        rw [e1, e2] at N₁ off
        have o4 : @Ne Nat z.a I := off (z.a, z.obj) (.tail _ (.tail _ (List.mem_append_left _ (List.mem_append_right _ (.head _)))))
        have o5 : ∀ q ∈ tz fz', @Ne Nat q.1 I := fun q hq => off q (.tail _ (.tail _ (List.mem_append_left _ (List.mem_append_left _ hq))))
        have N₂ : News g L' h₁ ((I, oI) :: (FL, listOf (vz fz' ++ [Value.ref z.a]).toArray k') :: (D2, listOf ws.toArray 0) :: (src, osrc) :: (z.a, z.obj) :: tz fz') := newsSub N₁ (by
          refine List.forall_mem_cons.mpr ⟨.head _, List.forall_mem_cons.mpr ⟨.tail _ (.head _), List.forall_mem_cons.mpr ⟨.tail _ (.tail _ (.head _)), List.forall_mem_cons.mpr ⟨?_, List.forall_mem_cons.mpr ⟨?_, fun q hq => ?_⟩⟩⟩⟩⟩
          · exact .tail _ (.tail _ (.tail _ (List.mem_append_right _ (.head _))))
          · exact .tail _ (.tail _ (.tail _ (List.mem_append_left _ (List.mem_append_right _ (.head _)))))
          · exact .tail _ (.tail _ (.tail _ (List.mem_append_left _ (List.mem_append_left _ hq)))))
        clear N₁ off
        have u1 : @Ne Nat z.a FL := ne_tag N₂ (.tail _ (.tail _ (.tail _ (.tail _ (.head _))))) (.tail _ (.head _)) (i := 3) (j := 1) rfl rfl (by decide)
        have u2 : ∀ q ∈ tz fz', @Ne Nat q.1 FL := fun q hq => ne_tag N₂ (.tail _ (.tail _ (.tail _ (.tail _ (.tail _ hq))))) (.tail _ (.head _)) (tag_tz hq) (j := 1) rfl (by decide)
        have hz : (vz fz').length < 100000 := by rw [vz_length]; rw [List.length_concat] at hfl; omega
        have hsz : (vz fz' ++ [Value.ref z.a]).toArray.size ≤ sizeLine := by
          rw [List.length_concat] at hfl
          simp only [List.size_toArray, List.length_append, List.length_singleton, vz_length, sizeLine_eq]; omega
        k_unmd
        k_fold
        k_steps
        all_goals (try k_unfold)
        · have D'ₓ := True.intro; have F'ₓ := True.intro; have FG'ₓ := True.intro; have L'ₓ := True.intro; have N'ₓ := True.intro; have T'ₓ := True.intro; have X'ₓ := True.intro; have c'ₓ := True.intro; have g'ₓ := True.intro; have h'ₓ := True.intro; have hd'ₓ := True.intro; have hqₓ := True.intro; have hv0'ₓ := True.intro; have hv1'ₓ := True.intro; have l1ₓ := True.intro; have o'ₓ := True.intro; have oP'ₓ := True.intro; have qₓ := True.intro; have t'ₓ := True.intro; have tk'ₓ := True.intro; have v'ₓ := True.intro
          rename_i D9 _ l5 h9 c9 F9 N9
          clear D'ₓ F'ₓ FG'ₓ L'ₓ N'ₓ T'ₓ X'ₓ c'ₓ g'ₓ h'ₓ hd'ₓ hqₓ hv0'ₓ hv1'ₓ l1ₓ o'ₓ oP'ₓ qₓ t'ₓ tk'ₓ v'ₓ
          refine ForEnd.intro ((FL, listOf (vz (fz' ++ [⟨D9, n, z.hi, tn, z.u⟩])).toArray c9) :: (D2, listOf ws.toArray 0) :: (tz (fz' ++ [⟨D9, n, z.hi, tn, z.u⟩]) ++ [(src, osrc)])) F9 N9 ?_ ?_ (.inr ⟨listOf ws.toArray 0, .tail _ (.head _), rfl, _, rfl⟩) ⟨fz' ++ [⟨D9, n, z.hi, tn, z.u⟩], c9, hfd, ?_, ?_, rfl⟩
          · simp only [vz, tz, List.map_append, List.map_cons, List.map_nil]
            refine List.forall_mem_cons.mpr ⟨.tail _ (.tail _ (.head _)), List.forall_mem_cons.mpr ⟨.tail _ (.tail _ (.tail _ (.head _))), List.forall_mem_cons.mpr ⟨.tail _ (.tail _ (.tail _ (.tail _ (.head _)))), fun q hq => ?_⟩⟩⟩
            rcases List.mem_append.mp hq with hq | hq
            · rcases List.mem_append.mp hq with hq | hq
              · exact .tail _ (.tail _ (.tail _ (.tail _ (.tail _ (.tail _ (.tail _ hq))))))
              · rw [List.mem_singleton.mp hq]; exact .head _
            · rw [List.mem_singleton.mp hq]; exact .tail _ (.tail _ (.tail _ (.tail _ (.tail _ (.head _)))))
          · simp only [tz, List.map_append, List.map_cons, List.map_nil]
            refine List.forall_mem_cons.mpr ⟨o1, List.forall_mem_cons.mpr ⟨o2, fun q hq => ?_⟩⟩
            rcases List.mem_append.mp hq with hq | hq
            · rcases List.mem_append.mp hq with hq | hq
              · exact o5 q hq
              · rw [List.mem_singleton.mp hq]; exact Ne.symm (ne_new l5 (.tail _ (.head _)))
            · rw [List.mem_singleton.mp hq]; exact o3
          · rw [hnext]
            simp only [rz, List.concat_eq_append, List.map_append, List.map_cons, List.map_nil, stepL, List.getLast?_append, List.getLast?_singleton, Option.some_or]
            rw [if_pos (by assumption)]
            simp
          · rw [List.length_concat] at hfl
            simp only [List.length_append, List.length_singleton]
            omega
        · have D'ₓ := True.intro; have F'ₓ := True.intro; have FG'ₓ := True.intro; have L'ₓ := True.intro; have N'ₓ := True.intro; have T'ₓ := True.intro; have X'ₓ := True.intro; have c'ₓ := True.intro; have g'ₓ := True.intro; have h'ₓ := True.intro; have hd'ₓ := True.intro; have hqₓ := True.intro; have hv0'ₓ := True.intro; have hv1'ₓ := True.intro; have l1ₓ := True.intro; have o'ₓ := True.intro; have oP'ₓ := True.intro; have qₓ := True.intro; have t'ₓ := True.intro; have tk'ₓ := True.intro; have v'ₓ := True.intro
          rename_i D9 _ l5 h9 F9 N9
          clear D'ₓ F'ₓ FG'ₓ L'ₓ N'ₓ T'ₓ X'ₓ c'ₓ g'ₓ h'ₓ hd'ₓ hqₓ hv0'ₓ hv1'ₓ l1ₓ o'ₓ oP'ₓ qₓ t'ₓ tk'ₓ v'ₓ
          rw [List.push_toArray] at N9
          refine ForEnd.intro ((FL, listOf (vz (fz' ++ [z] ++ [⟨D9, n, n, tn, tn⟩])).toArray (k' + 1)) :: (D2, listOf ws.toArray 0) :: (tz (fz' ++ [z] ++ [⟨D9, n, n, tn, tn⟩]) ++ [(src, osrc)])) F9 N9 ?_ ?_ (.inr ⟨listOf ws.toArray 0, .tail _ (.head _), rfl, _, rfl⟩) ⟨fz' ++ [z] ++ [⟨D9, n, n, tn, tn⟩], k' + 1, hfd, ?_, ?_, rfl⟩
          · simp only [vz, tz, List.map_append, List.map_cons, List.map_nil]
            refine List.forall_mem_cons.mpr ⟨.tail _ (.tail _ (.head _)), List.forall_mem_cons.mpr ⟨.tail _ (.tail _ (.tail _ (.head _))), List.forall_mem_cons.mpr ⟨.tail _ (.tail _ (.tail _ (.tail _ (.head _)))), fun q hq => ?_⟩⟩⟩
            rcases List.mem_append.mp hq with hq | hq
            · rcases List.mem_append.mp hq with hq | hq
              · rcases List.mem_append.mp hq with hq | hq
                · exact .tail _ (.tail _ (.tail _ (.tail _ (.tail _ (.tail _ (.tail _ hq))))))
                · rw [List.mem_singleton.mp hq]; exact .tail _ (.tail _ (.tail _ (.tail _ (.tail _ (.tail _ (.head _))))))
              · rw [List.mem_singleton.mp hq]; exact .head _
            · rw [List.mem_singleton.mp hq]; exact .tail _ (.tail _ (.tail _ (.tail _ (.tail _ (.head _)))))
          · simp only [tz, List.map_append, List.map_cons, List.map_nil]
            refine List.forall_mem_cons.mpr ⟨o1, List.forall_mem_cons.mpr ⟨o2, fun q hq => ?_⟩⟩
            rcases List.mem_append.mp hq with hq | hq
            · rcases List.mem_append.mp hq with hq | hq
              · rcases List.mem_append.mp hq with hq | hq
                · exact o5 q hq
                · rw [List.mem_singleton.mp hq]; exact o4
              · rw [List.mem_singleton.mp hq]; exact Ne.symm (ne_new l5 (.tail _ (.head _)))
            · rw [List.mem_singleton.mp hq]; exact o3
          · rw [hnext]
            simp only [rz, List.concat_eq_append, List.map_append, List.map_cons, List.map_nil, stepL, List.getLast?_append, List.getLast?_singleton, Option.some_or]
            rw [if_neg (by assumption)]
          · rw [List.length_concat] at hfl
            simp only [List.length_append, List.length_singleton]
            omega
    case done =>
      clear N₄ F₄
      intro m₁ nw h₅ tk₅ hJ _ F₅ N₅
      obtain ⟨fz, k', hfd, hfold, hfl, rfl⟩ := hJ
      have hsz : ws.toArray.size = rs.length := by rw [List.size_toArray]; exact hwl
      rw [hsz] at hfold hfl
      rw [List.take_length] at hfold
      dsimp only
      k_unmd
      try k_fold
      k_steps
      refine fin FL fz k' _ _ _ ms hP hO (by rw [hfold, hrs]; rfl) (by rw [← hP.length_eq, ← List.length_reverse (as := ms), hrs]; exact hfl) F₅ (newsSub N₅ ?_)
      intro q hq
      rcases List.mem_cons.mp hq with rfl | hq
      · exact .head _
      · exact .tail _ (.tail _ hq)
end

-- needs: srt has frs
section
variable {prog : Program} {w : World} {A : Around} {E : Value → Shared → Prop} {s : Shared} {h₀ : Heap} {L : Addr} {m mg mb : Str → Option Value}
  {p : Program} {loose : List Str} {mean : ExcName → Option Value} {Q : Value → Shared → Prop} {news : List (Addr × Obj)}
theorem words_newly_1 : True := by
  k_with_none
  k_with "k_enter" => (refine' code_defM ?k1ₓ ?k2ₓ ?k3ₓ ?k5ₓ ?k6ₓ ?k7ₓ ?k8ₓ ?k9ₓ ?kBₓ ?_ ?c2ₓ ?c3ₓ ?c4ₓ ?c5ₓ; (case k1ₓ => k_asm); (case k2ₓ => k_asm); (case k3ₓ => k_asm); (case k5ₓ => k_asm); (case k6ₓ => k_is); (case k7ₓ => k_is); (case k8ₓ => exact Nat.le_of_ble_eq_true rfl); (case k9ₓ => exact rfl); (case c5ₓ => decide); (case kBₓ => exact locs rfl); (case c2ₓ => exact rfl); (case c3ₓ => exact rfl); (case c4ₓ => exact rfl); k_whole; intro g'ₓ L'ₓ h'ₓ FG'ₓ F'ₓ N'ₓ X'ₓ T'ₓ; (try dsimp only [List.map, List.zip, List.zipWith] at F'ₓ); (try dsimp only); (try k_fold))
  k_with "k_mem" => first | with_reducible assumption | with_reducible exact List.mem_cons_self | (with_reducible apply List.mem_cons_of_mem; k_mem)
  k_with "k_all" => first | assumption | exact allLt_off (by assumption)
  k_with "size_fits" => first | assumption | (simp only [Array.size_push, List.size_toArray, List.length_append, List.length_cons, List.length_nil, vz_length, PySem.sizeLine_eq]; omega)
  k_with "binaryOp Add ref ref" => (k_here; (with_reducible show wpAny _ _ (binaryOp _ (Value.ref _) (Value.ref _)) _ _ _); k_dflt (refine' addL ?Fₓ ?Nₓ ?aₓ ?bₓ ?zₓ ?_; (case Fₓ => k_asm); (case Nₓ => k_asm); (case aₓ => k_mem); (case bₓ => k_mem); (case zₓ => (simp only [List.length_cons, List.length_nil, vz_length, sizeLine_eq]; omega))); intro D'ₓ h'ₓ F'ₓ N'ₓ l1ₓ; (try k_lt l1ₓ); (try k_sweep))
  k_with "k_sub" => ((try simp only [List.cons_append, List.nil_append]); (repeat ((with_reducible refine List.forall_mem_cons.mpr ⟨?_, ?_⟩); (next => (first | ((repeat (first | with_reducible exact List.mem_cons_self | with_reducible apply List.mem_cons_of_mem)); done) | (repeat (first | exact List.mem_cons_self | apply List.mem_cons_of_mem)))))); intro qₓ hqₓ; first | with_reducible exact absurd hqₓ List.not_mem_nil | (repeat (first | with_reducible exact hqₓ | with_reducible exact List.mem_append_left _ hqₓ | with_reducible exact List.mem_append_right _ hqₓ | with_reducible apply List.mem_cons_of_mem)))
  k_with "SrcLP" => (k_here; k_dflt (refine LCp.SrcLP.ledger (by rfl) (by k_asm) (by k_asm) (by k_mem) (by size_fits) ?_); intro g'ₓ; refine Halt.out ?_)
  k_with "CompSrc" => (k_here; k_dflt (refine LCg.CompSrc.ledger (by rfl) (by k_asm) (by k_asm) (by k_mem) (by size_fits) ?_); intro g'ₓ; refine Halt.out ?_)
  k_with "CompSrcT" => (k_here; k_dflt (refine LCt.CompSrcT.ledger (by rfl) (by k_asm) (by k_asm) (by k_mem) (by size_fits) ?_); intro g'ₓ; refine Halt.out ?_)
  k_with "CompEnd" => (refine Halt.out ?_)
  k_with "lsm_bools" => assumption
  k_with "eval Name" => (k_here; k_dflt (refine' nameX_L ?Fₓ ?vₓ ?_ ?aₓ ?bₓ; (case Fₓ => k_asm); (case aₓ => rfl); (case bₓ => rfl); (case vₓ => first | exact rfl | assumption); k_whole))
  k_with "eval Name" => (k_here; (with_reducible show wpAny _ _ (eval (Expr.Name _ _) (envOf _ _ _ _ _)) _ _ _); k_dflt (refine' ld ?k1ₓ ?k2ₓ ?_; (case k1ₓ => k_asm); (case k2ₓ => first | exact rfl | assumption); k_whole))
  k_with "k_ne" => (first | assumption | (apply Ne.symm; assumption) | exact Nat.ne_of_lt (by assumption) | exact Nat.ne_of_gt (by assumption))
  k_with "call builtin:len" => (k_here; (with_reducible show wpAny _ _ (call (Value.builtin "len") [Value.ref _]) _ _ _); k_dflt (refine' lenL ?Nₓ ?aₓ ?zₓ ?_; (case Nₓ => k_asm); (case aₓ => k_mem); (case zₓ => (simp only [vz_length]; omega))); (try simp only [vz_length]))
  k_with "setItem ref int" => (k_here; k_dflt (refine' kda_set (knd := PySem.intKind _ _) ?Fₓ ?Nₓ ?Uₓ ?dₓ (intKind_is _ _ _ _) ?zₓ ?_; (case Fₓ => k_asm); (case Nₓ => k_asm); (case Uₓ => k_updF); (case dₓ => assumption); (case zₓ => assumption)); intro h'ₓ o'ₓ F'ₓ N'ₓ hd'ₓ; (try k_sweep))
  k_with "call ref" => (k_here; (with_reducible show wpAny _ _ (call (Value.ref 238) _) _ _ _); k_dflt (refine' to_AL rfl ?dₓ ?uₓ (draw_at ?Fₓ ?Nₓ ?Xₓ ?Tₓ ?Uₓ ?oₓ ?hPₓ ?hSₓ ?hiₓ ?hlₓ ?psₓ ?hmₓ ?_); (case dₓ => exact Nat.le_of_ble_eq_true rfl); (case uₓ => exact Nat.le_of_ble_eq_true rfl); (case Fₓ => k_asm); (case Nₓ => k_asm); (case Xₓ => k_asm); (case Tₓ => k_asm); (case Uₓ => k_updF); (case oₓ => assumption); (case hPₓ => k_mem); (case hSₓ => k_mem); (case hiₓ => assumption); (case hlₓ => assumption); (case psₓ => k_ne); (case hmₓ => first | decide | assumption)); intro v'ₓ t'ₓ o'ₓ h'ₓ tk'ₓ hv0'ₓ hv1'ₓ oP'ₓ F'ₓ N'ₓ; (try dsimp only at N'ₓ); (try k_sweep))
  k_with "call ref" => (k_here; (with_reducible show wpAny _ _ (call (Value.ref 53) _) _ _ _); k_dflt (refine' to_AL rfl ?dₓ ?uₓ (add_at ?Fₓ ?Nₓ ?Xₓ ?Tₓ ?hLₓ ?hzₓ ?hlenₓ ?_); (case dₓ => exact Nat.le_of_ble_eq_true rfl); (case uₓ => exact Nat.le_of_ble_eq_true rfl); (case Fₓ => k_asm); (case Nₓ => k_asm); (case Xₓ => k_asm); (case Tₓ => k_asm); (case hLₓ => k_mem); (case hzₓ => k_sub); (case hlenₓ => first | assumption | omega)); intro RL' z' rs' k' h' tk' F' N' n1' n2' n3' er' es' el'; (repeat (replace n1' := List.forall_mem_cons.mp n1'; (have hn' := And.left n1'); replace n1' := And.right n1'; try dsimp only at hn')); (repeat (replace n2' := List.forall_mem_cons.mp n2'; (have hn' := And.left n2'); replace n2' := And.right n2'; try dsimp only at hn')); (try dsimp only at n3'); (try k_sweep))
  k_with "call ref" => (k_here; (with_reducible show wpAny _ _ (call (Value.ref 58) _) _ _ _); k_dflt (refine' to_AL rfl ?dₓ ?uₓ (has_at ?Fₓ ?Nₓ ?Xₓ ?Tₓ ?hLₓ ?hzₓ ?hlenₓ ?_); (case dₓ => exact Nat.le_of_ble_eq_true rfl); (case uₓ => exact Nat.le_of_ble_eq_true rfl); (case Fₓ => k_asm); (case Nₓ => k_asm); (case Xₓ => k_asm); (case Tₓ => k_asm); (case hLₓ => k_mem); (case hzₓ => k_sub); (case hlenₓ => first | assumption | omega)); intro h'ₓ tk'ₓ F'ₓ N'ₓ; (try k_sweep))
  k_with "call ref" => (k_here; (with_reducible show wpAny _ _ (call (Value.ref 41) _) _ _ _); k_dflt (refine' to_AL rfl ?dₓ ?uₓ (anyel_at ?Fₓ ?Nₓ ?Xₓ ?Tₓ ?hLₓ ?hzₓ ?oₓ ?hlₓ ?_); (case dₓ => exact Nat.le_of_ble_eq_true rfl); (case uₓ => exact Nat.le_of_ble_eq_true rfl); (case Fₓ => k_asm); (case Nₓ => k_asm); (case Xₓ => k_asm); (case Tₓ => k_asm); (case hLₓ => k_mem); (case hzₓ => (intro qₓ hqₓ; first | (refine mem_in ((‹∀ qₓ ∈ tf _, qₓ ∈ _›) qₓ hqₓ) ?_; first | exact ⟨1, rfl⟩ | exact ⟨2, rfl⟩ | exact ⟨3, rfl⟩ | exact ⟨4, rfl⟩ | exact ⟨5, rfl⟩ | exact ⟨6, rfl⟩ | exact ⟨7, rfl⟩ | exact ⟨8, rfl⟩ | exact ⟨9, rfl⟩ | exact ⟨10, rfl⟩ | exact ⟨11, rfl⟩ | exact ⟨12, rfl⟩ | exact ⟨13, rfl⟩ | exact ⟨14, rfl⟩ | exact ⟨15, rfl⟩) | (repeat (first | with_reducible exact (‹∀ qₓ ∈ tf _, qₓ ∈ _›) qₓ hqₓ | with_reducible apply List.mem_cons_of_mem)))); (case oₓ => assumption); (case hlₓ => assumption)); intro h'ₓ tk'ₓ F'ₓ N'ₓ; (try k_sweep))
  k_with "call ref" => (k_here; (with_reducible show wpAny _ _ (call (Value.ref 46) _) _ _ _); k_dflt (refine' to_AL rfl ?dₓ ?uₓ (anyfl_at ?Fₓ ?Nₓ ?Xₓ ?Tₓ ?hLₓ ?hzₓ ?oₓ ?hlₓ ?_); (case dₓ => exact Nat.le_of_ble_eq_true rfl); (case uₓ => exact Nat.le_of_ble_eq_true rfl); (case Fₓ => k_asm); (case Nₓ => k_asm); (case Xₓ => k_asm); (case Tₓ => k_asm); (case hLₓ => k_mem); (case hzₓ => (intro qₓ hqₓ; first | (refine mem_in ((‹∀ qₓ ∈ tf _, qₓ ∈ _›) qₓ hqₓ) ?_; first | exact ⟨1, rfl⟩ | exact ⟨2, rfl⟩ | exact ⟨3, rfl⟩ | exact ⟨4, rfl⟩ | exact ⟨5, rfl⟩ | exact ⟨6, rfl⟩ | exact ⟨7, rfl⟩ | exact ⟨8, rfl⟩ | exact ⟨9, rfl⟩ | exact ⟨10, rfl⟩ | exact ⟨11, rfl⟩ | exact ⟨12, rfl⟩ | exact ⟨13, rfl⟩ | exact ⟨14, rfl⟩ | exact ⟨15, rfl⟩) | (repeat (first | with_reducible exact (‹∀ qₓ ∈ tf _, qₓ ∈ _›) qₓ hqₓ | with_reducible apply List.mem_cons_of_mem)))); (case oₓ => assumption); (case hlₓ => assumption)); intro h'ₓ tk'ₓ F'ₓ N'ₓ; (try k_sweep))
  k_with "k_lt_off" => skip
  k_with "k_ne" => (first | assumption | (apply Ne.symm; assumption) | exact ne_new (by assumption) (by k_mem) | exact Ne.symm (ne_new (by assumption) (by k_mem)))
  k_with "k_all" => first | assumption | (refine all_new (by assumption) ?_; intro qₓ hqₓ; repeat (first | with_reducible exact hqₓ | with_reducible apply List.mem_cons_of_mem))
  k_with "newTuple" => (k_here; k_dflt (refine' kup_newTuple ?Fₓ ?Nₓ ?_ ?zₓ; (case Fₓ => k_asm); (case Nₓ => k_asm); (case zₓ => kmk_size)); intro D'ₓ h'ₓ F'ₓ N'ₓ l1ₓ; (try k_sweep))
  k_with "eval ListComp" => (refine Halt.out ?_)
  k_with "pyIter_ref" => (refine Halt.out ?_)
  k_with "call builtin:sorted" => (refine Halt.out ?_)
  trivial
theorem newly_at {SN RL : Addr} {vs : List Value} {ns : List Int} {ks kR : Nat} {zs : List RZ}
    (F : Fr h₀ L s.heap m) (N : News h₀ L s.heap news) (X₀ : (heap w.params).In h₀) (T : Top p loose mean mg mb h₀)
    (hS : (SN, listOf vs.toArray ks) ∈ news) (hi : IntsAre vs ns) (hL : (RL, listOf (vz zs).toArray kR) ∈ news) (hz : ∀ q ∈ tz zs, q ∈ news) (hlen : zs.length ≤ 1000) (hl : ns.length < 64)
    (h : ∀ D vs' ms c h' tk', IntsAre vs' ms → ms.Perm (ns.filter (hasR (rz zs))) → ms.Pairwise (· ≤ ·) → Fr h₀ L h' m → News h₀ L h' ((D, listOf vs'.toArray c) :: news) → (∀ q ∈ news, @Ne Nat q.1 D) → Q (.ref D) { s with heap := h', toks := tk' }) :
    wpAny (model prog w) (AL 350) (call (.ref 70) [.ref SN, .ref RL]) Q (fun _ _ => False) s := by
  have hW : ∀ q ∈ (SN, listOf vs.toArray ks) :: (RL, listOf (vz zs).toArray kR) :: tz zs, q ∈ news := List.forall_mem_cons.mpr ⟨hS, List.forall_mem_cons.mpr ⟨hL, hz⟩⟩
  refine enterC (binds := [(Str.ofString "sent_numbers", .ref SN), (Str.ofString "ranges", .ref RL)]) (W := (SN, listOf vs.toArray ks) :: (RL, listOf (vz zs).toArray kR) :: tz zs) F N X₀ T hW (by k_dflt k_is) (by k_dflt k_is) (by decide) (BindsTo.of_eq rfl) rfl (by decide +kernel) ?_ rfl rfl rfl
  intro g L' h₁ tk cells hg F' N' Y l1 X' T'
  have fin : ∀ D vs' ms c h' tk' m', IntsAre vs' ms → ms.Perm (ns.filter (hasR (rz zs))) → ms.Pairwise (· ≤ ·) → Fr g L' h' m' → News g L' h' ((D, listOf vs'.toArray c) :: (SN, listOf vs.toArray ks) :: (RL, listOf (vz zs).toArray kR) :: tz zs) → (∀ q ∈ (SN, listOf vs.toArray ks) :: (RL, listOf (vz zs).toArray kR) :: tz zs, @Ne Nat q.1 D) → Q (.ref D) { s with heap := h', toks := tk' } :=
    fun D vs' ms c h' tk' m' a1 a2 a3 F' N' hn => h D vs' ms c h' tk' a1 a2 a3 (backF F N hW hg F') (backAll F N hW hg F' (pre := [(D, listOf vs'.toArray c)]) N') (backNe N hg N' (.head _) hn)
  clear h hW hS hL N X₀ T F hg l1
  k_cells Y
  (try simp only [List.cons_append, List.nil_append] at N')
  rename Obj => oc
  have hoc : oc.data = .cell (some (.ref RL)) := by assumption
  have FF : Fr g L' h₁ (fun y => if y = Str.ofString "sent_numbers" then some (.ref SN) else none) := F'
  clear F'
  (try dsimp only)
  k_unmd
  k_fold
  k_steps
  refine Halt.mk (comp_T (h₀ := g) (L := L') (m := (fun y => if y = Str.ofString "sent_numbers" then some (.ref SN) else none)) (cl := [(Str.ofString "ranges", L' + 1)]) (x := Str.ofString "n") rfl (by decide) rfl (by decide) rfl ?_)
  k_steps
  refine Halt.mk (compT_list rfl FF N' (.inr ⟨_, .tail _ (.head _), rfl, _, rfl⟩) (by rw [List.size_toArray, hi.length, sizeLine_eq]; omega) ?_)
  intro s₂ hs₂
  obtain ⟨g', rfl⟩ := hs₂
  refine invT (fun i ys nw => nw = _ ∧ IntsAre ys ((ns.take i).filter (hasR (rz zs)))) ⟨rfl, .nil⟩ ?turn ?done
  case turn =>
    intro i ys nw v I oI C oC D m₂ h tk E' hi2 hJ hv hC hx F₃ N₃ off ne
    obtain ⟨rfl, hys⟩ := hJ
    have hj : i < ns.length := by rw [← hi.length]; simpa using hi2
    obtain ⟨t8, hv8⟩ := hi.get i (ns[i]) (List.getElem?_eq_getElem hj)
    obtain rfl : v = .int (ns[i]) t8 := by
      have h1 : vs[i]? = some v := by simpa using hv
      rw [hv8] at h1
      exact (Option.some.inj h1).symm
    have hmn : ns[i]? = some (ns[i]) := List.getElem?_eq_getElem hj
    generalize ns[i] = one at hmn hx
    clear FF N' fin hv hv8 hj hi2
    (try dsimp only)
    k_unmd
    k_fold
    k_steps
    · refine ⟨LCg.CompEnd.intro (by assumption) (by assumption) _ (fun _ h => h) off (.inr ⟨_, .tail _ (.head _), rfl, _, rfl⟩) ⟨rfl, ?_⟩⟩
      rw [← take_filter (f := hasR (rz zs)) hmn (by assumption)]
      exact hys.append (.cons _ _ .nil)
    · refine ⟨LCg.CompEnd.intro (by assumption) (by assumption) _ (fun _ h => h) off (.inr ⟨_, .tail _ (.head _), rfl, _, rfl⟩) ⟨rfl, ?_⟩⟩
      rw [← take_filter0 (f := hasR (rz zs)) hmn (by assumption)]
      exact hys
  case done =>
    intro ys nw hJ
    obtain ⟨rfl, hys⟩ := hJ
    intro D h' tk' F₃ N₃ o1
    rw [List.size_toArray, hi.length, List.take_length] at hys
    clear FF N'
    k_unmd
    try k_fold
    k_steps
    refine Halt.mk (kso_sorted F₃ N₃ ⟨_, (N₃ _ (.head _)).1, rfl, _, rfl⟩ hys (Nat.lt_of_le_of_lt (List.length_filter_le _ _) hl) ?_)
    intro D2 vs' ns' c h' F4 N4 l1 i' e' p' o' _
    clear F₃ N₃
    k_steps
    exact fin _ _ _ _ _ _ _ i' p' o' (by assumption) (newsSub (by assumption) (List.forall_mem_cons.mpr ⟨.head _, fun q hq => .tail _ (.tail _ (.tail _ hq))⟩)) (fun q hq => Nat.ne_of_lt (l1 q (.tail _ (.tail _ hq))))
end

-- needs: led2 frs
section
variable {prog : Program} {w : World} {A : Around} {E : Value → Shared → Prop} {s : Shared} {h₀ : Heap} {L : Addr} {m mg mb : Str → Option Value}
  {p : Program} {loose : List Str} {mean : ExcName → Option Value} {Q : Value → Shared → Prop} {news : List (Addr × Obj)}
theorem words_octs_1 : True := by
  k_with_none
  k_with "k_enter" => (refine' code_defM ?k1ₓ ?k2ₓ ?k3ₓ ?k5ₓ ?k6ₓ ?k7ₓ ?k8ₓ ?k9ₓ ?kBₓ ?_ ?c2ₓ ?c3ₓ ?c4ₓ ?c5ₓ; (case k1ₓ => k_asm); (case k2ₓ => k_asm); (case k3ₓ => k_asm); (case k5ₓ => k_asm); (case k6ₓ => k_is); (case k7ₓ => k_is); (case k8ₓ => exact Nat.le_of_ble_eq_true rfl); (case k9ₓ => exact rfl); (case c5ₓ => decide); (case kBₓ => exact locs rfl); (case c2ₓ => exact rfl); (case c3ₓ => exact rfl); (case c4ₓ => exact rfl); k_whole; intro g'ₓ L'ₓ h'ₓ FG'ₓ F'ₓ N'ₓ X'ₓ T'ₓ; (try dsimp only [List.map, List.zip, List.zipWith] at F'ₓ); (try dsimp only); (try k_fold))
  k_with "k_mem" => first | with_reducible assumption | with_reducible exact List.mem_cons_self | (with_reducible apply List.mem_cons_of_mem; k_mem)
  k_with "k_all" => first | assumption | exact allLt_off (by assumption)
  k_with "size_fits" => first | assumption | (simp only [Array.size_push, List.size_toArray, List.length_append, List.length_cons, List.length_nil, vz_length, PySem.sizeLine_eq]; omega)
  k_with "binaryOp Add ref ref" => (k_here; (with_reducible show wpAny _ _ (binaryOp _ (Value.ref _) (Value.ref _)) _ _ _); k_dflt (refine' addL ?Fₓ ?Nₓ ?aₓ ?bₓ ?zₓ ?_; (case Fₓ => k_asm); (case Nₓ => k_asm); (case aₓ => k_mem); (case bₓ => k_mem); (case zₓ => (simp only [List.length_cons, List.length_nil, vz_length, sizeLine_eq]; omega))); intro D'ₓ h'ₓ F'ₓ N'ₓ l1ₓ; (try k_lt l1ₓ); (try k_sweep))
  k_with "k_sub" => ((try simp only [List.cons_append, List.nil_append]); (repeat ((with_reducible refine List.forall_mem_cons.mpr ⟨?_, ?_⟩); (next => (first | ((repeat (first | with_reducible exact List.mem_cons_self | with_reducible apply List.mem_cons_of_mem)); done) | (repeat (first | exact List.mem_cons_self | apply List.mem_cons_of_mem)))))); intro qₓ hqₓ; first | with_reducible exact absurd hqₓ List.not_mem_nil | (repeat (first | with_reducible exact hqₓ | with_reducible exact List.mem_append_left _ hqₓ | with_reducible exact List.mem_append_right _ hqₓ | with_reducible apply List.mem_cons_of_mem)))
  k_with "SrcLP" => (k_here; k_dflt (refine LCp.SrcLP.ledger (by rfl) (by k_asm) (by k_asm) (by k_mem) (by size_fits) ?_); intro g'ₓ; refine Halt.out ?_)
  k_with "CompSrc" => (k_here; k_dflt (refine LCg.CompSrc.ledger (by rfl) (by k_asm) (by k_asm) (by k_mem) (by size_fits) ?_); intro g'ₓ; refine Halt.out ?_)
  k_with "CompSrcT" => (k_here; k_dflt (refine LCt.CompSrcT.ledger (by rfl) (by k_asm) (by k_asm) (by k_mem) (by size_fits) ?_); intro g'ₓ; refine Halt.out ?_)
  k_with "CompEnd" => (refine Halt.out ?_)
  k_with "lsm_bools" => assumption
  k_with "eval Name" => (k_here; k_dflt (refine' nameX_L ?Fₓ ?vₓ ?_ ?aₓ ?bₓ; (case Fₓ => k_asm); (case aₓ => rfl); (case bₓ => rfl); (case vₓ => first | exact rfl | assumption); k_whole))
  k_with "eval Name" => (k_here; (with_reducible show wpAny _ _ (eval (Expr.Name _ _) (envOf _ _ _ _ _)) _ _ _); k_dflt (refine' ld ?k1ₓ ?k2ₓ ?_; (case k1ₓ => k_asm); (case k2ₓ => first | exact rfl | assumption); k_whole))
  k_with "k_ne" => (first | assumption | (apply Ne.symm; assumption) | exact Nat.ne_of_lt (by assumption) | exact Nat.ne_of_gt (by assumption))
  k_with "call builtin:len" => (k_here; (with_reducible show wpAny _ _ (call (Value.builtin "len") [Value.ref _]) _ _ _); k_dflt (refine' lenL ?Nₓ ?aₓ ?zₓ ?_; (case Nₓ => k_asm); (case aₓ => k_mem); (case zₓ => (simp only [vz_length]; omega))); (try simp only [vz_length]))
  k_with "setItem ref int" => (k_here; k_dflt (refine' kda_set (knd := PySem.intKind _ _) ?Fₓ ?Nₓ ?Uₓ ?dₓ (intKind_is _ _ _ _) ?zₓ ?_; (case Fₓ => k_asm); (case Nₓ => k_asm); (case Uₓ => k_updF); (case dₓ => assumption); (case zₓ => assumption)); intro h'ₓ o'ₓ F'ₓ N'ₓ hd'ₓ; (try k_sweep))
  k_with "call ref" => (k_here; (with_reducible show wpAny _ _ (call (Value.ref 238) _) _ _ _); k_dflt (refine' to_AL rfl ?dₓ ?uₓ (draw_at ?Fₓ ?Nₓ ?Xₓ ?Tₓ ?Uₓ ?oₓ ?hPₓ ?hSₓ ?hiₓ ?hlₓ ?psₓ ?hmₓ ?_); (case dₓ => exact Nat.le_of_ble_eq_true rfl); (case uₓ => exact Nat.le_of_ble_eq_true rfl); (case Fₓ => k_asm); (case Nₓ => k_asm); (case Xₓ => k_asm); (case Tₓ => k_asm); (case Uₓ => k_updF); (case oₓ => assumption); (case hPₓ => k_mem); (case hSₓ => k_mem); (case hiₓ => assumption); (case hlₓ => assumption); (case psₓ => k_ne); (case hmₓ => first | decide | assumption)); intro v'ₓ t'ₓ o'ₓ h'ₓ tk'ₓ hv0'ₓ hv1'ₓ oP'ₓ F'ₓ N'ₓ; (try dsimp only at N'ₓ); (try k_sweep))
  k_with "call ref" => (k_here; (with_reducible show wpAny _ _ (call (Value.ref 53) _) _ _ _); k_dflt (refine' to_AL rfl ?dₓ ?uₓ (add_at ?Fₓ ?Nₓ ?Xₓ ?Tₓ ?hLₓ ?hzₓ ?hlenₓ ?_); (case dₓ => exact Nat.le_of_ble_eq_true rfl); (case uₓ => exact Nat.le_of_ble_eq_true rfl); (case Fₓ => k_asm); (case Nₓ => k_asm); (case Xₓ => k_asm); (case Tₓ => k_asm); (case hLₓ => k_mem); (case hzₓ => k_sub); (case hlenₓ => first | assumption | omega)); intro RL' z' rs' k' h' tk' F' N' n1' n2' n3' er' es' el'; (repeat (replace n1' := List.forall_mem_cons.mp n1'; (have hn' := And.left n1'); replace n1' := And.right n1'; try dsimp only at hn')); (repeat (replace n2' := List.forall_mem_cons.mp n2'; (have hn' := And.left n2'); replace n2' := And.right n2'; try dsimp only at hn')); (try dsimp only at n3'); (try k_sweep))
  k_with "call ref" => (k_here; (with_reducible show wpAny _ _ (call (Value.ref 58) _) _ _ _); k_dflt (refine' to_AL rfl ?dₓ ?uₓ (has_at ?Fₓ ?Nₓ ?Xₓ ?Tₓ ?hLₓ ?hzₓ ?hlenₓ ?_); (case dₓ => exact Nat.le_of_ble_eq_true rfl); (case uₓ => exact Nat.le_of_ble_eq_true rfl); (case Fₓ => k_asm); (case Nₓ => k_asm); (case Xₓ => k_asm); (case Tₓ => k_asm); (case hLₓ => k_mem); (case hzₓ => k_sub); (case hlenₓ => first | assumption | omega)); intro h'ₓ tk'ₓ F'ₓ N'ₓ; (try k_sweep))
  k_with "call ref" => (k_here; (with_reducible show wpAny _ _ (call (Value.ref 41) _) _ _ _); k_dflt (refine' to_AL rfl ?dₓ ?uₓ (anyel_at ?Fₓ ?Nₓ ?Xₓ ?Tₓ ?hLₓ ?hzₓ ?oₓ ?hlₓ ?_); (case dₓ => exact Nat.le_of_ble_eq_true rfl); (case uₓ => exact Nat.le_of_ble_eq_true rfl); (case Fₓ => k_asm); (case Nₓ => k_asm); (case Xₓ => k_asm); (case Tₓ => k_asm); (case hLₓ => k_mem); (case hzₓ => (intro qₓ hqₓ; first | (refine mem_in ((‹∀ qₓ ∈ tf _, qₓ ∈ _›) qₓ hqₓ) ?_; first | exact ⟨1, rfl⟩ | exact ⟨2, rfl⟩ | exact ⟨3, rfl⟩ | exact ⟨4, rfl⟩ | exact ⟨5, rfl⟩ | exact ⟨6, rfl⟩ | exact ⟨7, rfl⟩ | exact ⟨8, rfl⟩ | exact ⟨9, rfl⟩ | exact ⟨10, rfl⟩ | exact ⟨11, rfl⟩ | exact ⟨12, rfl⟩ | exact ⟨13, rfl⟩ | exact ⟨14, rfl⟩ | exact ⟨15, rfl⟩) | (repeat (first | with_reducible exact (‹∀ qₓ ∈ tf _, qₓ ∈ _›) qₓ hqₓ | with_reducible apply List.mem_cons_of_mem)))); (case oₓ => assumption); (case hlₓ => assumption)); intro h'ₓ tk'ₓ F'ₓ N'ₓ; (try k_sweep))
  k_with "call ref" => (k_here; (with_reducible show wpAny _ _ (call (Value.ref 46) _) _ _ _); k_dflt (refine' to_AL rfl ?dₓ ?uₓ (anyfl_at ?Fₓ ?Nₓ ?Xₓ ?Tₓ ?hLₓ ?hzₓ ?oₓ ?hlₓ ?_); (case dₓ => exact Nat.le_of_ble_eq_true rfl); (case uₓ => exact Nat.le_of_ble_eq_true rfl); (case Fₓ => k_asm); (case Nₓ => k_asm); (case Xₓ => k_asm); (case Tₓ => k_asm); (case hLₓ => k_mem); (case hzₓ => (intro qₓ hqₓ; first | (refine mem_in ((‹∀ qₓ ∈ tf _, qₓ ∈ _›) qₓ hqₓ) ?_; first | exact ⟨1, rfl⟩ | exact ⟨2, rfl⟩ | exact ⟨3, rfl⟩ | exact ⟨4, rfl⟩ | exact ⟨5, rfl⟩ | exact ⟨6, rfl⟩ | exact ⟨7, rfl⟩ | exact ⟨8, rfl⟩ | exact ⟨9, rfl⟩ | exact ⟨10, rfl⟩ | exact ⟨11, rfl⟩ | exact ⟨12, rfl⟩ | exact ⟨13, rfl⟩ | exact ⟨14, rfl⟩ | exact ⟨15, rfl⟩) | (repeat (first | with_reducible exact (‹∀ qₓ ∈ tf _, qₓ ∈ _›) qₓ hqₓ | with_reducible apply List.mem_cons_of_mem)))); (case oₓ => assumption); (case hlₓ => assumption)); intro h'ₓ tk'ₓ F'ₓ N'ₓ; (try k_sweep))
  k_with "k_lt_off" => skip
  k_with "k_ne" => (first | assumption | (apply Ne.symm; assumption) | exact ne_new (by assumption) (by k_mem) | exact Ne.symm (ne_new (by assumption) (by k_mem)))
  k_with "k_all" => first | assumption | (refine all_new (by assumption) ?_; intro qₓ hqₓ; repeat (first | with_reducible exact hqₓ | with_reducible apply List.mem_cons_of_mem))
  k_with "newTuple" => (k_here; k_dflt (refine' kup_newTuple ?Fₓ ?Nₓ ?_ ?zₓ; (case Fₓ => k_asm); (case Nₓ => k_asm); (case zₓ => kmk_size)); intro D'ₓ h'ₓ F'ₓ N'ₓ l1ₓ; (try k_sweep))
  k_with "getMethod ref" => (k_here; (with_reducible show wpAny _ _ (getMethod (Value.ref _) (Str.ofString "values") _) _ _ _); k_dflt (refine' kdl_method (knd := PySem.intKind _ _) PySem.F.slot_dict_values PySem.F.type_dict_values ?Nₓ ?pₓ ?dₓ ?_; (case Nₓ => k_asm); (case pₓ => k_mem); (case dₓ => assumption)))
  k_with "call builtin:dict.values" => (k_here; k_dflt (refine' kdl_view_values (knd := PySem.intKind _ _) ?Fₓ ?Nₓ ?pₓ ?dₓ ?lₓ ?_; (case Fₓ => k_asm); (case Nₓ => k_asm); (case pₓ => k_mem); (case dₓ => assumption); (case lₓ => assumption)); intro D'ₓ h'ₓ F'ₓ N'ₓ l1ₓ)
  k_with "call builtin:sum" => (k_here; k_dflt (refine' LCg.sum_ints ?Fₓ ?Nₓ rfl ?lₓ ?iₓ ?_; (case Fₓ => k_asm); (case Nₓ => k_asm); (case lₓ => exact ⟨_, ((by k_asm : News _ _ _ _) _ (.head _)).1, rfl, _, rfl⟩); (case iₓ => assumption)); intro h'ₓ tk'ₓ t'ₓ F'ₓ N'ₓ)
  k_with "call builtin:len" => (k_here; k_dflt (refine' lenL ?Nₓ ?aₓ ?zₓ ?_; (case Nₓ => k_asm); (case aₓ => exact .head _); (case zₓ => omega)))
  k_with "eval ListComp" => (refine Halt.out ?_)
  k_with "pyIter_ref" => (refine Halt.out ?_)
  trivial
theorem ints_map {α : Type} {f : α → Int} {g : α → Tok} {l : List α} : IntsAre (l.map fun a => Value.int (f a) (g a)) (l.map f) := by
  induction l with
  | nil => exact .nil
  | cons a l ih => exact .cons _ _ ih
theorem pos_any {α : Type} {f : α → Bool} {l : List α} : decide ((0 : Int) < (((l.filter f).length : Nat) : Int)) = l.any f := by
  induction l with
  | nil => rfl
  | cons a l ih =>
    cases h : f a
    · simp only [List.filter_cons, h, List.any_cons, Bool.false_or, if_false, Bool.false_eq_true]; exact ih
    · simp only [List.filter_cons, h, List.any_cons, Bool.true_or, if_true, List.length_cons]
      exact decide_eq_true (by omega)
theorem octs_at {X XD SD : Addr} {oSD : Obj} {os : List OZ} {kx : Nat → Tok} {vName vNext vLA vAK vLET vLT vRec vLS vLTm vFU vUn vWN vHN vECN vGone : Value}
    (F : Fr h₀ L s.heap m) (N : News h₀ L s.heap news) (X₀ : (heap w.params).In h₀) (T : Top p loose mean mg mb h₀)
    (hX : (X, instObj 220 XD) ∈ news) (hXD : (XD, xdO w kx vName vNext (.ref SD) vLA vAK vLET vLT vRec vLS vLTm vFU vUn vWN vHN vECN vGone) ∈ news) (hSD : (SD, oSD) ∈ news) (hd : oSD.IsDictOf (intKind prog w) (sentK os)) (lo : (SD == sysModules) = false)
    (hp : ∀ q ∈ pz os, q ∈ news) (hq : ∀ q ∈ qz w os, q ∈ news) (hol : os.length ≤ 1000)
    (h : ∀ h' tk' t, Fr h₀ L h' m → News h₀ L h' news → Q (.int ((os.filter fun o => o.ct).map fun o => o.sz).sum t) { s with heap := h', toks := tk' }) :
    wpAny (model prog w) (AL 350) (call (.ref 203) [.ref X]) Q (fun _ _ => False) s := by
  refine enter (binds := [(Str.ofString "self", .ref X)]) (W := news) F N X₀ T (fun _ h => h) (by k_dflt k_is) (by k_dflt k_is) (by decide) (BindsTo.of_eq rfl) (locs rfl) ?_ rfl rfl rfl (by decide)
  intro g L' h₁ tk hg F' N' X' T'
  have fin : ∀ h' tk' m' t, Fr g L' h' m' → News g L' h' news → Q (.int ((os.filter fun o => o.ct).map fun o => o.sz).sum t) { s with heap := h', toks := tk' } := fun h' tk' m' t F' N' => h h' tk' t (backF F N (fun _ h => h) hg F') (backN F N (fun _ h => h) hg N')
  clear h N X₀ T F hg
  (try dsimp only)
  k_unmd
  k_fold
  k_steps
  refine Halt.mk (comp_T (h₀ := g) (L := L') (m := fun y => [(Str.ofString "self", Value.ref X)].reverse.lookup y) (cl := []) (x := Str.ofString "packet") rfl (by decide) rfl (by decide) rfl ?_)
  k_steps
  rename News g L' _ _ => N₂
  rename Fr g L' _ _ => F₂
  refine Halt.mk (compT_values rfl F₂ N₂ (.head _) (.tail _ hSD) hd (by rw [sentK, List.length_map, sizeLine_eq]; omega) ?_)
  intro s₂ hs₂
  obtain ⟨g', rfl⟩ := hs₂
  refine invT (fun i ys nw => nw = _ ∧ ys = ((os.take i).filter fun o => o.ct).map fun o => Value.int o.sz (o.k 8)) ⟨rfl, rfl⟩ ?turn ?done
  case turn =>
    intro i ys nw v I oI C oC D m₂ h tk E' hi hJ hv hC hx F₃ N₃ off ne
    obtain ⟨rfl, rfl⟩ := hJ
    obtain ⟨key, hv⟩ := hv
    obtain ⟨o, ho, hov⟩ := Option.map_eq_some_iff.mp (by rw [sentK, List.getElem?_map] at hv; exact hv)
    cases hov
    have hpo := hp _ (pz_mem (List.mem_of_getElem? ho))
    have hqo := hq _ (qz_mem (w := w) (List.mem_of_getElem? ho))
    clear fin N₂ F₂
    k_unmd
    k_fold
    k_steps
    · refine ⟨LCg.CompEnd.intro (by assumption) (by assumption) _ (fun _ h => h) off (.tail _ hSD) ⟨rfl, ?_⟩⟩
      rw [← take_filter (f := fun o : OZ => o.ct) ho (by assumption), List.map_append]; rfl
    · refine ⟨LCg.CompEnd.intro (by assumption) (by assumption) _ (fun _ h => h) off (.tail _ hSD) ⟨rfl, ?_⟩⟩
      rw [← take_filter0 (f := fun o : OZ => o.ct) ho (by assumption)]
  case done =>
    intro ys nw hJ
    obtain ⟨rfl, rfl⟩ := hJ
    rw [show (sentK os).length = os.length by simp [sentK], List.take_length]
    intro D h' tk' F₃ N₃ o1
    have hI : IntsAre ((os.filter fun o => o.ct).map fun o => Value.int o.sz (o.k 8)) ((os.filter fun o => o.ct).map fun o => o.sz) := ints_map
    clear N₂ F₂
    k_unmd
    try k_fold
    k_steps
    exact fin _ _ _ _ (by assumption) (newsSub (by assumption) fun q hq => .tail _ (.tail _ hq))
theorem elic_at {X XD SD : Addr} {oSD : Obj} {os : List OZ} {kx : Nat → Tok} {vName vNext vLA vAK vLET vLT vRec vLS vLTm vFU vUn vWN vHN vECN vGone : Value}
    (F : Fr h₀ L s.heap m) (N : News h₀ L s.heap news) (X₀ : (heap w.params).In h₀) (T : Top p loose mean mg mb h₀)
    (hX : (X, instObj 220 XD) ∈ news) (hXD : (XD, xdO w kx vName vNext (.ref SD) vLA vAK vLET vLT vRec vLS vLTm vFU vUn vWN vHN vECN vGone) ∈ news) (hSD : (SD, oSD) ∈ news) (hd : oSD.IsDictOf (intKind prog w) (sentK os)) (lo : (SD == sysModules) = false)
    (hp : ∀ q ∈ pz os, q ∈ news) (hq : ∀ q ∈ qz w os, q ∈ news) (hol : os.length ≤ 1000)
    (h : ∀ h' tk', Fr h₀ L h' m → News h₀ L h' news → Q (.bool (os.any fun o => o.ak)) { s with heap := h', toks := tk' }) :
    wpAny (model prog w) (AL 350) (call (.ref 198) [.ref X]) Q (fun _ _ => False) s := by
  refine enter (binds := [(Str.ofString "self", .ref X)]) (W := news) F N X₀ T (fun _ h => h) (by k_dflt k_is) (by k_dflt k_is) (by decide) (BindsTo.of_eq rfl) (locs rfl) ?_ rfl rfl rfl (by decide)
  intro g L' h₁ tk hg F' N' X' T'
  have fin : ∀ h' tk' m' b, b = (os.any fun o => o.ak) → Fr g L' h' m' → News g L' h' news → Q (.bool b) { s with heap := h', toks := tk' } := fun h' tk' m' b e F' N' => e ▸ h h' tk' (backF F N (fun _ h => h) hg F') (backN F N (fun _ h => h) hg N')
  clear h N X₀ T F hg
  (try dsimp only)
  k_unmd
  k_fold
  k_steps
  refine Halt.mk (comp_T (h₀ := g) (L := L') (m := fun y => [(Str.ofString "self", Value.ref X)].reverse.lookup y) (cl := []) (x := Str.ofString "packet") rfl (by decide) rfl (by decide) rfl ?_)
  k_steps
  rename News g L' _ _ => N₂
  rename Fr g L' _ _ => F₂
  refine Halt.mk (compT_values rfl F₂ N₂ (.head _) (.tail _ hSD) hd (by rw [sentK, List.length_map, sizeLine_eq]; omega) ?_)
  intro s₂ hs₂
  obtain ⟨g', rfl⟩ := hs₂
  refine invT (fun i ys nw => nw = _ ∧ ys.length = ((os.take i).filter fun o => o.ak).length) ⟨rfl, rfl⟩ ?turn ?done
  case turn =>
    intro i ys nw v I oI C oC D m₂ h tk E' hi hJ hv hC hx F₃ N₃ off ne
    obtain ⟨rfl, hyl⟩ := hJ
    obtain ⟨key, hv⟩ := hv
    obtain ⟨o, ho, hov⟩ := Option.map_eq_some_iff.mp (by rw [sentK, List.getElem?_map] at hv; exact hv)
    cases hov
    have hpo := hp _ (pz_mem (List.mem_of_getElem? ho))
    have hqo := hq _ (qz_mem (w := w) (List.mem_of_getElem? ho))
    clear fin N₂ F₂
    k_unmd
    k_fold
    k_steps
    · refine ⟨LCg.CompEnd.intro (by assumption) (by assumption) _ (fun _ h => h) off (.tail _ hSD) ⟨rfl, ?_⟩⟩
      rw [← take_filter (f := fun o : OZ => o.ak) ho (by assumption), List.length_append, List.length_append, hyl]; rfl
    · refine ⟨LCg.CompEnd.intro (by assumption) (by assumption) _ (fun _ h => h) off (.tail _ hSD) ⟨rfl, ?_⟩⟩
      rw [← take_filter0 (f := fun o : OZ => o.ak) ho (by assumption)]; exact hyl
  case done =>
    intro ys nw hJ
    obtain ⟨rfl, hyl⟩ := hJ
    rw [show (sentK os).length = os.length by simp [sentK], List.take_length] at hyl
    have hyz : ys.length ≤ 1000 := by rw [hyl]; exact Nat.le_trans (List.length_filter_le _ _) hol
    intro D h' tk' F₃ N₃ o1
    clear N₂ F₂
    k_unmd
    try k_fold
    k_steps
    exact fin _ _ _ _ (by rw [hyl]; exact pos_any) (by assumption) (newsSub (by assumption) fun q hq => .tail _ (.tail _ hq))
end

-- needs: newly octs
section
variable {prog : Program} {w : World} {A : Around} {E : Value → Shared → Prop} {s : Shared} {h₀ : Heap} {L : Addr} {m mg mb : Str → Option Value}
  {p : Program} {loose : List Str} {mean : ExcName → Option Value} {Q : Value → Shared → Prop} {news : List (Addr × Obj)}
theorem list_keys {d : Addr} {od : Obj} {kvs : List (Int × Value)} (hh : A.handled = none) (F : Fr h₀ L s.heap m) (N : News h₀ L s.heap news) (hm : (d, od) ∈ news) (hd : od.IsDictOf (intKind prog w) kvs) (lo : (d == sysModules) = false) (hz : kvs.length ≤ 1000)
    (h : ∀ D c h' tk vs, Fr h₀ L h' m → News h₀ L h' ((D, listOf vs.toArray c) :: news) → (∀ q ∈ news, q.1 < D) → IntsAre vs (kvs.map (·.1)) → Q (.ref D) { s with heap := h', toks := tk }) :
    wpAny (model prog w) A (call (.type "list") [.ref d]) Q E s := by
  obtain ⟨ep, ha⟩ := KdkAt.of hd
  refine kdl_N (kdl_dict (knd := intKind prog w) (kvs := kvs) (ep := ep) lo) hh F N (ha.dictAt (N _ hm).1) (by rw [sizeLine_eq]; omega) fun D c h' tk vs F' N' l1 hl hv => h D c h' tk vs F' N' l1 ?_
  clear N' F' l1 ha hm N F h hd hz
  induction kvs generalizing vs with
  | nil => cases vs with
    | nil => exact .nil
    | cons _ _ => cases hl
  | cons p r ih =>
    cases vs with
    | nil => cases hl
    | cons v vs =>
      obtain ⟨k, x, hx, hk⟩ := hv 0 v rfl
      cases hx
      obtain ⟨t, rfl⟩ := Value.isInt_shape hk
      exact .cons k t (ih vs (by simpa using hl) fun j u hu => hv (j + 1) u hu)
theorem words_ackby_1 : True := by
  k_with_none
  k_with "k_enter" => (refine' code_defM ?k1ₓ ?k2ₓ ?k3ₓ ?k5ₓ ?k6ₓ ?k7ₓ ?k8ₓ ?k9ₓ ?kBₓ ?_ ?c2ₓ ?c3ₓ ?c4ₓ ?c5ₓ; (case k1ₓ => k_asm); (case k2ₓ => k_asm); (case k3ₓ => k_asm); (case k5ₓ => k_asm); (case k6ₓ => k_is); (case k7ₓ => k_is); (case k8ₓ => exact Nat.le_of_ble_eq_true rfl); (case k9ₓ => exact rfl); (case c5ₓ => decide); (case kBₓ => exact locs rfl); (case c2ₓ => exact rfl); (case c3ₓ => exact rfl); (case c4ₓ => exact rfl); k_whole; intro g'ₓ L'ₓ h'ₓ FG'ₓ F'ₓ N'ₓ X'ₓ T'ₓ; (try dsimp only [List.map, List.zip, List.zipWith] at F'ₓ); (try dsimp only); (try k_fold))
  k_with "k_mem" => first | with_reducible assumption | with_reducible exact List.mem_cons_self | (with_reducible apply List.mem_cons_of_mem; k_mem)
  k_with "k_all" => first | assumption | exact allLt_off (by assumption)
  k_with "size_fits" => first | assumption | (simp only [Array.size_push, List.size_toArray, List.length_append, List.length_cons, List.length_nil, vz_length, PySem.sizeLine_eq]; omega)
  k_with "binaryOp Add ref ref" => (k_here; (with_reducible show wpAny _ _ (binaryOp _ (Value.ref _) (Value.ref _)) _ _ _); k_dflt (refine' addL ?Fₓ ?Nₓ ?aₓ ?bₓ ?zₓ ?_; (case Fₓ => k_asm); (case Nₓ => k_asm); (case aₓ => k_mem); (case bₓ => k_mem); (case zₓ => (simp only [List.length_cons, List.length_nil, vz_length, sizeLine_eq]; omega))); intro D'ₓ h'ₓ F'ₓ N'ₓ l1ₓ; (try k_lt l1ₓ); (try k_sweep))
  k_with "k_sub" => ((try simp only [List.cons_append, List.nil_append]); (repeat ((with_reducible refine List.forall_mem_cons.mpr ⟨?_, ?_⟩); (next => (first | ((repeat (first | with_reducible exact List.mem_cons_self | with_reducible apply List.mem_cons_of_mem)); done) | (repeat (first | exact List.mem_cons_self | apply List.mem_cons_of_mem)))))); intro qₓ hqₓ; first | with_reducible exact absurd hqₓ List.not_mem_nil | (repeat (first | with_reducible exact hqₓ | with_reducible exact List.mem_append_left _ hqₓ | with_reducible exact List.mem_append_right _ hqₓ | with_reducible apply List.mem_cons_of_mem)))
  k_with "SrcLP" => (k_here; k_dflt (refine LCp.SrcLP.ledger (by rfl) (by k_asm) (by k_asm) (by k_mem) (by size_fits) ?_); intro g'ₓ; refine Halt.out ?_)
  k_with "CompSrc" => (k_here; k_dflt (refine LCg.CompSrc.ledger (by rfl) (by k_asm) (by k_asm) (by k_mem) (by size_fits) ?_); intro g'ₓ; refine Halt.out ?_)
  k_with "CompSrcT" => (k_here; k_dflt (refine LCt.CompSrcT.ledger (by rfl) (by k_asm) (by k_asm) (by k_mem) (by size_fits) ?_); intro g'ₓ; refine Halt.out ?_)
  k_with "CompEnd" => (refine Halt.out ?_)
  k_with "lsm_bools" => assumption
  k_with "eval Name" => (k_here; k_dflt (refine' nameX_L ?Fₓ ?vₓ ?_ ?aₓ ?bₓ; (case Fₓ => k_asm); (case aₓ => rfl); (case bₓ => rfl); (case vₓ => first | exact rfl | assumption); k_whole))
  k_with "eval Name" => (k_here; (with_reducible show wpAny _ _ (eval (Expr.Name _ _) (envOf _ _ _ _ _)) _ _ _); k_dflt (refine' ld ?k1ₓ ?k2ₓ ?_; (case k1ₓ => k_asm); (case k2ₓ => first | exact rfl | assumption); k_whole))
  k_with "k_ne" => (first | assumption | (apply Ne.symm; assumption) | exact Nat.ne_of_lt (by assumption) | exact Nat.ne_of_gt (by assumption))
  k_with "call builtin:len" => (k_here; (with_reducible show wpAny _ _ (call (Value.builtin "len") [Value.ref _]) _ _ _); k_dflt (refine' lenL ?Nₓ ?aₓ ?zₓ ?_; (case Nₓ => k_asm); (case aₓ => k_mem); (case zₓ => (simp only [vz_length]; omega))); (try simp only [vz_length]))
  k_with "setItem ref int" => (k_here; k_dflt (refine' kda_set (knd := PySem.intKind _ _) ?Fₓ ?Nₓ ?Uₓ ?dₓ (intKind_is _ _ _ _) ?zₓ ?_; (case Fₓ => k_asm); (case Nₓ => k_asm); (case Uₓ => k_updF); (case dₓ => assumption); (case zₓ => assumption)); intro h'ₓ o'ₓ F'ₓ N'ₓ hd'ₓ; (try k_sweep))
  k_with "call ref" => (k_here; (with_reducible show wpAny _ _ (call (Value.ref 238) _) _ _ _); k_dflt (refine' to_AL rfl ?dₓ ?uₓ (draw_at ?Fₓ ?Nₓ ?Xₓ ?Tₓ ?Uₓ ?oₓ ?hPₓ ?hSₓ ?hiₓ ?hlₓ ?psₓ ?hmₓ ?_); (case dₓ => exact Nat.le_of_ble_eq_true rfl); (case uₓ => exact Nat.le_of_ble_eq_true rfl); (case Fₓ => k_asm); (case Nₓ => k_asm); (case Xₓ => k_asm); (case Tₓ => k_asm); (case Uₓ => k_updF); (case oₓ => assumption); (case hPₓ => k_mem); (case hSₓ => k_mem); (case hiₓ => assumption); (case hlₓ => assumption); (case psₓ => k_ne); (case hmₓ => first | decide | assumption)); intro v'ₓ t'ₓ o'ₓ h'ₓ tk'ₓ hv0'ₓ hv1'ₓ oP'ₓ F'ₓ N'ₓ; (try dsimp only at N'ₓ); (try k_sweep))
  k_with "call ref" => (k_here; (with_reducible show wpAny _ _ (call (Value.ref 53) _) _ _ _); k_dflt (refine' to_AL rfl ?dₓ ?uₓ (add_at ?Fₓ ?Nₓ ?Xₓ ?Tₓ ?hLₓ ?hzₓ ?hlenₓ ?_); (case dₓ => exact Nat.le_of_ble_eq_true rfl); (case uₓ => exact Nat.le_of_ble_eq_true rfl); (case Fₓ => k_asm); (case Nₓ => k_asm); (case Xₓ => k_asm); (case Tₓ => k_asm); (case hLₓ => k_mem); (case hzₓ => k_sub); (case hlenₓ => first | assumption | omega)); intro RL' z' rs' k' h' tk' F' N' n1' n2' n3' er' es' el'; (repeat (replace n1' := List.forall_mem_cons.mp n1'; (have hn' := And.left n1'); replace n1' := And.right n1'; try dsimp only at hn')); (repeat (replace n2' := List.forall_mem_cons.mp n2'; (have hn' := And.left n2'); replace n2' := And.right n2'; try dsimp only at hn')); (try dsimp only at n3'); (try k_sweep))
  k_with "call ref" => (k_here; (with_reducible show wpAny _ _ (call (Value.ref 58) _) _ _ _); k_dflt (refine' to_AL rfl ?dₓ ?uₓ (has_at ?Fₓ ?Nₓ ?Xₓ ?Tₓ ?hLₓ ?hzₓ ?hlenₓ ?_); (case dₓ => exact Nat.le_of_ble_eq_true rfl); (case uₓ => exact Nat.le_of_ble_eq_true rfl); (case Fₓ => k_asm); (case Nₓ => k_asm); (case Xₓ => k_asm); (case Tₓ => k_asm); (case hLₓ => k_mem); (case hzₓ => k_sub); (case hlenₓ => first | assumption | omega)); intro h'ₓ tk'ₓ F'ₓ N'ₓ; (try k_sweep))
  k_with "call ref" => (k_here; (with_reducible show wpAny _ _ (call (Value.ref 41) _) _ _ _); k_dflt (refine' to_AL rfl ?dₓ ?uₓ (anyel_at ?Fₓ ?Nₓ ?Xₓ ?Tₓ ?hLₓ ?hzₓ ?oₓ ?hlₓ ?_); (case dₓ => exact Nat.le_of_ble_eq_true rfl); (case uₓ => exact Nat.le_of_ble_eq_true rfl); (case Fₓ => k_asm); (case Nₓ => k_asm); (case Xₓ => k_asm); (case Tₓ => k_asm); (case hLₓ => k_mem); (case hzₓ => (intro qₓ hqₓ; first | (refine mem_in ((‹∀ qₓ ∈ tf _, qₓ ∈ _›) qₓ hqₓ) ?_; first | exact ⟨1, rfl⟩ | exact ⟨2, rfl⟩ | exact ⟨3, rfl⟩ | exact ⟨4, rfl⟩ | exact ⟨5, rfl⟩ | exact ⟨6, rfl⟩ | exact ⟨7, rfl⟩ | exact ⟨8, rfl⟩ | exact ⟨9, rfl⟩ | exact ⟨10, rfl⟩ | exact ⟨11, rfl⟩ | exact ⟨12, rfl⟩ | exact ⟨13, rfl⟩ | exact ⟨14, rfl⟩ | exact ⟨15, rfl⟩) | (repeat (first | with_reducible exact (‹∀ qₓ ∈ tf _, qₓ ∈ _›) qₓ hqₓ | with_reducible apply List.mem_cons_of_mem)))); (case oₓ => assumption); (case hlₓ => assumption)); intro h'ₓ tk'ₓ F'ₓ N'ₓ; (try k_sweep))
  k_with "call ref" => (k_here; (with_reducible show wpAny _ _ (call (Value.ref 46) _) _ _ _); k_dflt (refine' to_AL rfl ?dₓ ?uₓ (anyfl_at ?Fₓ ?Nₓ ?Xₓ ?Tₓ ?hLₓ ?hzₓ ?oₓ ?hlₓ ?_); (case dₓ => exact Nat.le_of_ble_eq_true rfl); (case uₓ => exact Nat.le_of_ble_eq_true rfl); (case Fₓ => k_asm); (case Nₓ => k_asm); (case Xₓ => k_asm); (case Tₓ => k_asm); (case hLₓ => k_mem); (case hzₓ => (intro qₓ hqₓ; first | (refine mem_in ((‹∀ qₓ ∈ tf _, qₓ ∈ _›) qₓ hqₓ) ?_; first | exact ⟨1, rfl⟩ | exact ⟨2, rfl⟩ | exact ⟨3, rfl⟩ | exact ⟨4, rfl⟩ | exact ⟨5, rfl⟩ | exact ⟨6, rfl⟩ | exact ⟨7, rfl⟩ | exact ⟨8, rfl⟩ | exact ⟨9, rfl⟩ | exact ⟨10, rfl⟩ | exact ⟨11, rfl⟩ | exact ⟨12, rfl⟩ | exact ⟨13, rfl⟩ | exact ⟨14, rfl⟩ | exact ⟨15, rfl⟩) | (repeat (first | with_reducible exact (‹∀ qₓ ∈ tf _, qₓ ∈ _›) qₓ hqₓ | with_reducible apply List.mem_cons_of_mem)))); (case oₓ => assumption); (case hlₓ => assumption)); intro h'ₓ tk'ₓ F'ₓ N'ₓ; (try k_sweep))
  k_with "call ref" => (k_here; (with_reducible show wpAny _ _ (call (Value.ref 203) _) _ _ _); k_dflt (refine' to_AL rfl ?dₓ ?uₓ (octs_at ?Fₓ ?Nₓ ?Xₓ ?Tₓ ?h1ₓ ?h2ₓ ?h3ₓ ?h4ₓ ?h5ₓ ?h6ₓ ?h7ₓ ?h8ₓ ?_); (case dₓ => exact Nat.le_of_ble_eq_true rfl); (case uₓ => exact Nat.le_of_ble_eq_true rfl); (case Fₓ => k_asm); (case Nₓ => k_asm); (case Xₓ => k_asm); (case Tₓ => k_asm); (case h1ₓ => k_mem); (case h2ₓ => k_mem); (case h3ₓ => k_mem); (case h4ₓ => assumption); (case h5ₓ => assumption); (case h6ₓ => first | assumption | exact fun q hq => .tail _ ((‹∀ q ∈ pz _, q ∈ _›) q hq) | exact fun q hq => .tail _ (.tail _ ((‹∀ q ∈ pz _, q ∈ _›) q hq))); (case h7ₓ => first | assumption | exact fun q hq => .tail _ ((‹∀ q ∈ qz _ _, q ∈ _›) q hq) | exact fun q hq => .tail _ (.tail _ ((‹∀ q ∈ qz _ _, q ∈ _›) q hq))); (case h8ₓ => assumption)); intro h'ₓ tk'ₓ t'ₓ F'ₓ N'ₓ)
  k_with "call ref" => (k_here; (with_reducible show wpAny _ _ (call (Value.ref 198) _) _ _ _); k_dflt (refine' to_AL rfl ?dₓ ?uₓ (elic_at ?Fₓ ?Nₓ ?Xₓ ?Tₓ ?h1ₓ ?h2ₓ ?h3ₓ ?h4ₓ ?h5ₓ ?h6ₓ ?h7ₓ ?h8ₓ ?_); (case dₓ => exact Nat.le_of_ble_eq_true rfl); (case uₓ => exact Nat.le_of_ble_eq_true rfl); (case Fₓ => k_asm); (case Nₓ => k_asm); (case Xₓ => k_asm); (case Tₓ => k_asm); (case h1ₓ => k_mem); (case h2ₓ => k_mem); (case h3ₓ => k_mem); (case h4ₓ => assumption); (case h5ₓ => assumption); (case h6ₓ => first | assumption | exact fun q hq => .tail _ ((‹∀ q ∈ pz _, q ∈ _›) q hq) | exact fun q hq => .tail _ (.tail _ ((‹∀ q ∈ pz _, q ∈ _›) q hq))); (case h7ₓ => first | assumption | exact fun q hq => .tail _ ((‹∀ q ∈ qz _ _, q ∈ _›) q hq) | exact fun q hq => .tail _ (.tail _ ((‹∀ q ∈ qz _ _, q ∈ _›) q hq))); (case h8ₓ => assumption)); intro h'ₓ tk'ₓ F'ₓ N'ₓ)
  k_with "k_lt_off" => skip
  k_with "k_ne" => (first | assumption | (apply Ne.symm; assumption) | exact ne_new (by assumption) (by k_mem) | exact Ne.symm (ne_new (by assumption) (by k_mem)))
  k_with "k_all" => first | assumption | (refine all_new (by assumption) ?_; intro qₓ hqₓ; repeat (first | with_reducible exact hqₓ | with_reducible apply List.mem_cons_of_mem))
  k_with "newTuple" => (k_here; k_dflt (refine' kup_newTuple ?Fₓ ?Nₓ ?_ ?zₓ; (case Fₓ => k_asm); (case Nₓ => k_asm); (case zₓ => kmk_size)); intro D'ₓ h'ₓ F'ₓ N'ₓ l1ₓ; (try k_sweep))
  k_with "call type:list" => (k_here; k_dflt (refine' list_keys rfl ?Fₓ ?Nₓ ?mₓ ?dₓ ?lₓ ?zₓ ?_; (case Fₓ => k_asm); (case Nₓ => k_asm); (case mₓ => k_mem); (case dₓ => assumption); (case lₓ => assumption); (case zₓ => assumption)); intro D'ₓ c'ₓ h'ₓ tk'ₓ vs'ₓ F'ₓ N'ₓ l1ₓ hi'ₓ; (try k_sweep))
  k_with "call ref" => ((with_reducible show wpAny _ _ (call (Value.ref 70) _) _ _ _); refine Halt.out ?_)
  trivial
theorem ackby_at {X XD SD RL : Addr} {oSD : Obj} {os : List OZ} {kx : Nat → Tok} {zs : List RZ} {kR : Nat} {vName vNext vLA vAK vLET vLT vRec vLS vLTm vFU vUn vWN vHN vECN vGone : Value}
    (F : Fr h₀ L s.heap m) (N : News h₀ L s.heap news) (X₀ : (heap w.params).In h₀) (T : Top p loose mean mg mb h₀)
    (hX : (X, instObj 220 XD) ∈ news) (hXD : (XD, xdO w kx vName vNext (.ref SD) vLA vAK vLET vLT vRec vLS vLTm vFU vUn vWN vHN vECN vGone) ∈ news) (hSD : (SD, oSD) ∈ news) (hd : oSD.IsDictOf (intKind prog w) (sentK os)) (lo : (SD == sysModules) = false)
    (hL : (RL, listOf (vz zs).toArray kR) ∈ news) (hz : ∀ q ∈ tz zs, q ∈ news) (hlen : zs.length ≤ 1000) (hol : os.length < 64)
    (h : ∀ D vs' ms c h' tk', IntsAre vs' ms → ms.Perm ((os.map fun o => o.n).filter (hasR (rz zs))) → ms.Pairwise (· ≤ ·) → Fr h₀ L h' m → News h₀ L h' ((D, listOf vs'.toArray c) :: news) → (∀ q ∈ news, @Ne Nat q.1 D) → Q (.ref D) { s with heap := h', toks := tk' }) :
    wpAny (model prog w) (AL 340) (call (.ref 172) [.ref X, .ref RL]) Q (fun _ _ => False) s := by
  refine enter (binds := [(Str.ofString "self", .ref X), (Str.ofString "ranges", .ref RL)]) (W := news) F N X₀ T (fun _ h => h) (by k_dflt k_is) (by k_dflt k_is) (by decide) (BindsTo.of_eq rfl) (locs rfl) ?_ rfl rfl rfl (by decide)
  intro g L' h₁ tk hg F' N' X' T'
  have fin : ∀ D vs' ms c h' tk' m', IntsAre vs' ms → ms.Perm ((os.map fun o => o.n).filter (hasR (rz zs))) → ms.Pairwise (· ≤ ·) → Fr g L' h' m' → News g L' h' ((D, listOf vs'.toArray c) :: news) → (∀ q ∈ news, @Ne Nat q.1 D) → Q (.ref D) { s with heap := h', toks := tk' } :=
    fun D vs' ms c h' tk' m' a1 a2 a3 F' N' hn => h D vs' ms c h' tk' a1 a2 a3 (backF F N (fun _ h => h) hg F') (backN F N (fun _ h => h) hg N') hn
  clear h N X₀ T F hg
  have hkz : (sentK os).length ≤ 1000 := by rw [sentK, List.length_map]; omega
  (try dsimp only)
  k_unmd
  k_fold
  k_steps
  rename IntsAre _ _ => hI
  rename News g L' _ _ => N₂
  rename Fr g L' _ _ => F₂
  have e : (sentK os).map (·.1) = os.map fun o => o.n := by simp [sentK, Function.comp_def]
  rw [e] at hI
  refine Halt.mk (to_AL rfl (Nat.le_of_ble_eq_true rfl) (Nat.le_of_ble_eq_true rfl) (newly_at F₂ N₂ (by assumption) (by assumption) (.head _) hI (.tail _ hL) (fun q hq => .tail _ (hz q hq)) hlen (by rw [List.length_map]; exact hol) ?_))
  intro D vs' ms c h' tk' a1 a2 a3 F4 N4 hn
  clear F₂ N₂
  k_steps
  exact fin _ _ _ _ _ _ _ a1 a2 a3 (by assumption) (newsSub (by assumption) (List.forall_mem_cons.mpr ⟨.head _, fun q hq => .tail _ (.tail _ hq)⟩)) (fun q hq => hn q (.tail _ hq))
end

-- needs: octs sends
section
variable {prog : Program} {w : World} {A : Around} {E : Value → Shared → Prop} {s : Shared} {h₀ : Heap} {L : Addr} {m mg mb : Str → Option Value}
  {p : Program} {loose : List Str} {mean : ExcName → Option Value} {Q : Value → Shared → Prop} {news : List (Addr × Obj)}
theorem words_small_1 : True := by
  k_with_none
  k_with "k_enter" => (refine' code_defM ?k1ₓ ?k2ₓ ?k3ₓ ?k5ₓ ?k6ₓ ?k7ₓ ?k8ₓ ?k9ₓ ?kBₓ ?_ ?c2ₓ ?c3ₓ ?c4ₓ ?c5ₓ; (case k1ₓ => k_asm); (case k2ₓ => k_asm); (case k3ₓ => k_asm); (case k5ₓ => k_asm); (case k6ₓ => k_is); (case k7ₓ => k_is); (case k8ₓ => exact Nat.le_of_ble_eq_true rfl); (case k9ₓ => exact rfl); (case c5ₓ => decide); (case kBₓ => exact locs rfl); (case c2ₓ => exact rfl); (case c3ₓ => exact rfl); (case c4ₓ => exact rfl); k_whole; intro g'ₓ L'ₓ h'ₓ FG'ₓ F'ₓ N'ₓ X'ₓ T'ₓ; (try dsimp only [List.map, List.zip, List.zipWith] at F'ₓ); (try dsimp only); (try k_fold))
  k_with "k_mem" => first | with_reducible assumption | with_reducible exact List.mem_cons_self | (with_reducible apply List.mem_cons_of_mem; k_mem)
  k_with "k_all" => first | assumption | exact allLt_off (by assumption)
  k_with "size_fits" => first | assumption | (simp only [Array.size_push, List.size_toArray, List.length_append, List.length_cons, List.length_nil, vz_length, PySem.sizeLine_eq]; omega)
  k_with "binaryOp Add ref ref" => (k_here; (with_reducible show wpAny _ _ (binaryOp _ (Value.ref _) (Value.ref _)) _ _ _); k_dflt (refine' addL ?Fₓ ?Nₓ ?aₓ ?bₓ ?zₓ ?_; (case Fₓ => k_asm); (case Nₓ => k_asm); (case aₓ => k_mem); (case bₓ => k_mem); (case zₓ => (simp only [List.length_cons, List.length_nil, vz_length, sizeLine_eq]; omega))); intro D'ₓ h'ₓ F'ₓ N'ₓ l1ₓ; (try k_lt l1ₓ); (try k_sweep))
  k_with "k_sub" => ((try simp only [List.cons_append, List.nil_append]); (repeat ((with_reducible refine List.forall_mem_cons.mpr ⟨?_, ?_⟩); (next => (first | ((repeat (first | with_reducible exact List.mem_cons_self | with_reducible apply List.mem_cons_of_mem)); done) | (repeat (first | exact List.mem_cons_self | apply List.mem_cons_of_mem)))))); intro qₓ hqₓ; first | with_reducible exact absurd hqₓ List.not_mem_nil | (repeat (first | with_reducible exact hqₓ | with_reducible exact List.mem_append_left _ hqₓ | with_reducible exact List.mem_append_right _ hqₓ | with_reducible apply List.mem_cons_of_mem)))
  k_with "SrcLP" => (k_here; k_dflt (refine LCp.SrcLP.ledger (by rfl) (by k_asm) (by k_asm) (by k_mem) (by size_fits) ?_); intro g'ₓ; refine Halt.out ?_)
  k_with "CompSrc" => (k_here; k_dflt (refine LCg.CompSrc.ledger (by rfl) (by k_asm) (by k_asm) (by k_mem) (by size_fits) ?_); intro g'ₓ; refine Halt.out ?_)
  k_with "CompSrcT" => (k_here; k_dflt (refine LCt.CompSrcT.ledger (by rfl) (by k_asm) (by k_asm) (by k_mem) (by size_fits) ?_); intro g'ₓ; refine Halt.out ?_)
  k_with "CompEnd" => (refine Halt.out ?_)
  k_with "lsm_bools" => assumption
  k_with "eval Name" => (k_here; k_dflt (refine' nameX_L ?Fₓ ?vₓ ?_ ?aₓ ?bₓ; (case Fₓ => k_asm); (case aₓ => rfl); (case bₓ => rfl); (case vₓ => first | exact rfl | assumption); k_whole))
  k_with "eval Name" => (k_here; (with_reducible show wpAny _ _ (eval (Expr.Name _ _) (envOf _ _ _ _ _)) _ _ _); k_dflt (refine' ld ?k1ₓ ?k2ₓ ?_; (case k1ₓ => k_asm); (case k2ₓ => first | exact rfl | assumption); k_whole))
  k_with "k_ne" => (first | assumption | (apply Ne.symm; assumption) | exact Nat.ne_of_lt (by assumption) | exact Nat.ne_of_gt (by assumption))
  k_with "call builtin:len" => (k_here; (with_reducible show wpAny _ _ (call (Value.builtin "len") [Value.ref _]) _ _ _); k_dflt (refine' lenL ?Nₓ ?aₓ ?zₓ ?_; (case Nₓ => k_asm); (case aₓ => k_mem); (case zₓ => (simp only [vz_length]; omega))); (try simp only [vz_length]))
  k_with "setItem ref int" => (k_here; k_dflt (refine' kda_set (knd := PySem.intKind _ _) ?Fₓ ?Nₓ ?Uₓ ?dₓ (intKind_is _ _ _ _) ?zₓ ?_; (case Fₓ => k_asm); (case Nₓ => k_asm); (case Uₓ => k_updF); (case dₓ => assumption); (case zₓ => assumption)); intro h'ₓ o'ₓ F'ₓ N'ₓ hd'ₓ; (try k_sweep))
  k_with "call ref" => (k_here; (with_reducible show wpAny _ _ (call (Value.ref 238) _) _ _ _); k_dflt (refine' to_AL rfl ?dₓ ?uₓ (draw_at ?Fₓ ?Nₓ ?Xₓ ?Tₓ ?Uₓ ?oₓ ?hPₓ ?hSₓ ?hiₓ ?hlₓ ?psₓ ?hmₓ ?_); (case dₓ => exact Nat.le_of_ble_eq_true rfl); (case uₓ => exact Nat.le_of_ble_eq_true rfl); (case Fₓ => k_asm); (case Nₓ => k_asm); (case Xₓ => k_asm); (case Tₓ => k_asm); (case Uₓ => k_updF); (case oₓ => assumption); (case hPₓ => k_mem); (case hSₓ => k_mem); (case hiₓ => assumption); (case hlₓ => assumption); (case psₓ => k_ne); (case hmₓ => first | decide | assumption)); intro v'ₓ t'ₓ o'ₓ h'ₓ tk'ₓ hv0'ₓ hv1'ₓ oP'ₓ F'ₓ N'ₓ; (try dsimp only at N'ₓ); (try k_sweep))
  k_with "call ref" => (k_here; (with_reducible show wpAny _ _ (call (Value.ref 53) _) _ _ _); k_dflt (refine' to_AL rfl ?dₓ ?uₓ (add_at ?Fₓ ?Nₓ ?Xₓ ?Tₓ ?hLₓ ?hzₓ ?hlenₓ ?_); (case dₓ => exact Nat.le_of_ble_eq_true rfl); (case uₓ => exact Nat.le_of_ble_eq_true rfl); (case Fₓ => k_asm); (case Nₓ => k_asm); (case Xₓ => k_asm); (case Tₓ => k_asm); (case hLₓ => k_mem); (case hzₓ => k_sub); (case hlenₓ => first | assumption | omega)); intro RL' z' rs' k' h' tk' F' N' n1' n2' n3' er' es' el'; (repeat (replace n1' := List.forall_mem_cons.mp n1'; (have hn' := And.left n1'); replace n1' := And.right n1'; try dsimp only at hn')); (repeat (replace n2' := List.forall_mem_cons.mp n2'; (have hn' := And.left n2'); replace n2' := And.right n2'; try dsimp only at hn')); (try dsimp only at n3'); (try k_sweep))
  k_with "call ref" => (k_here; (with_reducible show wpAny _ _ (call (Value.ref 58) _) _ _ _); k_dflt (refine' to_AL rfl ?dₓ ?uₓ (has_at ?Fₓ ?Nₓ ?Xₓ ?Tₓ ?hLₓ ?hzₓ ?hlenₓ ?_); (case dₓ => exact Nat.le_of_ble_eq_true rfl); (case uₓ => exact Nat.le_of_ble_eq_true rfl); (case Fₓ => k_asm); (case Nₓ => k_asm); (case Xₓ => k_asm); (case Tₓ => k_asm); (case hLₓ => k_mem); (case hzₓ => k_sub); (case hlenₓ => first | assumption | omega)); intro h'ₓ tk'ₓ F'ₓ N'ₓ; (try k_sweep))
  k_with "call ref" => (k_here; (with_reducible show wpAny _ _ (call (Value.ref 41) _) _ _ _); k_dflt (refine' to_AL rfl ?dₓ ?uₓ (anyel_at ?Fₓ ?Nₓ ?Xₓ ?Tₓ ?hLₓ ?hzₓ ?oₓ ?hlₓ ?_); (case dₓ => exact Nat.le_of_ble_eq_true rfl); (case uₓ => exact Nat.le_of_ble_eq_true rfl); (case Fₓ => k_asm); (case Nₓ => k_asm); (case Xₓ => k_asm); (case Tₓ => k_asm); (case hLₓ => k_mem); (case hzₓ => (intro qₓ hqₓ; first | (refine mem_in ((‹∀ qₓ ∈ tf _, qₓ ∈ _›) qₓ hqₓ) ?_; first | exact ⟨1, rfl⟩ | exact ⟨2, rfl⟩ | exact ⟨3, rfl⟩ | exact ⟨4, rfl⟩ | exact ⟨5, rfl⟩ | exact ⟨6, rfl⟩ | exact ⟨7, rfl⟩ | exact ⟨8, rfl⟩ | exact ⟨9, rfl⟩ | exact ⟨10, rfl⟩ | exact ⟨11, rfl⟩ | exact ⟨12, rfl⟩ | exact ⟨13, rfl⟩ | exact ⟨14, rfl⟩ | exact ⟨15, rfl⟩) | (repeat (first | with_reducible exact (‹∀ qₓ ∈ tf _, qₓ ∈ _›) qₓ hqₓ | with_reducible apply List.mem_cons_of_mem)))); (case oₓ => assumption); (case hlₓ => assumption)); intro h'ₓ tk'ₓ F'ₓ N'ₓ; (try k_sweep))
  k_with "call ref" => (k_here; (with_reducible show wpAny _ _ (call (Value.ref 46) _) _ _ _); k_dflt (refine' to_AL rfl ?dₓ ?uₓ (anyfl_at ?Fₓ ?Nₓ ?Xₓ ?Tₓ ?hLₓ ?hzₓ ?oₓ ?hlₓ ?_); (case dₓ => exact Nat.le_of_ble_eq_true rfl); (case uₓ => exact Nat.le_of_ble_eq_true rfl); (case Fₓ => k_asm); (case Nₓ => k_asm); (case Xₓ => k_asm); (case Tₓ => k_asm); (case hLₓ => k_mem); (case hzₓ => (intro qₓ hqₓ; first | (refine mem_in ((‹∀ qₓ ∈ tf _, qₓ ∈ _›) qₓ hqₓ) ?_; first | exact ⟨1, rfl⟩ | exact ⟨2, rfl⟩ | exact ⟨3, rfl⟩ | exact ⟨4, rfl⟩ | exact ⟨5, rfl⟩ | exact ⟨6, rfl⟩ | exact ⟨7, rfl⟩ | exact ⟨8, rfl⟩ | exact ⟨9, rfl⟩ | exact ⟨10, rfl⟩ | exact ⟨11, rfl⟩ | exact ⟨12, rfl⟩ | exact ⟨13, rfl⟩ | exact ⟨14, rfl⟩ | exact ⟨15, rfl⟩) | (repeat (first | with_reducible exact (‹∀ qₓ ∈ tf _, qₓ ∈ _›) qₓ hqₓ | with_reducible apply List.mem_cons_of_mem)))); (case oₓ => assumption); (case hlₓ => assumption)); intro h'ₓ tk'ₓ F'ₓ N'ₓ; (try k_sweep))
  k_with "call ref" => (k_here; (with_reducible show wpAny _ _ (call (Value.ref 203) _) _ _ _); k_dflt (refine' to_AL rfl ?dₓ ?uₓ (octs_at ?Fₓ ?Nₓ ?Xₓ ?Tₓ ?h1ₓ ?h2ₓ ?h3ₓ ?h4ₓ ?h5ₓ ?h6ₓ ?h7ₓ ?h8ₓ ?_); (case dₓ => exact Nat.le_of_ble_eq_true rfl); (case uₓ => exact Nat.le_of_ble_eq_true rfl); (case Fₓ => k_asm); (case Nₓ => k_asm); (case Xₓ => k_asm); (case Tₓ => k_asm); (case h1ₓ => k_mem); (case h2ₓ => k_mem); (case h3ₓ => k_mem); (case h4ₓ => assumption); (case h5ₓ => assumption); (case h6ₓ => first | assumption | exact fun q hq => .tail _ ((‹∀ q ∈ pz _, q ∈ _›) q hq) | exact fun q hq => .tail _ (.tail _ ((‹∀ q ∈ pz _, q ∈ _›) q hq))); (case h7ₓ => first | assumption | exact fun q hq => .tail _ ((‹∀ q ∈ qz _ _, q ∈ _›) q hq) | exact fun q hq => .tail _ (.tail _ ((‹∀ q ∈ qz _ _, q ∈ _›) q hq))); (case h8ₓ => assumption)); intro h'ₓ tk'ₓ t'ₓ F'ₓ N'ₓ)
  k_with "call ref" => (k_here; (with_reducible show wpAny _ _ (call (Value.ref 198) _) _ _ _); k_dflt (refine' to_AL rfl ?dₓ ?uₓ (elic_at ?Fₓ ?Nₓ ?Xₓ ?Tₓ ?h1ₓ ?h2ₓ ?h3ₓ ?h4ₓ ?h5ₓ ?h6ₓ ?h7ₓ ?h8ₓ ?_); (case dₓ => exact Nat.le_of_ble_eq_true rfl); (case uₓ => exact Nat.le_of_ble_eq_true rfl); (case Fₓ => k_asm); (case Nₓ => k_asm); (case Xₓ => k_asm); (case Tₓ => k_asm); (case h1ₓ => k_mem); (case h2ₓ => k_mem); (case h3ₓ => k_mem); (case h4ₓ => assumption); (case h5ₓ => assumption); (case h6ₓ => first | assumption | exact fun q hq => .tail _ ((‹∀ q ∈ pz _, q ∈ _›) q hq) | exact fun q hq => .tail _ (.tail _ ((‹∀ q ∈ pz _, q ∈ _›) q hq))); (case h7ₓ => first | assumption | exact fun q hq => .tail _ ((‹∀ q ∈ qz _ _, q ∈ _›) q hq) | exact fun q hq => .tail _ (.tail _ ((‹∀ q ∈ qz _ _, q ∈ _›) q hq))); (case h8ₓ => assumption)); intro h'ₓ tk'ₓ F'ₓ N'ₓ)
  k_with "k_lt_off" => skip
  k_with "k_ne" => (first | assumption | (apply Ne.symm; assumption) | exact ne_new (by assumption) (by k_mem) | exact Ne.symm (ne_new (by assumption) (by k_mem)))
  k_with "k_all" => first | assumption | (refine all_new (by assumption) ?_; intro qₓ hqₓ; repeat (first | with_reducible exact hqₓ | with_reducible apply List.mem_cons_of_mem))
  k_with "newTuple" => (k_here; k_dflt (refine' kup_newTuple ?Fₓ ?Nₓ ?_ ?zₓ; (case Fₓ => k_asm); (case Nₓ => k_asm); (case zₓ => kmk_size)); intro D'ₓ h'ₓ F'ₓ N'ₓ l1ₓ; (try k_sweep))
  k_with "subscriptTail Name" => (k_here; (with_reducible show wpAny _ _ (subscriptTail (Expr.Name (Str.ofString "ranges") _) _ (Value.ref _) (Value.int 0 _)) _ _ _); k_dflt (refine' list_item (j := 0) ?Nₓ ?mₓ ?iₓ ?jₓ ?xₓ ?_; (case Nₓ => k_asm); (case mₓ => k_mem); (case iₓ => rfl); (case jₓ => decide); (case xₓ => rfl)))
  k_with "subscriptTail" => (k_here; (with_reducible show wpAny _ _ (subscriptTail (Expr.Name (Str.ofString "ranges") _) _ (Value.ref _) (Value.int 0 _)) _ _ _); k_dflt (refine' list_item (j := 0) ?Nₓ ?mₓ ?iₓ ?jₓ ?xₓ ?_; (case Nₓ => k_asm); (case mₓ => k_mem); (case iₓ => rfl); (case jₓ => decide); (case xₓ => rfl)))
  k_with "call builtin:len" => (k_here; (with_reducible show wpAny _ _ (call (Value.builtin "len") [Value.ref _]) _ _ _); k_dflt (refine' lenL ?Nₓ ?aₓ ?zₓ ?_; (case Nₓ => k_asm); (case aₓ => k_mem); (case zₓ => (first | assumption | omega))))
  trivial
theorem beyond_at {X XD RL : Addr} {kx : Nat → Tok} {z : RZ} {zs : List RZ} {kR : Nat} {nx : Int} {tnx : Tok} {vName vSent vLA vAK vLET vLT vRec vLS vLTm vFU vUn vWN vHN vECN vGone : Value}
    (F : Fr h₀ L s.heap m) (N : News h₀ L s.heap news) (X₀ : (heap w.params).In h₀) (T : Top p loose mean mg mb h₀)
    (hX : (X, instObj 220 XD) ∈ news) (hXD : (XD, xdO w kx vName (.int nx tnx) vSent vLA vAK vLET vLT vRec vLS vLTm vFU vUn vWN vHN vECN vGone) ∈ news)
    (hL : (RL, listOf (vz (z :: zs)).toArray kR) ∈ news) (hz : (z.a, z.obj) ∈ news) (hlen : (vz (z :: zs)).length ≤ 1000)
    (h : ∀ h' tk', Fr h₀ L h' m → News h₀ L h' news → Q (.bool (decide (z.hi ≥ nx))) { s with heap := h', toks := tk' }) :
    wpAny (model prog w) (AL 340) (call (.ref 186) [.ref X, .ref RL]) Q (fun _ _ => False) s := by
  refine enter (binds := [(Str.ofString "self", .ref X), (Str.ofString "ranges", .ref RL)]) (W := news) F N X₀ T (fun _ h => h) (by k_dflt k_is) (by k_dflt k_is) (by decide) (BindsTo.of_eq rfl) (locs rfl) ?_ rfl rfl rfl (by decide)
  intro g L' h₁ tk hg F' N' X' T'
  have fin : ∀ h' tk' m', Fr g L' h' m' → News g L' h' news → Q (.bool (decide (z.hi ≥ nx))) { s with heap := h', toks := tk' } := fun h' tk' m' F' N' => h h' tk' (backF F N (fun _ h => h) hg F') (backN F N (fun _ h => h) hg N')
  clear h N X₀ T F hg
  (try dsimp only)
  k_unmd
  k_fold
  k_steps
  · exact fin _ _ _ (by assumption) (by assumption)
  · have h9 : ¬ (0 : Int) < ((vz (z :: zs)).length : Nat) := by assumption
    exact absurd (by rw [vz_length, List.length_cons]; omega) h9
end
/-- the greater of what was and what comes -/
noncomputable def maxO (o : Option Int) (n : Int) : Int := match o with | none => n | some t => if n > t then n else t
section
variable {prog : Program} {w : World} {A : Around} {E : Value → Shared → Prop} {s : Shared} {h₀ : Heap} {L : Addr} {m mg mb : Str → Option Value}
  {p : Program} {loose : List Str} {mean : ExcName → Option Value} {Q : Value → Shared → Prop} {news : List (Addr × Obj)}
theorem words_small_2 : True := by
  k_with_none
  k_with "k_enter" => (refine' code_defM ?k1ₓ ?k2ₓ ?k3ₓ ?k5ₓ ?k6ₓ ?k7ₓ ?k8ₓ ?k9ₓ ?kBₓ ?_ ?c2ₓ ?c3ₓ ?c4ₓ ?c5ₓ; (case k1ₓ => k_asm); (case k2ₓ => k_asm); (case k3ₓ => k_asm); (case k5ₓ => k_asm); (case k6ₓ => k_is); (case k7ₓ => k_is); (case k8ₓ => exact Nat.le_of_ble_eq_true rfl); (case k9ₓ => exact rfl); (case c5ₓ => decide); (case kBₓ => exact locs rfl); (case c2ₓ => exact rfl); (case c3ₓ => exact rfl); (case c4ₓ => exact rfl); k_whole; intro g'ₓ L'ₓ h'ₓ FG'ₓ F'ₓ N'ₓ X'ₓ T'ₓ; (try dsimp only [List.map, List.zip, List.zipWith] at F'ₓ); (try dsimp only); (try k_fold))
  k_with "k_mem" => first | with_reducible assumption | with_reducible exact List.mem_cons_self | (with_reducible apply List.mem_cons_of_mem; k_mem)
  k_with "k_all" => first | assumption | exact allLt_off (by assumption)
  k_with "size_fits" => first | assumption | (simp only [Array.size_push, List.size_toArray, List.length_append, List.length_cons, List.length_nil, vz_length, PySem.sizeLine_eq]; omega)
  k_with "binaryOp Add ref ref" => (k_here; (with_reducible show wpAny _ _ (binaryOp _ (Value.ref _) (Value.ref _)) _ _ _); k_dflt (refine' addL ?Fₓ ?Nₓ ?aₓ ?bₓ ?zₓ ?_; (case Fₓ => k_asm); (case Nₓ => k_asm); (case aₓ => k_mem); (case bₓ => k_mem); (case zₓ => (simp only [List.length_cons, List.length_nil, vz_length, sizeLine_eq]; omega))); intro D'ₓ h'ₓ F'ₓ N'ₓ l1ₓ; (try k_lt l1ₓ); (try k_sweep))
  k_with "k_sub" => ((try simp only [List.cons_append, List.nil_append]); (repeat ((with_reducible refine List.forall_mem_cons.mpr ⟨?_, ?_⟩); (next => (first | ((repeat (first | with_reducible exact List.mem_cons_self | with_reducible apply List.mem_cons_of_mem)); done) | (repeat (first | exact List.mem_cons_self | apply List.mem_cons_of_mem)))))); intro qₓ hqₓ; first | with_reducible exact absurd hqₓ List.not_mem_nil | (repeat (first | with_reducible exact hqₓ | with_reducible exact List.mem_append_left _ hqₓ | with_reducible exact List.mem_append_right _ hqₓ | with_reducible apply List.mem_cons_of_mem)))
  k_with "SrcLP" => (k_here; k_dflt (refine LCp.SrcLP.ledger (by rfl) (by k_asm) (by k_asm) (by k_mem) (by size_fits) ?_); intro g'ₓ; refine Halt.out ?_)
  k_with "CompSrc" => (k_here; k_dflt (refine LCg.CompSrc.ledger (by rfl) (by k_asm) (by k_asm) (by k_mem) (by size_fits) ?_); intro g'ₓ; refine Halt.out ?_)
  k_with "CompSrcT" => (k_here; k_dflt (refine LCt.CompSrcT.ledger (by rfl) (by k_asm) (by k_asm) (by k_mem) (by size_fits) ?_); intro g'ₓ; refine Halt.out ?_)
  k_with "CompEnd" => (refine Halt.out ?_)
  k_with "lsm_bools" => assumption
  k_with "eval Name" => (k_here; k_dflt (refine' nameX_L ?Fₓ ?vₓ ?_ ?aₓ ?bₓ; (case Fₓ => k_asm); (case aₓ => rfl); (case bₓ => rfl); (case vₓ => first | exact rfl | assumption); k_whole))
  k_with "eval Name" => (k_here; (with_reducible show wpAny _ _ (eval (Expr.Name _ _) (envOf _ _ _ _ _)) _ _ _); k_dflt (refine' ld ?k1ₓ ?k2ₓ ?_; (case k1ₓ => k_asm); (case k2ₓ => first | exact rfl | assumption); k_whole))
  k_with "k_ne" => (first | assumption | (apply Ne.symm; assumption) | exact Nat.ne_of_lt (by assumption) | exact Nat.ne_of_gt (by assumption))
  k_with "call builtin:len" => (k_here; (with_reducible show wpAny _ _ (call (Value.builtin "len") [Value.ref _]) _ _ _); k_dflt (refine' lenL ?Nₓ ?aₓ ?zₓ ?_; (case Nₓ => k_asm); (case aₓ => k_mem); (case zₓ => (simp only [vz_length]; omega))); (try simp only [vz_length]))
  k_with "setItem ref int" => (k_here; k_dflt (refine' kda_set (knd := PySem.intKind _ _) ?Fₓ ?Nₓ ?Uₓ ?dₓ (intKind_is _ _ _ _) ?zₓ ?_; (case Fₓ => k_asm); (case Nₓ => k_asm); (case Uₓ => k_updF); (case dₓ => assumption); (case zₓ => assumption)); intro h'ₓ o'ₓ F'ₓ N'ₓ hd'ₓ; (try k_sweep))
  k_with "call ref" => (k_here; (with_reducible show wpAny _ _ (call (Value.ref 238) _) _ _ _); k_dflt (refine' to_AL rfl ?dₓ ?uₓ (draw_at ?Fₓ ?Nₓ ?Xₓ ?Tₓ ?Uₓ ?oₓ ?hPₓ ?hSₓ ?hiₓ ?hlₓ ?psₓ ?hmₓ ?_); (case dₓ => exact Nat.le_of_ble_eq_true rfl); (case uₓ => exact Nat.le_of_ble_eq_true rfl); (case Fₓ => k_asm); (case Nₓ => k_asm); (case Xₓ => k_asm); (case Tₓ => k_asm); (case Uₓ => k_updF); (case oₓ => assumption); (case hPₓ => k_mem); (case hSₓ => k_mem); (case hiₓ => assumption); (case hlₓ => assumption); (case psₓ => k_ne); (case hmₓ => first | decide | assumption)); intro v'ₓ t'ₓ o'ₓ h'ₓ tk'ₓ hv0'ₓ hv1'ₓ oP'ₓ F'ₓ N'ₓ; (try dsimp only at N'ₓ); (try k_sweep))
  k_with "call ref" => (k_here; (with_reducible show wpAny _ _ (call (Value.ref 53) _) _ _ _); k_dflt (refine' to_AL rfl ?dₓ ?uₓ (add_at ?Fₓ ?Nₓ ?Xₓ ?Tₓ ?hLₓ ?hzₓ ?hlenₓ ?_); (case dₓ => exact Nat.le_of_ble_eq_true rfl); (case uₓ => exact Nat.le_of_ble_eq_true rfl); (case Fₓ => k_asm); (case Nₓ => k_asm); (case Xₓ => k_asm); (case Tₓ => k_asm); (case hLₓ => k_mem); (case hzₓ => k_sub); (case hlenₓ => first | assumption | omega)); intro RL' z' rs' k' h' tk' F' N' n1' n2' n3' er' es' el'; (repeat (replace n1' := List.forall_mem_cons.mp n1'; (have hn' := And.left n1'); replace n1' := And.right n1'; try dsimp only at hn')); (repeat (replace n2' := List.forall_mem_cons.mp n2'; (have hn' := And.left n2'); replace n2' := And.right n2'; try dsimp only at hn')); (try dsimp only at n3'); (try k_sweep))
  k_with "call ref" => (k_here; (with_reducible show wpAny _ _ (call (Value.ref 58) _) _ _ _); k_dflt (refine' to_AL rfl ?dₓ ?uₓ (has_at ?Fₓ ?Nₓ ?Xₓ ?Tₓ ?hLₓ ?hzₓ ?hlenₓ ?_); (case dₓ => exact Nat.le_of_ble_eq_true rfl); (case uₓ => exact Nat.le_of_ble_eq_true rfl); (case Fₓ => k_asm); (case Nₓ => k_asm); (case Xₓ => k_asm); (case Tₓ => k_asm); (case hLₓ => k_mem); (case hzₓ => k_sub); (case hlenₓ => first | assumption | omega)); intro h'ₓ tk'ₓ F'ₓ N'ₓ; (try k_sweep))
  k_with "call ref" => (k_here; (with_reducible show wpAny _ _ (call (Value.ref 41) _) _ _ _); k_dflt (refine' to_AL rfl ?dₓ ?uₓ (anyel_at ?Fₓ ?Nₓ ?Xₓ ?Tₓ ?hLₓ ?hzₓ ?oₓ ?hlₓ ?_); (case dₓ => exact Nat.le_of_ble_eq_true rfl); (case uₓ => exact Nat.le_of_ble_eq_true rfl); (case Fₓ => k_asm); (case Nₓ => k_asm); (case Xₓ => k_asm); (case Tₓ => k_asm); (case hLₓ => k_mem); (case hzₓ => (intro qₓ hqₓ; first | (refine mem_in ((‹∀ qₓ ∈ tf _, qₓ ∈ _›) qₓ hqₓ) ?_; first | exact ⟨1, rfl⟩ | exact ⟨2, rfl⟩ | exact ⟨3, rfl⟩ | exact ⟨4, rfl⟩ | exact ⟨5, rfl⟩ | exact ⟨6, rfl⟩ | exact ⟨7, rfl⟩ | exact ⟨8, rfl⟩ | exact ⟨9, rfl⟩ | exact ⟨10, rfl⟩ | exact ⟨11, rfl⟩ | exact ⟨12, rfl⟩ | exact ⟨13, rfl⟩ | exact ⟨14, rfl⟩ | exact ⟨15, rfl⟩) | (repeat (first | with_reducible exact (‹∀ qₓ ∈ tf _, qₓ ∈ _›) qₓ hqₓ | with_reducible apply List.mem_cons_of_mem)))); (case oₓ => assumption); (case hlₓ => assumption)); intro h'ₓ tk'ₓ F'ₓ N'ₓ; (try k_sweep))
  k_with "call ref" => (k_here; (with_reducible show wpAny _ _ (call (Value.ref 46) _) _ _ _); k_dflt (refine' to_AL rfl ?dₓ ?uₓ (anyfl_at ?Fₓ ?Nₓ ?Xₓ ?Tₓ ?hLₓ ?hzₓ ?oₓ ?hlₓ ?_); (case dₓ => exact Nat.le_of_ble_eq_true rfl); (case uₓ => exact Nat.le_of_ble_eq_true rfl); (case Fₓ => k_asm); (case Nₓ => k_asm); (case Xₓ => k_asm); (case Tₓ => k_asm); (case hLₓ => k_mem); (case hzₓ => (intro qₓ hqₓ; first | (refine mem_in ((‹∀ qₓ ∈ tf _, qₓ ∈ _›) qₓ hqₓ) ?_; first | exact ⟨1, rfl⟩ | exact ⟨2, rfl⟩ | exact ⟨3, rfl⟩ | exact ⟨4, rfl⟩ | exact ⟨5, rfl⟩ | exact ⟨6, rfl⟩ | exact ⟨7, rfl⟩ | exact ⟨8, rfl⟩ | exact ⟨9, rfl⟩ | exact ⟨10, rfl⟩ | exact ⟨11, rfl⟩ | exact ⟨12, rfl⟩ | exact ⟨13, rfl⟩ | exact ⟨14, rfl⟩ | exact ⟨15, rfl⟩) | (repeat (first | with_reducible exact (‹∀ qₓ ∈ tf _, qₓ ∈ _›) qₓ hqₓ | with_reducible apply List.mem_cons_of_mem)))); (case oₓ => assumption); (case hlₓ => assumption)); intro h'ₓ tk'ₓ F'ₓ N'ₓ; (try k_sweep))
  k_with "call ref" => (k_here; (with_reducible show wpAny _ _ (call (Value.ref 203) _) _ _ _); k_dflt (refine' to_AL rfl ?dₓ ?uₓ (octs_at ?Fₓ ?Nₓ ?Xₓ ?Tₓ ?h1ₓ ?h2ₓ ?h3ₓ ?h4ₓ ?h5ₓ ?h6ₓ ?h7ₓ ?h8ₓ ?_); (case dₓ => exact Nat.le_of_ble_eq_true rfl); (case uₓ => exact Nat.le_of_ble_eq_true rfl); (case Fₓ => k_asm); (case Nₓ => k_asm); (case Xₓ => k_asm); (case Tₓ => k_asm); (case h1ₓ => k_mem); (case h2ₓ => k_mem); (case h3ₓ => k_mem); (case h4ₓ => assumption); (case h5ₓ => assumption); (case h6ₓ => first | assumption | exact fun q hq => .tail _ ((‹∀ q ∈ pz _, q ∈ _›) q hq) | exact fun q hq => .tail _ (.tail _ ((‹∀ q ∈ pz _, q ∈ _›) q hq))); (case h7ₓ => first | assumption | exact fun q hq => .tail _ ((‹∀ q ∈ qz _ _, q ∈ _›) q hq) | exact fun q hq => .tail _ (.tail _ ((‹∀ q ∈ qz _ _, q ∈ _›) q hq))); (case h8ₓ => assumption)); intro h'ₓ tk'ₓ t'ₓ F'ₓ N'ₓ)
  k_with "call ref" => (k_here; (with_reducible show wpAny _ _ (call (Value.ref 198) _) _ _ _); k_dflt (refine' to_AL rfl ?dₓ ?uₓ (elic_at ?Fₓ ?Nₓ ?Xₓ ?Tₓ ?h1ₓ ?h2ₓ ?h3ₓ ?h4ₓ ?h5ₓ ?h6ₓ ?h7ₓ ?h8ₓ ?_); (case dₓ => exact Nat.le_of_ble_eq_true rfl); (case uₓ => exact Nat.le_of_ble_eq_true rfl); (case Fₓ => k_asm); (case Nₓ => k_asm); (case Xₓ => k_asm); (case Tₓ => k_asm); (case h1ₓ => k_mem); (case h2ₓ => k_mem); (case h3ₓ => k_mem); (case h4ₓ => assumption); (case h5ₓ => assumption); (case h6ₓ => first | assumption | exact fun q hq => .tail _ ((‹∀ q ∈ pz _, q ∈ _›) q hq) | exact fun q hq => .tail _ (.tail _ ((‹∀ q ∈ pz _, q ∈ _›) q hq))); (case h7ₓ => first | assumption | exact fun q hq => .tail _ ((‹∀ q ∈ qz _ _, q ∈ _›) q hq) | exact fun q hq => .tail _ (.tail _ ((‹∀ q ∈ qz _ _, q ∈ _›) q hq))); (case h8ₓ => assumption)); intro h'ₓ tk'ₓ F'ₓ N'ₓ)
  k_with "k_lt_off" => skip
  k_with "k_ne" => (first | assumption | (apply Ne.symm; assumption) | exact ne_new (by assumption) (by k_mem) | exact Ne.symm (ne_new (by assumption) (by k_mem)))
  k_with "k_all" => first | assumption | (refine all_new (by assumption) ?_; intro qₓ hqₓ; repeat (first | with_reducible exact hqₓ | with_reducible apply List.mem_cons_of_mem))
  k_with "newTuple" => (k_here; k_dflt (refine' kup_newTuple ?Fₓ ?Nₓ ?_ ?zₓ; (case Fₓ => k_asm); (case Nₓ => k_asm); (case zₓ => kmk_size)); intro D'ₓ h'ₓ F'ₓ N'ₓ l1ₓ; (try k_sweep))
  trivial
theorem largest_at {X XD : Addr} {kx : Nat → Tok} {top : Option Int} {n : Int} {tn : Tok} {vName vNext vSent vLA vAK vLET vLT vRec vLS vLTm vFU vUn vWN vHN vECN vGone : Value} {gg : Obj → List (Addr × Obj)}
    (F : Fr h₀ L s.heap m) (N : News h₀ L s.heap news) (X₀ : (heap w.params).In h₀) (T : Top p loose mean mg mb h₀)
    (hX : (X, instObj 220 XD) ∈ news) (hXD : (XD, xdO w kx vName vNext vSent vLA vAK vLET vLT vRec vLS vLTm vFU vUn vWN vHN vECN vGone) ∈ news) (U : UpdF XD (xdO w kx vName vNext vSent vLA vAK vLET vLT vRec vLS vLTm vFU vUn vWN vHN vECN vGone) news gg) (hXX : @Ne Nat X XD) (hLA : OI vLA top)
    (h : ∀ v' h' tk', OI v' (some (maxO top n)) → Fr h₀ L h' m → News h₀ L h' (gg (xdO w kx vName vNext vSent v' vAK vLET vLT vRec vLS vLTm vFU vUn vWN vHN vECN vGone)) → Q .none { s with heap := h', toks := tk' }) :
    wpAny (model prog w) (AL 340) (call (.ref 193) [.ref X, .int n tn]) Q (fun _ _ => False) s := by
  have hW : ∀ q ∈ [(XD, xdO w kx vName vNext vSent vLA vAK vLET vLT vRec vLS vLTm vFU vUn vWN vHN vECN vGone), (X, instObj 220 XD)], q ∈ news := List.forall_mem_cons.mpr ⟨hXD, List.forall_mem_cons.mpr ⟨hX, fun _ h => nomatch h⟩⟩
  refine enter (binds := [(Str.ofString "self", .ref X), (Str.ofString "number", .int n tn)]) (W := [(XD, xdO w kx vName vNext vSent vLA vAK vLET vLT vRec vLS vLTm vFU vUn vWN vHN vECN vGone), (X, instObj 220 XD)]) F N X₀ T hW (by k_dflt k_is) (by k_dflt k_is) (by decide) (BindsTo.of_eq rfl) (locs rfl) ?_ rfl rfl rfl (by decide)
  intro g L' h₁ tk hg F' N' X' T'
  have fin : ∀ v' h' tk' m', OI v' (some (maxO top n)) → Fr g L' h' m' → News g L' h' [(XD, xdO w kx vName vNext vSent v' vAK vLET vLT vRec vLS vLTm vFU vUn vWN vHN vECN vGone), (X, instObj 220 XD)] → Q .none { s with heap := h', toks := tk' } :=
    fun v' h' tk' m' a1 F' N' => h v' h' tk' a1 (backF F N hW hg F') (back1 F N U hW hg F' N')
  clear h N X₀ T F hg U hW hX hXD
  cases top with
  | none =>
    cases hLA
    (try dsimp only)
    k_unmd
    k_fold
    k_steps
    exact fin _ _ _ _ ⟨_, rfl⟩ (by assumption) (by assumption)
  | some t =>
    obtain ⟨u, rfl⟩ := hLA
    (try dsimp only)
    k_unmd
    k_fold
    k_steps
    · exact fin _ _ _ _ ⟨_, by rw [show maxO (some t) n = n from if_pos (by assumption)]⟩ (by assumption) (by assumption)
    · exact fin _ _ _ _ ⟨_, by rw [show maxO (some t) n = t from if_neg (by assumption)]⟩ (by assumption) (by assumption)
end

-- needs: octs
/-- rows made anew of what is out -/
noncomputable abbrev row2 (o : OZ) : Obj := { cls := .type "tuple", data := .seq #[.int o.tm (o.k 7), .int o.sz (o.k 8), .bool o.ak, .bool o.ct] }
noncomputable def rowK (fs : List (OZ × Addr)) : List (Int × Value) := fs.map fun p => (p.1.n, .ref p.2)
noncomputable def rowN (fs : List (OZ × Addr)) : List (Addr × Obj) := fs.map fun p => (p.2, row2 p.1)
section
variable {prog : Program} {w : World} {A : Around} {E : Value → Shared → Prop} {s : Shared} {h₀ : Heap} {L : Addr} {m mg mb : Str → Option Value}
  {p : Program} {loose : List Str} {mean : ExcName → Option Value} {Q : Value → Shared → Prop} {news : List (Addr × Obj)}
theorem words_rows_1 : True := by
  k_with_none
  k_with "k_enter" => (refine' code_defM ?k1ₓ ?k2ₓ ?k3ₓ ?k5ₓ ?k6ₓ ?k7ₓ ?k8ₓ ?k9ₓ ?kBₓ ?_ ?c2ₓ ?c3ₓ ?c4ₓ ?c5ₓ; (case k1ₓ => k_asm); (case k2ₓ => k_asm); (case k3ₓ => k_asm); (case k5ₓ => k_asm); (case k6ₓ => k_is); (case k7ₓ => k_is); (case k8ₓ => exact Nat.le_of_ble_eq_true rfl); (case k9ₓ => exact rfl); (case c5ₓ => decide); (case kBₓ => exact locs rfl); (case c2ₓ => exact rfl); (case c3ₓ => exact rfl); (case c4ₓ => exact rfl); k_whole; intro g'ₓ L'ₓ h'ₓ FG'ₓ F'ₓ N'ₓ X'ₓ T'ₓ; (try dsimp only [List.map, List.zip, List.zipWith] at F'ₓ); (try dsimp only); (try k_fold))
  k_with "k_mem" => first | with_reducible assumption | with_reducible exact List.mem_cons_self | (with_reducible apply List.mem_cons_of_mem; k_mem)
  k_with "k_all" => first | assumption | exact allLt_off (by assumption)
  k_with "size_fits" => first | assumption | (simp only [Array.size_push, List.size_toArray, List.length_append, List.length_cons, List.length_nil, vz_length, PySem.sizeLine_eq]; omega)
  k_with "binaryOp Add ref ref" => (k_here; (with_reducible show wpAny _ _ (binaryOp _ (Value.ref _) (Value.ref _)) _ _ _); k_dflt (refine' addL ?Fₓ ?Nₓ ?aₓ ?bₓ ?zₓ ?_; (case Fₓ => k_asm); (case Nₓ => k_asm); (case aₓ => k_mem); (case bₓ => k_mem); (case zₓ => (simp only [List.length_cons, List.length_nil, vz_length, sizeLine_eq]; omega))); intro D'ₓ h'ₓ F'ₓ N'ₓ l1ₓ; (try k_lt l1ₓ); (try k_sweep))
  k_with "k_sub" => ((try simp only [List.cons_append, List.nil_append]); (repeat ((with_reducible refine List.forall_mem_cons.mpr ⟨?_, ?_⟩); (next => (first | ((repeat (first | with_reducible exact List.mem_cons_self | with_reducible apply List.mem_cons_of_mem)); done) | (repeat (first | exact List.mem_cons_self | apply List.mem_cons_of_mem)))))); intro qₓ hqₓ; first | with_reducible exact absurd hqₓ List.not_mem_nil | (repeat (first | with_reducible exact hqₓ | with_reducible exact List.mem_append_left _ hqₓ | with_reducible exact List.mem_append_right _ hqₓ | with_reducible apply List.mem_cons_of_mem)))
  k_with "SrcLP" => (k_here; k_dflt (refine LCp.SrcLP.ledger (by rfl) (by k_asm) (by k_asm) (by k_mem) (by size_fits) ?_); intro g'ₓ; refine Halt.out ?_)
  k_with "CompSrc" => (k_here; k_dflt (refine LCg.CompSrc.ledger (by rfl) (by k_asm) (by k_asm) (by k_mem) (by size_fits) ?_); intro g'ₓ; refine Halt.out ?_)
  k_with "CompSrcT" => (k_here; k_dflt (refine LCt.CompSrcT.ledger (by rfl) (by k_asm) (by k_asm) (by k_mem) (by size_fits) ?_); intro g'ₓ; refine Halt.out ?_)
  k_with "CompEnd" => (refine Halt.out ?_)
  k_with "lsm_bools" => assumption
  k_with "eval Name" => (k_here; k_dflt (refine' nameX_L ?Fₓ ?vₓ ?_ ?aₓ ?bₓ; (case Fₓ => k_asm); (case aₓ => rfl); (case bₓ => rfl); (case vₓ => first | exact rfl | assumption); k_whole))
  k_with "eval Name" => (k_here; (with_reducible show wpAny _ _ (eval (Expr.Name _ _) (envOf _ _ _ _ _)) _ _ _); k_dflt (refine' ld ?k1ₓ ?k2ₓ ?_; (case k1ₓ => k_asm); (case k2ₓ => first | exact rfl | assumption); k_whole))
  k_with "k_ne" => (first | assumption | (apply Ne.symm; assumption) | exact Nat.ne_of_lt (by assumption) | exact Nat.ne_of_gt (by assumption))
  k_with "call builtin:len" => (k_here; (with_reducible show wpAny _ _ (call (Value.builtin "len") [Value.ref _]) _ _ _); k_dflt (refine' lenL ?Nₓ ?aₓ ?zₓ ?_; (case Nₓ => k_asm); (case aₓ => k_mem); (case zₓ => (simp only [vz_length]; omega))); (try simp only [vz_length]))
  k_with "setItem ref int" => (k_here; k_dflt (refine' kda_set (knd := PySem.intKind _ _) ?Fₓ ?Nₓ ?Uₓ ?dₓ (intKind_is _ _ _ _) ?zₓ ?_; (case Fₓ => k_asm); (case Nₓ => k_asm); (case Uₓ => k_updF); (case dₓ => assumption); (case zₓ => assumption)); intro h'ₓ o'ₓ F'ₓ N'ₓ hd'ₓ; (try k_sweep))
  k_with "call ref" => (k_here; (with_reducible show wpAny _ _ (call (Value.ref 238) _) _ _ _); k_dflt (refine' to_AL rfl ?dₓ ?uₓ (draw_at ?Fₓ ?Nₓ ?Xₓ ?Tₓ ?Uₓ ?oₓ ?hPₓ ?hSₓ ?hiₓ ?hlₓ ?psₓ ?hmₓ ?_); (case dₓ => exact Nat.le_of_ble_eq_true rfl); (case uₓ => exact Nat.le_of_ble_eq_true rfl); (case Fₓ => k_asm); (case Nₓ => k_asm); (case Xₓ => k_asm); (case Tₓ => k_asm); (case Uₓ => k_updF); (case oₓ => assumption); (case hPₓ => k_mem); (case hSₓ => k_mem); (case hiₓ => assumption); (case hlₓ => assumption); (case psₓ => k_ne); (case hmₓ => first | decide | assumption)); intro v'ₓ t'ₓ o'ₓ h'ₓ tk'ₓ hv0'ₓ hv1'ₓ oP'ₓ F'ₓ N'ₓ; (try dsimp only at N'ₓ); (try k_sweep))
  k_with "call ref" => (k_here; (with_reducible show wpAny _ _ (call (Value.ref 53) _) _ _ _); k_dflt (refine' to_AL rfl ?dₓ ?uₓ (add_at ?Fₓ ?Nₓ ?Xₓ ?Tₓ ?hLₓ ?hzₓ ?hlenₓ ?_); (case dₓ => exact Nat.le_of_ble_eq_true rfl); (case uₓ => exact Nat.le_of_ble_eq_true rfl); (case Fₓ => k_asm); (case Nₓ => k_asm); (case Xₓ => k_asm); (case Tₓ => k_asm); (case hLₓ => k_mem); (case hzₓ => k_sub); (case hlenₓ => first | assumption | omega)); intro RL' z' rs' k' h' tk' F' N' n1' n2' n3' er' es' el'; (repeat (replace n1' := List.forall_mem_cons.mp n1'; (have hn' := And.left n1'); replace n1' := And.right n1'; try dsimp only at hn')); (repeat (replace n2' := List.forall_mem_cons.mp n2'; (have hn' := And.left n2'); replace n2' := And.right n2'; try dsimp only at hn')); (try dsimp only at n3'); (try k_sweep))
  k_with "call ref" => (k_here; (with_reducible show wpAny _ _ (call (Value.ref 58) _) _ _ _); k_dflt (refine' to_AL rfl ?dₓ ?uₓ (has_at ?Fₓ ?Nₓ ?Xₓ ?Tₓ ?hLₓ ?hzₓ ?hlenₓ ?_); (case dₓ => exact Nat.le_of_ble_eq_true rfl); (case uₓ => exact Nat.le_of_ble_eq_true rfl); (case Fₓ => k_asm); (case Nₓ => k_asm); (case Xₓ => k_asm); (case Tₓ => k_asm); (case hLₓ => k_mem); (case hzₓ => k_sub); (case hlenₓ => first | assumption | omega)); intro h'ₓ tk'ₓ F'ₓ N'ₓ; (try k_sweep))
  k_with "call ref" => (k_here; (with_reducible show wpAny _ _ (call (Value.ref 41) _) _ _ _); k_dflt (refine' to_AL rfl ?dₓ ?uₓ (anyel_at ?Fₓ ?Nₓ ?Xₓ ?Tₓ ?hLₓ ?hzₓ ?oₓ ?hlₓ ?_); (case dₓ => exact Nat.le_of_ble_eq_true rfl); (case uₓ => exact Nat.le_of_ble_eq_true rfl); (case Fₓ => k_asm); (case Nₓ => k_asm); (case Xₓ => k_asm); (case Tₓ => k_asm); (case hLₓ => k_mem); (case hzₓ => (intro qₓ hqₓ; first | (refine mem_in ((‹∀ qₓ ∈ tf _, qₓ ∈ _›) qₓ hqₓ) ?_; first | exact ⟨1, rfl⟩ | exact ⟨2, rfl⟩ | exact ⟨3, rfl⟩ | exact ⟨4, rfl⟩ | exact ⟨5, rfl⟩ | exact ⟨6, rfl⟩ | exact ⟨7, rfl⟩ | exact ⟨8, rfl⟩ | exact ⟨9, rfl⟩ | exact ⟨10, rfl⟩ | exact ⟨11, rfl⟩ | exact ⟨12, rfl⟩ | exact ⟨13, rfl⟩ | exact ⟨14, rfl⟩ | exact ⟨15, rfl⟩) | (repeat (first | with_reducible exact (‹∀ qₓ ∈ tf _, qₓ ∈ _›) qₓ hqₓ | with_reducible apply List.mem_cons_of_mem)))); (case oₓ => assumption); (case hlₓ => assumption)); intro h'ₓ tk'ₓ F'ₓ N'ₓ; (try k_sweep))
  k_with "call ref" => (k_here; (with_reducible show wpAny _ _ (call (Value.ref 46) _) _ _ _); k_dflt (refine' to_AL rfl ?dₓ ?uₓ (anyfl_at ?Fₓ ?Nₓ ?Xₓ ?Tₓ ?hLₓ ?hzₓ ?oₓ ?hlₓ ?_); (case dₓ => exact Nat.le_of_ble_eq_true rfl); (case uₓ => exact Nat.le_of_ble_eq_true rfl); (case Fₓ => k_asm); (case Nₓ => k_asm); (case Xₓ => k_asm); (case Tₓ => k_asm); (case hLₓ => k_mem); (case hzₓ => (intro qₓ hqₓ; first | (refine mem_in ((‹∀ qₓ ∈ tf _, qₓ ∈ _›) qₓ hqₓ) ?_; first | exact ⟨1, rfl⟩ | exact ⟨2, rfl⟩ | exact ⟨3, rfl⟩ | exact ⟨4, rfl⟩ | exact ⟨5, rfl⟩ | exact ⟨6, rfl⟩ | exact ⟨7, rfl⟩ | exact ⟨8, rfl⟩ | exact ⟨9, rfl⟩ | exact ⟨10, rfl⟩ | exact ⟨11, rfl⟩ | exact ⟨12, rfl⟩ | exact ⟨13, rfl⟩ | exact ⟨14, rfl⟩ | exact ⟨15, rfl⟩) | (repeat (first | with_reducible exact (‹∀ qₓ ∈ tf _, qₓ ∈ _›) qₓ hqₓ | with_reducible apply List.mem_cons_of_mem)))); (case oₓ => assumption); (case hlₓ => assumption)); intro h'ₓ tk'ₓ F'ₓ N'ₓ; (try k_sweep))
  k_with "call ref" => (k_here; (with_reducible show wpAny _ _ (call (Value.ref 203) _) _ _ _); k_dflt (refine' to_AL rfl ?dₓ ?uₓ (octs_at ?Fₓ ?Nₓ ?Xₓ ?Tₓ ?h1ₓ ?h2ₓ ?h3ₓ ?h4ₓ ?h5ₓ ?h6ₓ ?h7ₓ ?h8ₓ ?_); (case dₓ => exact Nat.le_of_ble_eq_true rfl); (case uₓ => exact Nat.le_of_ble_eq_true rfl); (case Fₓ => k_asm); (case Nₓ => k_asm); (case Xₓ => k_asm); (case Tₓ => k_asm); (case h1ₓ => k_mem); (case h2ₓ => k_mem); (case h3ₓ => k_mem); (case h4ₓ => assumption); (case h5ₓ => assumption); (case h6ₓ => first | assumption | exact fun q hq => .tail _ ((‹∀ q ∈ pz _, q ∈ _›) q hq) | exact fun q hq => .tail _ (.tail _ ((‹∀ q ∈ pz _, q ∈ _›) q hq))); (case h7ₓ => first | assumption | exact fun q hq => .tail _ ((‹∀ q ∈ qz _ _, q ∈ _›) q hq) | exact fun q hq => .tail _ (.tail _ ((‹∀ q ∈ qz _ _, q ∈ _›) q hq))); (case h8ₓ => assumption)); intro h'ₓ tk'ₓ t'ₓ F'ₓ N'ₓ)
  k_with "call ref" => (k_here; (with_reducible show wpAny _ _ (call (Value.ref 198) _) _ _ _); k_dflt (refine' to_AL rfl ?dₓ ?uₓ (elic_at ?Fₓ ?Nₓ ?Xₓ ?Tₓ ?h1ₓ ?h2ₓ ?h3ₓ ?h4ₓ ?h5ₓ ?h6ₓ ?h7ₓ ?h8ₓ ?_); (case dₓ => exact Nat.le_of_ble_eq_true rfl); (case uₓ => exact Nat.le_of_ble_eq_true rfl); (case Fₓ => k_asm); (case Nₓ => k_asm); (case Xₓ => k_asm); (case Tₓ => k_asm); (case h1ₓ => k_mem); (case h2ₓ => k_mem); (case h3ₓ => k_mem); (case h4ₓ => assumption); (case h5ₓ => assumption); (case h6ₓ => first | assumption | exact fun q hq => .tail _ ((‹∀ q ∈ pz _, q ∈ _›) q hq) | exact fun q hq => .tail _ (.tail _ ((‹∀ q ∈ pz _, q ∈ _›) q hq))); (case h7ₓ => first | assumption | exact fun q hq => .tail _ ((‹∀ q ∈ qz _ _, q ∈ _›) q hq) | exact fun q hq => .tail _ (.tail _ ((‹∀ q ∈ qz _ _, q ∈ _›) q hq))); (case h8ₓ => assumption)); intro h'ₓ tk'ₓ F'ₓ N'ₓ)
  k_with "k_lt_off" => skip
  k_with "k_ne" => (first | assumption | (apply Ne.symm; assumption) | exact ne_new (by assumption) (by k_mem) | exact Ne.symm (ne_new (by assumption) (by k_mem)))
  k_with "k_all" => first | assumption | (refine all_new (by assumption) ?_; intro qₓ hqₓ; repeat (first | with_reducible exact hqₓ | with_reducible apply List.mem_cons_of_mem))
  k_with "newTuple" => (k_here; k_dflt (refine' kup_newTuple ?Fₓ ?Nₓ ?_ ?zₓ; (case Fₓ => k_asm); (case Nₓ => k_asm); (case zₓ => kmk_size)); intro D'ₓ h'ₓ F'ₓ N'ₓ l1ₓ; (try k_sweep))
  k_with "subscriptTail Name" => (k_here; (with_reducible show wpAny _ _ (subscriptTail _ _ (Value.ref _) (Value.int _ _)) _ _ _); k_dflt (refine' kda_item (knd := PySem.intKind _ _) ?Nₓ ?pₓ ?dₓ (intKind_is _ _ _ _) ?lₓ ?_; (case Nₓ => k_asm); (case pₓ => k_mem); (case dₓ => assumption); (case lₓ => assumption)))
  k_with "subscriptTail" => (k_here; (with_reducible show wpAny _ _ (subscriptTail _ _ (Value.ref _) (Value.int _ _)) _ _ _); k_dflt (refine' kda_item (knd := PySem.intKind _ _) ?Nₓ ?pₓ ?dₓ (intKind_is _ _ _ _) ?lₓ ?_; (case Nₓ => k_asm); (case pₓ => k_mem); (case dₓ => assumption); (case lₓ => assumption)))
  k_with "pyIter_ref" => (refine Halt.out ?_)
  k_with "exec For Name Attribute cons nil" => (refine Halt.out ?_)
  trivial
theorem rows_sub2 {p : Addr × Obj} {l news : List (Addr × Obj)} : ∀ q ∈ news, q ∈ p :: (l ++ news) := fun q hq => .tail _ (List.mem_append_right _ hq)
theorem rows_sub {p : Addr × Obj} {l news : List (Addr × Obj)} : ∀ q ∈ p :: news, q ∈ p :: (l ++ news) := fun q hq => (List.mem_cons.mp hq).elim (fun e => e ▸ .head _) fun h => .tail _ (List.mem_append_right _ h)
theorem tag_rowN {fs : List (OZ × Addr)} {q : Addr × Obj} (h : q ∈ rowN fs) : tagO q.2 = 3 := by
  obtain ⟨z, _, rfl⟩ := List.mem_map.mp h
  rfl
theorem valueAt_mem {K : Type} [DecidableEq K] {kvs : List (K × Value)} {k : K} {v : Value} (hn : (kvs.map (·.1)).Nodup) (h : (k, v) ∈ kvs) : valueAt kvs k = some v := by
  unfold valueAt
  induction kvs with
  | nil => cases h
  | cons p r ih =>
    rw [List.map_cons, List.nodup_cons] at hn
    rcases List.mem_cons.mp h with e | h
    · subst e; simp
    · have hne : p.1 ≠ k := fun e => hn.1 (e ▸ List.mem_map_of_mem (f := (·.1)) h)
      rw [List.find?_cons_of_neg (by simpa using hne)]
      exact ih hn.2 h
theorem row_new {fs : List (OZ × Addr)} {os : List OZ} {i : Nat} {o : OZ} (hn : ((sentK os).map (·.1)).Nodup) (ho : os[i]? = some o) (hfs : fs.map (·.1) = os.take i) : ∀ p ∈ rowK fs, p.1 ≠ o.n := by
  intro p hp
  obtain ⟨f, hf, rfl⟩ := List.mem_map.mp hp
  have hm : f.1 ∈ os.take i := hfs ▸ List.mem_map_of_mem hf
  obtain ⟨j, hj, ej⟩ := List.getElem_of_mem hm
  rw [List.length_take] at hj
  have hj' : j < i := by omega
  have hj2 : j < os.length := by omega
  rw [List.getElem_take] at ej
  have hio := (List.getElem?_eq_some_iff.mp ho)
  obtain ⟨hi, ei⟩ := hio
  intro e
  have hn2 : (os.map fun o => o.n).Nodup := by simpa [sentK, Function.comp_def] using hn
  exact (List.pairwise_iff_getElem.mp hn2) j i (by simpa using hj2) (by simpa using hi) hj' (by simp only [List.getElem_map]; rw [ej, ei]; exact e)
theorem rows_at {X XD SD : Addr} {oSD : Obj} {os : List OZ} {kx : Nat → Tok} {vName vNext vLA vAK vLET vLT vRec vLS vLTm vFU vUn vWN vHN vECN vGone : Value}
    (F : Fr h₀ L s.heap m) (N : News h₀ L s.heap news) (X₀ : (heap w.params).In h₀) (T : Top p loose mean mg mb h₀)
    (hX : (X, instObj 220 XD) ∈ news) (hXD : (XD, xdO w kx vName vNext (.ref SD) vLA vAK vLET vLT vRec vLS vLTm vFU vUn vWN vHN vECN vGone) ∈ news) (hSD : (SD, oSD) ∈ news) (hd : oSD.IsDictOf (intKind prog w) (sentK os)) (lo : (SD == sysModules) = false)
    (hp : ∀ q ∈ pz os, q ∈ news) (hq : ∀ q ∈ qz w os, q ∈ news) (hol : os.length ≤ 1000)
    (h : ∀ FD oFD (fs : List (OZ × Addr)) h' tk', oFD.IsDictOf (intKind prog w) (rowK fs) → (FD == sysModules) = false → fs.map (·.1) = os → Fr h₀ L h' m → News h₀ L h' ((FD, oFD) :: (rowN fs ++ news)) → Q (.ref FD) { s with heap := h', toks := tk' }) :
    wpAny (model prog w) (AL 350) (call (.ref 210) [.ref X]) Q (fun _ _ => False) s := by
  refine enter (binds := [(Str.ofString "self", .ref X)]) (W := news) F N X₀ T (fun _ h => h) (by k_dflt k_is) (by k_dflt k_is) (by decide) (BindsTo.of_eq rfl) (locs rfl) ?_ rfl rfl rfl (by decide)
  intro g L' h₁ tk hg F' N' X' T'
  have fin : ∀ FD oFD (fs : List (OZ × Addr)) h' tk' m', oFD.IsDictOf (intKind prog w) (rowK fs) → (FD == sysModules) = false → fs.map (·.1) = os → Fr g L' h' m' → News g L' h' ((FD, oFD) :: (rowN fs ++ news)) → Q (.ref FD) { s with heap := h', toks := tk' } :=
    fun FD oFD fs h' tk' m' a1 a2 a3 F' N' => h FD oFD fs h' tk' a1 a2 a3 (backF F N (fun _ h => h) hg F') (backN F N (fun _ h => h) hg N')
  clear h N X₀ T F hg
  (try dsimp only)
  k_unmd
  k_fold
  k_steps
  refine Halt.mk ?_
  refine For_at g ?_
  k_steps
  obtain ⟨FD, oFD, F₂, N₂, hi2, lo2, l2⟩ : ∃ FD oFD, Fr g L' _ (fun y => if y = Str.ofString "found" then some (.ref FD) else [(Str.ofString "self", Value.ref X)].reverse.lookup y) ∧ News g L' _ ((FD, oFD) :: news) ∧ oFD.IsDictOf (intKind prog w) [] ∧ (FD == sysModules) = false ∧ (∀ p ∈ news, p.1 < FD) := ⟨_, _, by assumption, by assumption, by assumption, by assumption, by assumption⟩
  refine Halt.mk ?_
  have hnk := keysNodup_of_isDictOf hd
  refine iter_dict (knd := intKind prog w) rfl rfl rfl F₂ N₂ (.tail _ hSD) hd lo (fun i m nw => ∃ (fs : List (OZ × Addr)) (oF : Obj), m (Str.ofString "self") = some (.ref X) ∧ m (Str.ofString "found") = some (.ref FD) ∧ oF.IsDictOf (intKind prog w) (rowK fs) ∧ fs.map (·.1) = os.take i ∧ nw = (FD, oF) :: (rowN fs ++ news)) ?h0 ?turn ?done
  case h0 => exact ⟨[], oFD, rfl, rfl, hi2, rfl, rfl⟩
  case turn =>
    clear F₂ N₂ fin
    intro i k y v m₁ nw I oI h₁ tk₁ s' hi hkv hkn hJ _ off F₁ N₁ hs'
    obtain ⟨g', rfl⟩ := hs'
    obtain ⟨fs, oF, hsf, hfd, hdF, hfs, rfl⟩ := hJ
    obtain ⟨o, ho, hov⟩ := Option.map_eq_some_iff.mp (show (os[i]?).map (fun o : OZ => (o.n, Value.ref o.pa)) = _ by rw [← List.getElem?_map]; exact hkv)
    cases hov
    obtain ⟨tn, rfl⟩ := Value.isInt_shape hkn
    have hom := List.mem_of_getElem? ho
    have hpo := hp _ (pz_mem hom)
    have hqo := hq _ (qz_mem (w := w) hom)
    have hval : valueAt (sentK os) o.n = some (.ref o.pa) := valueAt_mem hnk (List.mem_map_of_mem (f := fun o : OZ => (o.n, Value.ref o.pa)) hom)
    have hnew : ∀ p ∈ rowK fs, p.1 ≠ o.n := row_new hnk ho hfs
    have hfl : fs.length = i := by
      have := congrArg List.length hfs
      rw [List.length_map, List.length_take] at this
      have hi' : i < os.length := by simpa [sentK] using hi
      omega
    have hrl : (rowK fs).length ≤ sizeLine := by
      have hi' : i < os.length := by simpa [sentK] using hi
      rw [rowK, List.length_map, sizeLine_eq]; omega
    have o1 : @Ne Nat FD I := off _ (.head _)
    have u1 : ∀ q ∈ rowN fs ++ news, @Ne Nat q.1 FD := fun q hq => (List.mem_append.mp hq).elim (fun h => ne_tag N₁ (.tail _ (.tail _ hq)) (.tail _ (.head _)) (tag_rowN h) (tag_dict hdF) (by decide)) (fun h => Nat.ne_of_lt (l2 _ h))
    have off2 : ∀ q ∈ rowN fs ++ news, @Ne Nat q.1 I := fun q hq => off q (.tail _ hq)
    have m1 : (X, instObj 220 XD) ∈ rowN fs ++ news := List.mem_append_right _ hX
    have m2 := List.mem_append_right (rowN fs) hXD
    have m3 : (SD, oSD) ∈ rowN fs ++ news := List.mem_append_right _ hSD
    have m4 : (o.pa, instObj 93 o.pd) ∈ rowN fs ++ news := List.mem_append_right _ hpo
    have m5 : (o.pd, pkO w o) ∈ rowN fs ++ news := List.mem_append_right _ hqo
    replace F₁ : Fr g L' h₁ (fun y => if y = Str.ofString "number" then some (.int o.n tn) else m₁ y) := F₁
    replace N₁ : News g L' h₁ ((I, oI) :: (FD, oF) :: (rowN fs ++ news)) := N₁
    clear off hX hXD hpo hqo hp hq
    generalize hTR : rowN fs ++ news = TR at N₁ u1 off2 m1 m2 m3 m4 m5
    k_unmd
    k_fold
    k_steps
    all_goals (try k_unfold)
    have D'ₓ := True.intro; have F'ₓ := True.intro; have FG'ₓ := True.intro; have L'ₓ := True.intro; have N'ₓ := True.intro; have T'ₓ := True.intro; have X'ₓ := True.intro; have g'ₓ := True.intro; have h'ₓ := True.intro; have hd'ₓ := True.intro; have hqₓ := True.intro; have hv0'ₓ := True.intro; have hv1'ₓ := True.intro; have l1ₓ := True.intro; have o'ₓ := True.intro; have oP'ₓ := True.intro; have qₓ := True.intro; have t'ₓ := True.intro; have tk'ₓ := True.intro; have v'ₓ := True.intro
    rename_i D9 _ l5 _ oF9 F9 N9 hd9
    clear D'ₓ F'ₓ FG'ₓ L'ₓ N'ₓ T'ₓ X'ₓ g'ₓ h'ₓ hd'ₓ hqₓ hv0'ₓ hv1'ₓ l1ₓ o'ₓ oP'ₓ qₓ t'ₓ tk'ₓ v'ₓ
    rw [stored_new hnew] at hd9
    subst hTR
    refine ForEnd.intro ((FD, oF9) :: (rowN (fs ++ [(o, D9)]) ++ news)) F9 N9 ?_ ?_ (.tail _ (List.mem_append_right _ hSD)) ⟨fs ++ [(o, D9)], oF9, hsf, hfd, ?_, ?_, rfl⟩
    · refine List.forall_mem_cons.mpr ⟨.tail _ (.head _), List.forall_mem_cons.mpr ⟨.tail _ (.tail _ (.head _)), fun q hq => ?_⟩⟩
      rw [rowN, List.map_append] at hq
      rcases List.mem_append.mp hq with hq | hq
      · rcases List.mem_append.mp hq with hq | hq
        · exact .tail _ (.tail _ (.tail _ (List.mem_append_left _ hq)))
        · rw [List.mem_singleton.mp hq]; exact .head _
      · exact .tail _ (.tail _ (.tail _ (List.mem_append_right _ hq)))
    · refine List.forall_mem_cons.mpr ⟨o1, fun q hq => ?_⟩
      rw [rowN, List.map_append] at hq
      rcases List.mem_append.mp hq with hq | hq
      · rcases List.mem_append.mp hq with hq | hq
        · exact off2 q (List.mem_append_left _ hq)
        · rw [List.mem_singleton.mp hq]; exact Ne.symm (ne_new l5 (.head _))
      · exact off2 q (List.mem_append_right _ hq)
    · rw [rowK, List.map_append]; exact hd9
    · rw [List.map_append, hfs, List.take_add_one, ho]; rfl
  case done =>
    clear F₂ N₂
    intro m₁ nw h₅ tk₅ hJ _ F₅ N₅
    obtain ⟨fs, oF, hsf, hfd, hdF, hfs, rfl⟩ := hJ
    have hln : (sentK os).length = os.length := by simp [sentK]
    rw [hln, List.take_length] at hfs
    dsimp only
    k_unmd
    try k_fold
    k_steps
    exact fin FD oF fs _ _ _ hdF lo2 hfs F₅ N₅
end

-- needs: srt rows
section
theorem valueAt_none {K : Type} [DecidableEq K] {kvs : List (K × Value)} {k : K} (h : ∀ p ∈ kvs, p.1 ≠ k) : valueAt kvs k = none := by
  unfold valueAt
  rw [List.find?_eq_none.mpr (fun p hp => by simpa using h p hp)]
  rfl
theorem off1_all {D : Addr} : ∀ {l : List (Addr × Obj)}, LCg.Off1 D l → ∀ q ∈ l, @Ne Nat q.1 D
  | [], _, _, h => nomatch h
  | _ :: _, h, q, hq => by
    rcases List.mem_cons.mp hq with rfl | hq
    · exact h.1
    · exact off1_all h.2 q hq
/-- what is still out when some were taken -/
noncomputable def lessO (os : List OZ) (ns : List Int) : List OZ := os.filter fun o => !(ns.contains o.n)
theorem lessO_without {os : List OZ} {ns : List Int} {x : Int} : without (sentK (lessO os ns)) x = sentK (lessO os (ns ++ [x])) := by
  unfold without sentK lessO
  rw [List.filter_map, List.filter_filter]
  congr 1
  refine List.filter_congr fun o _ => ?_
  simp only [Function.comp_def, List.contains_append, Bool.not_or, List.contains_cons, List.contains_nil, Bool.or_false]
  by_cases h : o.n = x <;> simp [h]
theorem lessO_same {os : List OZ} {ns : List Int} {x : Int} (h : ∀ o ∈ lessO os ns, o.n ≠ x) : lessO os (ns ++ [x]) = lessO os ns := by
  refine List.filter_congr fun o ho => ?_
  by_cases hc : ns.contains o.n = true
  · rw [hc, List.contains_append, hc]; rfl
  · have hx : o.n ≠ x := h o (List.mem_filter.mpr ⟨ho, by simpa using hc⟩)
    rw [List.contains_append]
    simp [hx]
theorem lessO_in {os : List OZ} {ns : List Int} {x : Int} (hx : x ∉ ns) : (∃ o ∈ lessO os ns, o.n = x) ↔ (os.any fun o => o.n == x) = true := by
  rw [List.any_eq_true]
  constructor
  · rintro ⟨o, ho, e⟩
    exact ⟨o, (List.mem_filter.mp ho).1, beq_iff_eq.mpr e⟩
  · rintro ⟨o, ho, e⟩
    refine ⟨o, List.mem_filter.mpr ⟨ho, ?_⟩, beq_iff_eq.mp e⟩
    rw [beq_iff_eq.mp e]
    simpa using hx
theorem take_nin {l : List Int} {i : Nat} {a : Int} (hn : l.Nodup) (h : l[i]? = some a) : a ∉ l.take i := by
  intro hm
  obtain ⟨j, hj, e⟩ := List.getElem_of_mem hm
  rw [List.length_take] at hj
  rw [List.getElem_take] at e
  obtain ⟨hi, e2⟩ := List.getElem?_eq_some_iff.mp h
  exact (List.pairwise_iff_getElem.mp hn) j i (by omega) hi (by omega) (e.trans e2.symm)
end
section
variable {prog : Program} {w : World} {A : Around} {E : Value → Shared → Prop} {s : Shared} {h₀ : Heap} {L : Addr} {m mg mb : Str → Option Value}
  {p : Program} {loose : List Str} {mean : ExcName → Option Value} {Q : Value → Shared → Prop} {news : List (Addr × Obj)}
theorem words_take_1 : True := by
  k_with_none
  k_with "k_enter" => (refine' code_defM ?k1ₓ ?k2ₓ ?k3ₓ ?k5ₓ ?k6ₓ ?k7ₓ ?k8ₓ ?k9ₓ ?kBₓ ?_ ?c2ₓ ?c3ₓ ?c4ₓ ?c5ₓ; (case k1ₓ => k_asm); (case k2ₓ => k_asm); (case k3ₓ => k_asm); (case k5ₓ => k_asm); (case k6ₓ => k_is); (case k7ₓ => k_is); (case k8ₓ => exact Nat.le_of_ble_eq_true rfl); (case k9ₓ => exact rfl); (case c5ₓ => decide); (case kBₓ => exact locs rfl); (case c2ₓ => exact rfl); (case c3ₓ => exact rfl); (case c4ₓ => exact rfl); k_whole; intro g'ₓ L'ₓ h'ₓ FG'ₓ F'ₓ N'ₓ X'ₓ T'ₓ; (try dsimp only [List.map, List.zip, List.zipWith] at F'ₓ); (try dsimp only); (try k_fold))
  k_with "k_mem" => first | with_reducible assumption | with_reducible exact List.mem_cons_self | (with_reducible apply List.mem_cons_of_mem; k_mem)
  k_with "k_all" => first | assumption | exact allLt_off (by assumption)
  k_with "size_fits" => first | assumption | (simp only [Array.size_push, List.size_toArray, List.length_append, List.length_cons, List.length_nil, vz_length, PySem.sizeLine_eq]; omega)
  k_with "binaryOp Add ref ref" => (k_here; (with_reducible show wpAny _ _ (binaryOp _ (Value.ref _) (Value.ref _)) _ _ _); k_dflt (refine' addL ?Fₓ ?Nₓ ?aₓ ?bₓ ?zₓ ?_; (case Fₓ => k_asm); (case Nₓ => k_asm); (case aₓ => k_mem); (case bₓ => k_mem); (case zₓ => (simp only [List.length_cons, List.length_nil, vz_length, sizeLine_eq]; omega))); intro D'ₓ h'ₓ F'ₓ N'ₓ l1ₓ; (try k_lt l1ₓ); (try k_sweep))
  k_with "k_sub" => ((try simp only [List.cons_append, List.nil_append]); (repeat ((with_reducible refine List.forall_mem_cons.mpr ⟨?_, ?_⟩); (next => (first | ((repeat (first | with_reducible exact List.mem_cons_self | with_reducible apply List.mem_cons_of_mem)); done) | (repeat (first | exact List.mem_cons_self | apply List.mem_cons_of_mem)))))); intro qₓ hqₓ; first | with_reducible exact absurd hqₓ List.not_mem_nil | (repeat (first | with_reducible exact hqₓ | with_reducible exact List.mem_append_left _ hqₓ | with_reducible exact List.mem_append_right _ hqₓ | with_reducible apply List.mem_cons_of_mem)))
  k_with "SrcLP" => (k_here; k_dflt (refine LCp.SrcLP.ledger (by rfl) (by k_asm) (by k_asm) (by k_mem) (by size_fits) ?_); intro g'ₓ; refine Halt.out ?_)
  k_with "CompSrc" => (k_here; k_dflt (refine LCg.CompSrc.ledger (by rfl) (by k_asm) (by k_asm) (by k_mem) (by size_fits) ?_); intro g'ₓ; refine Halt.out ?_)
  k_with "CompSrcT" => (k_here; k_dflt (refine LCt.CompSrcT.ledger (by rfl) (by k_asm) (by k_asm) (by k_mem) (by size_fits) ?_); intro g'ₓ; refine Halt.out ?_)
  k_with "CompEnd" => (refine Halt.out ?_)
  k_with "lsm_bools" => assumption
  k_with "eval Name" => (k_here; k_dflt (refine' nameX_L ?Fₓ ?vₓ ?_ ?aₓ ?bₓ; (case Fₓ => k_asm); (case aₓ => rfl); (case bₓ => rfl); (case vₓ => first | exact rfl | assumption); k_whole))
  k_with "eval Name" => (k_here; (with_reducible show wpAny _ _ (eval (Expr.Name _ _) (envOf _ _ _ _ _)) _ _ _); k_dflt (refine' ld ?k1ₓ ?k2ₓ ?_; (case k1ₓ => k_asm); (case k2ₓ => first | exact rfl | assumption); k_whole))
  k_with "k_ne" => (first | assumption | (apply Ne.symm; assumption) | exact Nat.ne_of_lt (by assumption) | exact Nat.ne_of_gt (by assumption))
  k_with "call builtin:len" => (k_here; (with_reducible show wpAny _ _ (call (Value.builtin "len") [Value.ref _]) _ _ _); k_dflt (refine' lenL ?Nₓ ?aₓ ?zₓ ?_; (case Nₓ => k_asm); (case aₓ => k_mem); (case zₓ => (simp only [vz_length]; omega))); (try simp only [vz_length]))
  k_with "setItem ref int" => (k_here; k_dflt (refine' kda_set (knd := PySem.intKind _ _) ?Fₓ ?Nₓ ?Uₓ ?dₓ (intKind_is _ _ _ _) ?zₓ ?_; (case Fₓ => k_asm); (case Nₓ => k_asm); (case Uₓ => k_updF); (case dₓ => assumption); (case zₓ => assumption)); intro h'ₓ o'ₓ F'ₓ N'ₓ hd'ₓ; (try k_sweep))
  k_with "call ref" => (k_here; (with_reducible show wpAny _ _ (call (Value.ref 238) _) _ _ _); k_dflt (refine' to_AL rfl ?dₓ ?uₓ (draw_at ?Fₓ ?Nₓ ?Xₓ ?Tₓ ?Uₓ ?oₓ ?hPₓ ?hSₓ ?hiₓ ?hlₓ ?psₓ ?hmₓ ?_); (case dₓ => exact Nat.le_of_ble_eq_true rfl); (case uₓ => exact Nat.le_of_ble_eq_true rfl); (case Fₓ => k_asm); (case Nₓ => k_asm); (case Xₓ => k_asm); (case Tₓ => k_asm); (case Uₓ => k_updF); (case oₓ => assumption); (case hPₓ => k_mem); (case hSₓ => k_mem); (case hiₓ => assumption); (case hlₓ => assumption); (case psₓ => k_ne); (case hmₓ => first | decide | assumption)); intro v'ₓ t'ₓ o'ₓ h'ₓ tk'ₓ hv0'ₓ hv1'ₓ oP'ₓ F'ₓ N'ₓ; (try dsimp only at N'ₓ); (try k_sweep))
  k_with "call ref" => (k_here; (with_reducible show wpAny _ _ (call (Value.ref 53) _) _ _ _); k_dflt (refine' to_AL rfl ?dₓ ?uₓ (add_at ?Fₓ ?Nₓ ?Xₓ ?Tₓ ?hLₓ ?hzₓ ?hlenₓ ?_); (case dₓ => exact Nat.le_of_ble_eq_true rfl); (case uₓ => exact Nat.le_of_ble_eq_true rfl); (case Fₓ => k_asm); (case Nₓ => k_asm); (case Xₓ => k_asm); (case Tₓ => k_asm); (case hLₓ => k_mem); (case hzₓ => k_sub); (case hlenₓ => first | assumption | omega)); intro RL' z' rs' k' h' tk' F' N' n1' n2' n3' er' es' el'; (repeat (replace n1' := List.forall_mem_cons.mp n1'; (have hn' := And.left n1'); replace n1' := And.right n1'; try dsimp only at hn')); (repeat (replace n2' := List.forall_mem_cons.mp n2'; (have hn' := And.left n2'); replace n2' := And.right n2'; try dsimp only at hn')); (try dsimp only at n3'); (try k_sweep))
  k_with "call ref" => (k_here; (with_reducible show wpAny _ _ (call (Value.ref 58) _) _ _ _); k_dflt (refine' to_AL rfl ?dₓ ?uₓ (has_at ?Fₓ ?Nₓ ?Xₓ ?Tₓ ?hLₓ ?hzₓ ?hlenₓ ?_); (case dₓ => exact Nat.le_of_ble_eq_true rfl); (case uₓ => exact Nat.le_of_ble_eq_true rfl); (case Fₓ => k_asm); (case Nₓ => k_asm); (case Xₓ => k_asm); (case Tₓ => k_asm); (case hLₓ => k_mem); (case hzₓ => k_sub); (case hlenₓ => first | assumption | omega)); intro h'ₓ tk'ₓ F'ₓ N'ₓ; (try k_sweep))
  k_with "call ref" => (k_here; (with_reducible show wpAny _ _ (call (Value.ref 41) _) _ _ _); k_dflt (refine' to_AL rfl ?dₓ ?uₓ (anyel_at ?Fₓ ?Nₓ ?Xₓ ?Tₓ ?hLₓ ?hzₓ ?oₓ ?hlₓ ?_); (case dₓ => exact Nat.le_of_ble_eq_true rfl); (case uₓ => exact Nat.le_of_ble_eq_true rfl); (case Fₓ => k_asm); (case Nₓ => k_asm); (case Xₓ => k_asm); (case Tₓ => k_asm); (case hLₓ => k_mem); (case hzₓ => (intro qₓ hqₓ; first | (refine mem_in ((‹∀ qₓ ∈ tf _, qₓ ∈ _›) qₓ hqₓ) ?_; first | exact ⟨1, rfl⟩ | exact ⟨2, rfl⟩ | exact ⟨3, rfl⟩ | exact ⟨4, rfl⟩ | exact ⟨5, rfl⟩ | exact ⟨6, rfl⟩ | exact ⟨7, rfl⟩ | exact ⟨8, rfl⟩ | exact ⟨9, rfl⟩ | exact ⟨10, rfl⟩ | exact ⟨11, rfl⟩ | exact ⟨12, rfl⟩ | exact ⟨13, rfl⟩ | exact ⟨14, rfl⟩ | exact ⟨15, rfl⟩) | (repeat (first | with_reducible exact (‹∀ qₓ ∈ tf _, qₓ ∈ _›) qₓ hqₓ | with_reducible apply List.mem_cons_of_mem)))); (case oₓ => assumption); (case hlₓ => assumption)); intro h'ₓ tk'ₓ F'ₓ N'ₓ; (try k_sweep))
  k_with "call ref" => (k_here; (with_reducible show wpAny _ _ (call (Value.ref 46) _) _ _ _); k_dflt (refine' to_AL rfl ?dₓ ?uₓ (anyfl_at ?Fₓ ?Nₓ ?Xₓ ?Tₓ ?hLₓ ?hzₓ ?oₓ ?hlₓ ?_); (case dₓ => exact Nat.le_of_ble_eq_true rfl); (case uₓ => exact Nat.le_of_ble_eq_true rfl); (case Fₓ => k_asm); (case Nₓ => k_asm); (case Xₓ => k_asm); (case Tₓ => k_asm); (case hLₓ => k_mem); (case hzₓ => (intro qₓ hqₓ; first | (refine mem_in ((‹∀ qₓ ∈ tf _, qₓ ∈ _›) qₓ hqₓ) ?_; first | exact ⟨1, rfl⟩ | exact ⟨2, rfl⟩ | exact ⟨3, rfl⟩ | exact ⟨4, rfl⟩ | exact ⟨5, rfl⟩ | exact ⟨6, rfl⟩ | exact ⟨7, rfl⟩ | exact ⟨8, rfl⟩ | exact ⟨9, rfl⟩ | exact ⟨10, rfl⟩ | exact ⟨11, rfl⟩ | exact ⟨12, rfl⟩ | exact ⟨13, rfl⟩ | exact ⟨14, rfl⟩ | exact ⟨15, rfl⟩) | (repeat (first | with_reducible exact (‹∀ qₓ ∈ tf _, qₓ ∈ _›) qₓ hqₓ | with_reducible apply List.mem_cons_of_mem)))); (case oₓ => assumption); (case hlₓ => assumption)); intro h'ₓ tk'ₓ F'ₓ N'ₓ; (try k_sweep))
  k_with "call ref" => (k_here; (with_reducible show wpAny _ _ (call (Value.ref 203) _) _ _ _); k_dflt (refine' to_AL rfl ?dₓ ?uₓ (octs_at ?Fₓ ?Nₓ ?Xₓ ?Tₓ ?h1ₓ ?h2ₓ ?h3ₓ ?h4ₓ ?h5ₓ ?h6ₓ ?h7ₓ ?h8ₓ ?_); (case dₓ => exact Nat.le_of_ble_eq_true rfl); (case uₓ => exact Nat.le_of_ble_eq_true rfl); (case Fₓ => k_asm); (case Nₓ => k_asm); (case Xₓ => k_asm); (case Tₓ => k_asm); (case h1ₓ => k_mem); (case h2ₓ => k_mem); (case h3ₓ => k_mem); (case h4ₓ => assumption); (case h5ₓ => assumption); (case h6ₓ => first | assumption | exact fun q hq => .tail _ ((‹∀ q ∈ pz _, q ∈ _›) q hq) | exact fun q hq => .tail _ (.tail _ ((‹∀ q ∈ pz _, q ∈ _›) q hq))); (case h7ₓ => first | assumption | exact fun q hq => .tail _ ((‹∀ q ∈ qz _ _, q ∈ _›) q hq) | exact fun q hq => .tail _ (.tail _ ((‹∀ q ∈ qz _ _, q ∈ _›) q hq))); (case h8ₓ => assumption)); intro h'ₓ tk'ₓ t'ₓ F'ₓ N'ₓ)
  k_with "call ref" => (k_here; (with_reducible show wpAny _ _ (call (Value.ref 198) _) _ _ _); k_dflt (refine' to_AL rfl ?dₓ ?uₓ (elic_at ?Fₓ ?Nₓ ?Xₓ ?Tₓ ?h1ₓ ?h2ₓ ?h3ₓ ?h4ₓ ?h5ₓ ?h6ₓ ?h7ₓ ?h8ₓ ?_); (case dₓ => exact Nat.le_of_ble_eq_true rfl); (case uₓ => exact Nat.le_of_ble_eq_true rfl); (case Fₓ => k_asm); (case Nₓ => k_asm); (case Xₓ => k_asm); (case Tₓ => k_asm); (case h1ₓ => k_mem); (case h2ₓ => k_mem); (case h3ₓ => k_mem); (case h4ₓ => assumption); (case h5ₓ => assumption); (case h6ₓ => first | assumption | exact fun q hq => .tail _ ((‹∀ q ∈ pz _, q ∈ _›) q hq) | exact fun q hq => .tail _ (.tail _ ((‹∀ q ∈ pz _, q ∈ _›) q hq))); (case h7ₓ => first | assumption | exact fun q hq => .tail _ ((‹∀ q ∈ qz _ _, q ∈ _›) q hq) | exact fun q hq => .tail _ (.tail _ ((‹∀ q ∈ qz _ _, q ∈ _›) q hq))); (case h8ₓ => assumption)); intro h'ₓ tk'ₓ F'ₓ N'ₓ)
  k_with "call ref" => (k_here; (with_reducible show wpAny _ _ (call (Value.ref 210) _) _ _ _); k_dflt (refine' to_AL rfl ?dₓ ?uₓ (rows_at ?Fₓ ?Nₓ ?Xₓ ?Tₓ ?h1ₓ ?h2ₓ ?h3ₓ ?h4ₓ ?h5ₓ ?h6ₓ ?h7ₓ ?h8ₓ ?_); (case dₓ => exact Nat.le_of_ble_eq_true rfl); (case uₓ => exact Nat.le_of_ble_eq_true rfl); (case Fₓ => k_asm); (case Nₓ => k_asm); (case Xₓ => k_asm); (case Tₓ => k_asm); (case h1ₓ => k_mem); (case h2ₓ => k_mem); (case h3ₓ => k_mem); (case h4ₓ => assumption); (case h5ₓ => assumption); (case h6ₓ => first | assumption | exact fun q hq => .tail _ ((‹∀ q ∈ pz _, q ∈ _›) q hq) | exact fun q hq => .tail _ (.tail _ ((‹∀ q ∈ pz _, q ∈ _›) q hq))); (case h7ₓ => first | assumption | exact fun q hq => .tail _ ((‹∀ q ∈ qz _ _, q ∈ _›) q hq) | exact fun q hq => .tail _ (.tail _ ((‹∀ q ∈ qz _ _, q ∈ _›) q hq))); (case h8ₓ => assumption)); intro FD'ₓ oFD'ₓ fs'ₓ h'ₓ tk'ₓ hFD'ₓ lFD'ₓ eFD'ₓ F'ₓ N'ₓ; have N2'ₓ := newsSub N'ₓ rows_sub2)
  k_with "k_lt_off" => skip
  k_with "k_ne" => (first | assumption | (apply Ne.symm; assumption) | exact ne_new (by assumption) (by k_mem) | exact Ne.symm (ne_new (by assumption) (by k_mem)))
  k_with "k_all" => first | assumption | (refine all_new (by assumption) ?_; intro qₓ hqₓ; repeat (first | with_reducible exact hqₓ | with_reducible apply List.mem_cons_of_mem))
  k_with "newTuple" => (k_here; k_dflt (refine' kup_newTuple ?Fₓ ?Nₓ ?_ ?zₓ; (case Fₓ => k_asm); (case Nₓ => k_asm); (case zₓ => kmk_size)); intro D'ₓ h'ₓ F'ₓ N'ₓ l1ₓ; (try k_sweep))
  k_with "exec Assign cons ListComp" => (refine Halt.out ?_)
  k_with "eval ListComp" => (refine Halt.out ?_)
  k_with "pyIter_ref" => (refine Halt.out ?_)
  k_with "call builtin:sorted" => (refine Halt.out ?_)
  k_with "getMethod ref" => (k_here; (with_reducible show wpAny _ _ (getMethod (Value.ref _) (Str.ofString "pop") _) _ _ _); k_dflt (refine' kdl_method (knd := PySem.intKind _ _) PySem.F.slot_dict_pop PySem.F.type_dict_pop ?Nₓ ?pₓ ?dₓ ?_; (case Nₓ => k_asm); (case pₓ => k_mem); (case dₓ => assumption)))
  k_with "call builtin:dict.pop" => (refine Halt.out ?_)
  k_with "compareOp In int ref" => (k_here; k_dflt (refine' kda_in (knd := PySem.intKind _ _) ?Nₓ ?pₓ ?dₓ ?lₓ (intKind_is _ _ _ _) _ ?bₓ ?_; (case Nₓ => k_asm); (case pₓ => k_mem); (case dₓ => assumption); (case lₓ => assumption); (case bₓ => assumption)))
  trivial
theorem take_at {X XD SD NL : Addr} {oSD : Obj} {os : List OZ} {kx : Nat → Tok} {vs : List Value} {ns : List Int} {kn : Nat} {vName vNext vLA vAK vLET vLT vRec vLS vLTm vFU vUn vWN vHN vECN vGone : Value} {gg : Obj → List (Addr × Obj)}
    (F : Fr h₀ L s.heap m) (N : News h₀ L s.heap news) (X₀ : (heap w.params).In h₀) (T : Top p loose mean mg mb h₀)
    (hX : (X, instObj 220 XD) ∈ news) (hXD : (XD, xdO w kx vName vNext (.ref SD) vLA vAK vLET vLT vRec vLS vLTm vFU vUn vWN vHN vECN vGone) ∈ news) (hSD : (SD, oSD) ∈ news) (U : UpdF SD oSD news gg) (hd : oSD.IsDictOf (intKind prog w) (sentK os)) (lo : (SD == sysModules) = false) (hol : os.length < 64)
    (hNL : (NL, listOf vs.toArray kn) ∈ news) (hi : IntsAre vs ns) (hl : ns.length < 64) (hnd : ns.Nodup) (nX : @Ne Nat X SD) (nXD : @Ne Nat XD SD) (nNL : @Ne Nat NL SD)
    (h : ∀ D oS (ps : List OZ) c ms h' tk', oS.IsDictOf (intKind prog w) (sentK (lessO os ms)) → ms.Perm ns → ms.Pairwise (· ≤ ·) → (ps.map fun o => o.n) = ms.filter (fun x => os.any fun o => o.n == x) → (∀ o ∈ ps, o ∈ os) →
      Fr h₀ L h' m → News h₀ L h' ((D, listOf (ps.map fun o => Value.ref o.pa).toArray c) :: gg oS) → (∀ q ∈ news, @Ne Nat q.1 D) → Q (.ref D) { s with heap := h', toks := tk' }) :
    wpAny (model prog w) (AL 340) (call (.ref 165) [.ref X, .ref NL]) Q (fun _ _ => False) s := by
  obtain ⟨oX, hoX⟩ : ∃ o, o = instObj 220 XD := ⟨_, rfl⟩
  obtain ⟨R4, hR4⟩ : ∃ R4, R4 = [(X, instObj 220 XD), (XD, xdO w kx vName vNext (.ref SD) vLA vAK vLET vLT vRec vLS vLTm vFU vUn vWN vHN vECN vGone), (NL, listOf vs.toArray kn)] := ⟨_, rfl⟩
  have m1 : (X, instObj 220 XD) ∈ R4 := hR4 ▸ .head _
  have m2 : (XD, xdO w kx vName vNext (.ref SD) vLA vAK vLET vLT vRec vLS vLTm vFU vUn vWN vHN vECN vGone) ∈ R4 := hR4 ▸ .tail _ (.head _)
  have m3 : (NL, listOf vs.toArray kn) ∈ R4 := hR4 ▸ .tail _ (.tail _ (.head _))
  have mS : ∀ q ∈ R4, @Ne Nat q.1 SD := hR4 ▸ List.forall_mem_cons.mpr ⟨nX, List.forall_mem_cons.mpr ⟨nXD, List.forall_mem_cons.mpr ⟨nNL, fun _ h => nomatch h⟩⟩⟩
  have hW : ∀ q ∈ (SD, oSD) :: R4, q ∈ news := hR4 ▸ List.forall_mem_cons.mpr ⟨hSD, List.forall_mem_cons.mpr ⟨hX, List.forall_mem_cons.mpr ⟨hXD, List.forall_mem_cons.mpr ⟨hNL, fun _ h => nomatch h⟩⟩⟩⟩
  refine enterC (binds := [(Str.ofString "self", .ref X), (Str.ofString "numbers", .ref NL)]) (W := (SD, oSD) :: R4) F N X₀ T hW (by k_dflt k_is) (by k_dflt k_is) (by decide) (BindsTo.of_eq rfl) rfl (by decide +kernel) ?_ rfl rfl rfl
  intro g L' h₁ tk cells hg F' N' Y l1 X' T'
  have fin : ∀ D oS (ps : List OZ) c ms h' tk' m', oS.IsDictOf (intKind prog w) (sentK (lessO os ms)) → ms.Perm ns → ms.Pairwise (· ≤ ·) → (ps.map fun o => o.n) = ms.filter (fun x => os.any fun o => o.n == x) → (∀ o ∈ ps, o ∈ os) →
      Fr g L' h' m' → News g L' h' ((D, listOf (ps.map fun o => Value.ref o.pa).toArray c) :: (SD, oS) :: R4) → (∀ q ∈ (SD, oSD) :: R4, @Ne Nat q.1 D) → Q (.ref D) { s with heap := h', toks := tk' } :=
    fun D oS ps c ms h' tk' m' a1 a2 a3 a4 a5 F' N' hn => h D oS ps c ms h' tk' a1 a2 a3 a4 a5 (backF F N hW hg F')
      (List.forall_mem_cons.mpr ⟨backN F N hW hg N' _ (.head _), back1 F N U hW hg F' (newsSub N' fun q hq => .tail _ hq)⟩) (backNe N hg N' (.head _) hn)
  have lS : @LT.lt Nat _ SD L' := l1 _ (.head _)
  clear h hW hX hXD hSD hNL N X₀ T F hg l1 U hR4
  k_cells Y
  (try simp only [List.cons_append, List.nil_append] at N')
  rename Obj => oc
  have hoc : oc.data = .cell (some (.ref X)) := by assumption
  have FF : Fr g L' h₁ (fun y => if y = Str.ofString "numbers" then some (.ref NL) else none) := F'
  clear F'
  (try dsimp only)
  k_unmd
  k_fold
  k_steps
  refine Halt.mk (LCt.Assign_ListComp_T (h₀ := g) (L := L') (cl := [(Str.ofString "self", L' + 1)]) FF rfl (by with_unfolding_all rfl) rfl (by decide) rfl (by decide) rfl rfl rfl ?_)
  k_steps
  refine Halt.mk (kso_sorted FF N' ⟨_, (N' _ (.tail _ (.tail _ m3))).1, rfl, _, rfl⟩ hi hl ?_)
  intro D0 vs' ms c0 h2 F2 N2 l2 i2 _ p2 o2 _
  have nD0 : @Ne Nat D0 SD := Nat.ne_of_gt (l2 (SD, oSD) (.tail _ (.head _)))
  have nC0 : @Ne Nat (L' + 1) SD := Nat.ne_of_gt (Nat.lt_succ_of_lt lS)
  have hmd : ms.Nodup := p2.nodup_iff.mpr hnd
  have hml : ms.length < 64 := by rw [p2.length_eq]; exact hl
  clear FF N' hi l2
  have hvl : vs'.length < 64 := by rw [i2.length]; exact hml
  k_steps
  refine Halt.mk (invT (fun i ys nw => ∃ oS ps, nw = (D0, listOf vs'.toArray c0) :: (L' + 1, oc) :: (SD, oS) :: R4 ∧ oS.IsDictOf (intKind prog w) (sentK (lessO os (ms.take i))) ∧ ys = ps.map (fun o : OZ => Value.ref o.pa) ∧ (ps.map fun o => o.n) = (ms.take i).filter (fun x => os.any fun o => o.n == x) ∧ ∀ o ∈ ps, o ∈ os) ⟨oSD, [], rfl, ?_, rfl, rfl, fun _ h => nomatch h⟩ ?turn ?done)
  · have e : lessO os (ms.take 0) = os := by
      unfold lessO
      rw [List.take_zero, List.filter_eq_self]
      intro o _
      rfl
    rw [e]; exact hd
  case turn =>
    intro i ys nw v I oI C oC D m₂ h tk E' hi2 hJ hv hC hx F₃ N₃ off ne
    obtain ⟨oS, ps, rfl, hdS, rfl, hps, hpo⟩ := hJ
    have hj : i < ms.length := by rw [← i2.length]; simpa using hi2
    obtain ⟨t8, hv8⟩ := i2.get i (ms[i]) (List.getElem?_eq_getElem hj)
    obtain rfl : v = .int (ms[i]) t8 := by
      have h1 : vs'[i]? = some v := by simpa using hv
      rw [hv8] at h1
      exact (Option.some.inj h1).symm
    have hmn : ms[i]? = some (ms[i]) := List.getElem?_eq_getElem hj
    generalize ms[i] = one at hmn hx
    have hnin := take_nin hmd hmn
    have htk : ms.take (i + 1) = ms.take i ++ [one] := by rw [List.take_add_one, hmn]; rfl
    clear F2 N2 fin hv hv8 hj hi2
    by_cases hin : ∃ o ∈ lessO os (ms.take i), o.n = one
    · obtain ⟨o, ho, hon⟩ := hin
      have hval : valueAt (sentK (lessO os (ms.take i))) one = some (.ref o.pa) := valueAt_mem (keysNodup_of_isDictOf hdS) (hon ▸ List.mem_map_of_mem (f := fun o : OZ => (o.n, Value.ref o.pa)) ho)
      have hval2 : (valueAt (sentK (lessO os (ms.take i))) one).isSome = true := by rw [hval]; rfl
      (try dsimp only)
      k_unmd
      k_fold
      k_steps
      have nI : @Ne Nat I SD := Ne.symm ((off3_sym off).1 (SD, oS) (.tail _ (.tail _ (.head _))))
      have nC : @Ne Nat C SD := Ne.symm ((off3_sym off).2.1 (SD, oS) (.tail _ (.tail _ (.head _))))
      have nD : @Ne Nat D SD := Ne.symm ((off3_sym off).2.2 (SD, oS) (.tail _ (.tail _ (.head _))))
      have hzl : (sentK (lessO os (ms.take i))).length ≤ sizeLine := by
        rw [sizeLine_eq, sentK, List.length_map]
        exact Nat.le_trans (List.length_filter_le _ _) (by omega)
      refine Halt.mk (kob_pop (knd := intKind prog w) (more := []) F₃ N₃ (UpdF.tail nI (UpdF.tail nC (UpdF.tail nD (UpdF.tail nD0 (UpdF.tail nC0 (UpdF.head mS)))))) hdS (intKind_is _ _ _ _) (.inl rfl) (by rfl) (PySem.F.args_dict_pop_2 _ _) hval hzl ?_)
      intro h4 o4 F4 N4 hd4
      clear F₃ N₃
      k_steps
      refine ⟨LCg.CompEnd.intro F4 N4 ((D0, listOf vs'.toArray c0) :: (L' + 1, oc) :: (SD, o4) :: R4) (fun _ h => h) off (.inr ⟨_, .head _, rfl, _, rfl⟩) ⟨o4, ps ++ [o], rfl, ?_, ?_, ?_, ?_⟩⟩
      · rw [htk, ← lessO_without]; exact hd4
      · simp
      · rw [htk, List.filter_append, List.map_append, hps]
        have := (lessO_in hnin).mp ⟨o, ho, hon⟩
        simp [hon, this]
      · intro q hq
        rcases List.mem_append.mp hq with hq | hq
        · exact hpo q hq
        · rw [List.mem_singleton.mp hq]; exact (List.mem_filter.mp ho).1
    · have hval2 : (valueAt (sentK (lessO os (ms.take i))) one).isSome = false := by
        rw [valueAt_none]
        · rfl
        · intro p hp
          obtain ⟨o, ho, rfl⟩ := List.mem_map.mp hp
          exact fun e => hin ⟨o, ho, e⟩
      (try dsimp only)
      k_unmd
      k_fold
      k_steps
      refine ⟨LCg.CompEnd.intro (by assumption) (by assumption) ((D0, listOf vs'.toArray c0) :: (L' + 1, oc) :: (SD, oS) :: R4) (fun _ h => h) off (.inr ⟨_, .head _, rfl, _, rfl⟩) ⟨oS, ps, rfl, ?_, rfl, ?_, hpo⟩⟩
      · rw [htk, lessO_same fun o ho e => hin ⟨o, ho, e⟩]; exact hdS
      · rw [htk, List.filter_append, hps]
        have : (os.any fun o => o.n == one) = false := by
          cases hb : os.any fun o => o.n == one with
          | false => rfl
          | true => exact absurd ((lessO_in hnin).mpr hb) hin
        simp [this]
  case done =>
    intro ys nw hJ
    obtain ⟨oS, ps, rfl, hdS, rfl, hps, hpo⟩ := hJ
    intro D h' tk' F₃ N₃ o1
    rw [List.size_toArray, i2.length, List.take_length] at hps hdS
    clear F2 N2
    k_unmd
    try k_fold
    k_steps
    exact fin _ _ _ _ _ _ _ _ hdS p2 o2 hps hpo (by assumption) (newsSub (by assumption) (List.forall_mem_cons.mpr ⟨.head _, fun q hq => .tail _ (.tail _ (.tail _ hq))⟩)) (off1_all (l := (SD, oSD) :: R4) o1.2.2)
end

-- needs: rows
section
variable {prog : Program} {w : World} {A : Around} {E : Value → Shared → Prop} {s : Shared} {h₀ : Heap} {L : Addr} {m : Str → Option Value} {Q : Value → Shared → Prop} {news : List (Addr × Obj)}
theorem oi_handed {v : Value} {x : Option Int} (h : OI v x) : handedIn v = true := by
  cases x with
  | none => cases h; rfl
  | some n => obtain ⟨t, rfl⟩ := h; rfl
theorem int_same {a : Around} {s : Shared} {n : Int} {t u : Tok} : SeqAt.EqAt a s (.int n t) (.int n u) true := by
  have := keq_flat (A := a) (s := s) (PyProof.V.Flat.int n t) (PyProof.V.Flat.int n u)
  have e : PyData.eqv (.int n) (.int n) = true := by simp [PyData.eqv]
  rw [e] at this
  exact this
theorem oi_ne {v u : Value} {x : Option Int} (hv : OI v x) (hu : OI u x) (h : Q (.bool false) s) : wpAny (model prog w) A (compareOp .NotEq v u) Q E s := by
  cases x with
  | none => cases hv; cases hu; exact EqNone.ne_none_none h
  | some n =>
    obtain ⟨t, rfl⟩ := hv
    obtain ⟨t', rfl⟩ := hu
    exact IsLeap.wpAny_ne_int (by rw [bne_self_eq_false]; exact h)
/-- two rows alike -/
theorem row_eq {a : Around} {s : Shared} {o : OZ} {x y : Addr} (hx : s.heap.get? x = some (row2 o)) (hy : s.heap.get? y = some (rowO o)) (hu : a.units < cLine) : SeqAt.EqAt a s (.ref x) (.ref y) true := by
  by_cases e : x = y
  · subst e; exact SeqAt.EqAt.same _
  · refine SeqAt.EqAt.of_refs e ?_
    have := SeqAt.RcAt.tuples (e := fun _ => true) (items := #[.int o.tm (o.k 7), .int o.sz (o.k 8), .bool o.ak, .bool o.ct]) (items2 := #[.int o.tm (o.k 9), .int o.sz (o.k 10), .bool o.ak, .bool o.ct]) ⟨_, hx, rfl, _, rfl⟩ ⟨_, hy, rfl, _, rfl⟩ hu ?_
    · exact this
    · intro j h1 _
      have hj : j = 0 ∨ j = 1 ∨ j = 2 ∨ j = 3 := by simp at h1; omega
      rcases hj with rfl | rfl | rfl | rfl
      · exact int_same
      · exact int_same
      · exact SeqAt.EqAt.same _
      · exact SeqAt.EqAt.same _
theorem ne_bool_same {b : Bool} (h : Q (.bool false) s) : wpAny (model prog w) A (compareOp .NotEq (.bool b) (.bool b)) Q E s := PyProof.Rows.ne_bool (by rw [bne_self_eq_false]; exact h)
theorem in_bools {α : Type} {f : α → Bool} {l : List α} {D : Addr} (N : News h₀ L s.heap news) (hd : (D, LCg.lst (l.map fun o => Value.bool (f o))) ∈ news) (h : Q (.bool (l.any f)) s) : wpAny (model prog w) A (compareOp .In (.bool true) (.ref D)) Q E s := by
  refine SeqAt.in_listAt (fun v => match v with | .bool b => b | _ => false) (items := (l.map fun o => Value.bool (f o)).toArray) ⟨_, (N _ hd).1, rfl, _, rfl⟩ ?_ ?_
  · intro y hy
    obtain ⟨o, _, rfl⟩ := List.mem_map.mp (List.mem_toArray.mp hy)
    have := keq_flat (A := A.in1) (s := s) (PyProof.V.Flat.bool (f o)) (PyProof.V.Flat.bool true)
    have e : PyData.eqv (.bool (f o)) (.bool true) = f o := by cases f o <;> simp [PyData.eqv]
    rw [e] at this
    exact this
  · have e : ((l.map fun o => Value.bool (f o)).toArray.any fun v => match v with | .bool b => b | _ => false) = l.any f := by
      rw [List.any_toArray, List.any_map]; rfl
    rw [e]; exact h
theorem eq_tup3 {x y : Addr} {a b c a' b' c' : Value} {hx : s.heap.IsTuple x #[a, b, c]} {hy : s.heap.IsTuple y #[a', b', c']} (hu : A.units < cLine) (h1 : SeqAt.EqAt A.in1 s a a' true) (h2 : SeqAt.EqAt A.in1 s b b' true) (h3 : SeqAt.EqAt A.in1 s c c' true) (h : Q (.bool true) s) :
    wpAny (model prog w) A (compareOp .Eq (.ref x) (.ref y)) Q E s := by
  refine SeqAt.eq_tupleAt (e := fun _ => true) hx hy hu ?_ h
  intro j h1' _
  have hj : j = 0 ∨ j = 1 ∨ j = 2 := by simp at h1'; omega
  rcases hj with rfl | rfl | rfl
  · exact h1
  · exact h2
  · exact h3
theorem rows_ne {FD OO : Addr} {oFD oOO : Obj} {fs : List (OZ × Addr)} {os : List OZ} (N : News h₀ L s.heap ((FD, oFD) :: (rowN fs ++ news))) (hfs : fs.map (·.1) = os) (hO : (OO, oOO) ∈ news) (hw : ∀ q ∈ wz os, q ∈ news) (d1 : oFD.IsDictOf (intKind prog w) (rowK fs)) (d2 : oOO.IsDictOf (intKind prog w) (outK os))
    (l1 : (FD == sysModules) = false) (l2 : (OO == sysModules) = false) (hu : A.units < cLine) (hu' : A.in1.units < cLine) (h : Q (.bool false) s) : wpAny (model prog w) A (compareOp .NotEq (.ref FD) (.ref OO)) Q E s := by
  have hn := keysNodup_of_isDictOf d2
  refine kne_pairs (r := true) N (.head _) (.tail _ (List.mem_append_right _ hO)) d1 d2 l1 l2 (by rw [rowK, outK, List.length_map, List.length_map, ← hfs, List.length_map]) hu ?_ h
  have key : ∀ gs : List (OZ × Addr), (∀ p ∈ gs, p ∈ fs) → KeqHits A.in1 s (outK os) (rowK gs) true := by
    intro gs
    induction gs with
    | nil => exact fun _ => .nil
    | cons p r ih =>
      intro hs
      have hp := hs p (.head _)
      have hpo : p.1 ∈ os := hfs ▸ List.mem_map_of_mem hp
      have hv : valueAt (outK os) p.1.n = some (.ref p.1.ta) := valueAt_mem hn (List.mem_map_of_mem (f := fun o : OZ => (o.n, Value.ref o.ta)) hpo)
      exact KeqHits.hit (e := true) (b := true) hv (row_eq (N _ (.tail _ (List.mem_append_left _ (List.mem_map_of_mem (f := fun p : OZ × Addr => (p.2, row2 p.1)) hp)))).1 (N _ (.tail _ (List.mem_append_right _ (hw _ (wz_mem hpo))))  ).1 hu') (ih fun q hq => hs q (.tail _ hq))
  exact key fs fun _ h => h
end
section
variable {prog : Program} {w : World} {A : Around} {E : Value → Shared → Prop} {s : Shared} {h₀ : Heap} {L : Addr} {m mg mb : Str → Option Value}
  {p : Program} {loose : List Str} {mean : ExcName → Option Value} {Q : Value → Shared → Prop} {news : List (Addr × Obj)}
theorem words_alike_1 : True := by
  k_with_none
  k_with "k_enter" => (refine' code_defM ?k1ₓ ?k2ₓ ?k3ₓ ?k5ₓ ?k6ₓ ?k7ₓ ?k8ₓ ?k9ₓ ?kBₓ ?_ ?c2ₓ ?c3ₓ ?c4ₓ ?c5ₓ; (case k1ₓ => k_asm); (case k2ₓ => k_asm); (case k3ₓ => k_asm); (case k5ₓ => k_asm); (case k6ₓ => k_is); (case k7ₓ => k_is); (case k8ₓ => exact Nat.le_of_ble_eq_true rfl); (case k9ₓ => exact rfl); (case c5ₓ => decide); (case kBₓ => exact locs rfl); (case c2ₓ => exact rfl); (case c3ₓ => exact rfl); (case c4ₓ => exact rfl); k_whole; intro g'ₓ L'ₓ h'ₓ FG'ₓ F'ₓ N'ₓ X'ₓ T'ₓ; (try dsimp only [List.map, List.zip, List.zipWith] at F'ₓ); (try dsimp only); (try k_fold))
  k_with "k_mem" => first | with_reducible assumption | with_reducible exact List.mem_cons_self | (with_reducible apply List.mem_cons_of_mem; k_mem)
  k_with "k_all" => first | assumption | exact allLt_off (by assumption)
  k_with "size_fits" => first | assumption | (simp only [Array.size_push, List.size_toArray, List.length_append, List.length_cons, List.length_nil, vz_length, PySem.sizeLine_eq]; omega)
  k_with "binaryOp Add ref ref" => (k_here; (with_reducible show wpAny _ _ (binaryOp _ (Value.ref _) (Value.ref _)) _ _ _); k_dflt (refine' addL ?Fₓ ?Nₓ ?aₓ ?bₓ ?zₓ ?_; (case Fₓ => k_asm); (case Nₓ => k_asm); (case aₓ => k_mem); (case bₓ => k_mem); (case zₓ => (simp only [List.length_cons, List.length_nil, vz_length, sizeLine_eq]; omega))); intro D'ₓ h'ₓ F'ₓ N'ₓ l1ₓ; (try k_lt l1ₓ); (try k_sweep))
  k_with "k_sub" => ((try simp only [List.cons_append, List.nil_append]); (repeat ((with_reducible refine List.forall_mem_cons.mpr ⟨?_, ?_⟩); (next => (first | ((repeat (first | with_reducible exact List.mem_cons_self | with_reducible apply List.mem_cons_of_mem)); done) | (repeat (first | exact List.mem_cons_self | apply List.mem_cons_of_mem)))))); intro qₓ hqₓ; first | with_reducible exact absurd hqₓ List.not_mem_nil | (repeat (first | with_reducible exact hqₓ | with_reducible exact List.mem_append_left _ hqₓ | with_reducible exact List.mem_append_right _ hqₓ | with_reducible apply List.mem_cons_of_mem)))
  k_with "SrcLP" => (k_here; k_dflt (refine LCp.SrcLP.ledger (by rfl) (by k_asm) (by k_asm) (by k_mem) (by size_fits) ?_); intro g'ₓ; refine Halt.out ?_)
  k_with "CompSrc" => (k_here; k_dflt (refine LCg.CompSrc.ledger (by rfl) (by k_asm) (by k_asm) (by k_mem) (by size_fits) ?_); intro g'ₓ; refine Halt.out ?_)
  k_with "CompSrcT" => (k_here; k_dflt (refine LCt.CompSrcT.ledger (by rfl) (by k_asm) (by k_asm) (by k_mem) (by size_fits) ?_); intro g'ₓ; refine Halt.out ?_)
  k_with "CompEnd" => (refine Halt.out ?_)
  k_with "lsm_bools" => assumption
  k_with "eval Name" => (k_here; k_dflt (refine' nameX_L ?Fₓ ?vₓ ?_ ?aₓ ?bₓ; (case Fₓ => k_asm); (case aₓ => rfl); (case bₓ => rfl); (case vₓ => first | exact rfl | assumption); k_whole))
  k_with "eval Name" => (k_here; (with_reducible show wpAny _ _ (eval (Expr.Name _ _) (envOf _ _ _ _ _)) _ _ _); k_dflt (refine' ld ?k1ₓ ?k2ₓ ?_; (case k1ₓ => k_asm); (case k2ₓ => first | exact rfl | assumption); k_whole))
  k_with "k_ne" => (first | assumption | (apply Ne.symm; assumption) | exact Nat.ne_of_lt (by assumption) | exact Nat.ne_of_gt (by assumption))
  k_with "call builtin:len" => (k_here; (with_reducible show wpAny _ _ (call (Value.builtin "len") [Value.ref _]) _ _ _); k_dflt (refine' lenL ?Nₓ ?aₓ ?zₓ ?_; (case Nₓ => k_asm); (case aₓ => k_mem); (case zₓ => (simp only [vz_length]; omega))); (try simp only [vz_length]))
  k_with "setItem ref int" => (k_here; k_dflt (refine' kda_set (knd := PySem.intKind _ _) ?Fₓ ?Nₓ ?Uₓ ?dₓ (intKind_is _ _ _ _) ?zₓ ?_; (case Fₓ => k_asm); (case Nₓ => k_asm); (case Uₓ => k_updF); (case dₓ => assumption); (case zₓ => assumption)); intro h'ₓ o'ₓ F'ₓ N'ₓ hd'ₓ; (try k_sweep))
  k_with "call ref" => (k_here; (with_reducible show wpAny _ _ (call (Value.ref 238) _) _ _ _); k_dflt (refine' to_AL rfl ?dₓ ?uₓ (draw_at ?Fₓ ?Nₓ ?Xₓ ?Tₓ ?Uₓ ?oₓ ?hPₓ ?hSₓ ?hiₓ ?hlₓ ?psₓ ?hmₓ ?_); (case dₓ => exact Nat.le_of_ble_eq_true rfl); (case uₓ => exact Nat.le_of_ble_eq_true rfl); (case Fₓ => k_asm); (case Nₓ => k_asm); (case Xₓ => k_asm); (case Tₓ => k_asm); (case Uₓ => k_updF); (case oₓ => assumption); (case hPₓ => k_mem); (case hSₓ => k_mem); (case hiₓ => assumption); (case hlₓ => assumption); (case psₓ => k_ne); (case hmₓ => first | decide | assumption)); intro v'ₓ t'ₓ o'ₓ h'ₓ tk'ₓ hv0'ₓ hv1'ₓ oP'ₓ F'ₓ N'ₓ; (try dsimp only at N'ₓ); (try k_sweep))
  k_with "call ref" => (k_here; (with_reducible show wpAny _ _ (call (Value.ref 53) _) _ _ _); k_dflt (refine' to_AL rfl ?dₓ ?uₓ (add_at ?Fₓ ?Nₓ ?Xₓ ?Tₓ ?hLₓ ?hzₓ ?hlenₓ ?_); (case dₓ => exact Nat.le_of_ble_eq_true rfl); (case uₓ => exact Nat.le_of_ble_eq_true rfl); (case Fₓ => k_asm); (case Nₓ => k_asm); (case Xₓ => k_asm); (case Tₓ => k_asm); (case hLₓ => k_mem); (case hzₓ => k_sub); (case hlenₓ => first | assumption | omega)); intro RL' z' rs' k' h' tk' F' N' n1' n2' n3' er' es' el'; (repeat (replace n1' := List.forall_mem_cons.mp n1'; (have hn' := And.left n1'); replace n1' := And.right n1'; try dsimp only at hn')); (repeat (replace n2' := List.forall_mem_cons.mp n2'; (have hn' := And.left n2'); replace n2' := And.right n2'; try dsimp only at hn')); (try dsimp only at n3'); (try k_sweep))
  k_with "call ref" => (k_here; (with_reducible show wpAny _ _ (call (Value.ref 58) _) _ _ _); k_dflt (refine' to_AL rfl ?dₓ ?uₓ (has_at ?Fₓ ?Nₓ ?Xₓ ?Tₓ ?hLₓ ?hzₓ ?hlenₓ ?_); (case dₓ => exact Nat.le_of_ble_eq_true rfl); (case uₓ => exact Nat.le_of_ble_eq_true rfl); (case Fₓ => k_asm); (case Nₓ => k_asm); (case Xₓ => k_asm); (case Tₓ => k_asm); (case hLₓ => k_mem); (case hzₓ => k_sub); (case hlenₓ => first | assumption | omega)); intro h'ₓ tk'ₓ F'ₓ N'ₓ; (try k_sweep))
  k_with "call ref" => (k_here; (with_reducible show wpAny _ _ (call (Value.ref 41) _) _ _ _); k_dflt (refine' to_AL rfl ?dₓ ?uₓ (anyel_at ?Fₓ ?Nₓ ?Xₓ ?Tₓ ?hLₓ ?hzₓ ?oₓ ?hlₓ ?_); (case dₓ => exact Nat.le_of_ble_eq_true rfl); (case uₓ => exact Nat.le_of_ble_eq_true rfl); (case Fₓ => k_asm); (case Nₓ => k_asm); (case Xₓ => k_asm); (case Tₓ => k_asm); (case hLₓ => k_mem); (case hzₓ => (intro qₓ hqₓ; first | (refine mem_in ((‹∀ qₓ ∈ tf _, qₓ ∈ _›) qₓ hqₓ) ?_; first | exact ⟨1, rfl⟩ | exact ⟨2, rfl⟩ | exact ⟨3, rfl⟩ | exact ⟨4, rfl⟩ | exact ⟨5, rfl⟩ | exact ⟨6, rfl⟩ | exact ⟨7, rfl⟩ | exact ⟨8, rfl⟩ | exact ⟨9, rfl⟩ | exact ⟨10, rfl⟩ | exact ⟨11, rfl⟩ | exact ⟨12, rfl⟩ | exact ⟨13, rfl⟩ | exact ⟨14, rfl⟩ | exact ⟨15, rfl⟩) | (repeat (first | with_reducible exact (‹∀ qₓ ∈ tf _, qₓ ∈ _›) qₓ hqₓ | with_reducible apply List.mem_cons_of_mem)))); (case oₓ => assumption); (case hlₓ => assumption)); intro h'ₓ tk'ₓ F'ₓ N'ₓ; (try k_sweep))
  k_with "call ref" => (k_here; (with_reducible show wpAny _ _ (call (Value.ref 46) _) _ _ _); k_dflt (refine' to_AL rfl ?dₓ ?uₓ (anyfl_at ?Fₓ ?Nₓ ?Xₓ ?Tₓ ?hLₓ ?hzₓ ?oₓ ?hlₓ ?_); (case dₓ => exact Nat.le_of_ble_eq_true rfl); (case uₓ => exact Nat.le_of_ble_eq_true rfl); (case Fₓ => k_asm); (case Nₓ => k_asm); (case Xₓ => k_asm); (case Tₓ => k_asm); (case hLₓ => k_mem); (case hzₓ => (intro qₓ hqₓ; first | (refine mem_in ((‹∀ qₓ ∈ tf _, qₓ ∈ _›) qₓ hqₓ) ?_; first | exact ⟨1, rfl⟩ | exact ⟨2, rfl⟩ | exact ⟨3, rfl⟩ | exact ⟨4, rfl⟩ | exact ⟨5, rfl⟩ | exact ⟨6, rfl⟩ | exact ⟨7, rfl⟩ | exact ⟨8, rfl⟩ | exact ⟨9, rfl⟩ | exact ⟨10, rfl⟩ | exact ⟨11, rfl⟩ | exact ⟨12, rfl⟩ | exact ⟨13, rfl⟩ | exact ⟨14, rfl⟩ | exact ⟨15, rfl⟩) | (repeat (first | with_reducible exact (‹∀ qₓ ∈ tf _, qₓ ∈ _›) qₓ hqₓ | with_reducible apply List.mem_cons_of_mem)))); (case oₓ => assumption); (case hlₓ => assumption)); intro h'ₓ tk'ₓ F'ₓ N'ₓ; (try k_sweep))
  k_with "call ref" => (k_here; (with_reducible show wpAny _ _ (call (Value.ref 203) _) _ _ _); k_dflt (refine' to_AL rfl ?dₓ ?uₓ (octs_at ?Fₓ ?Nₓ ?Xₓ ?Tₓ ?h1ₓ ?h2ₓ ?h3ₓ ?h4ₓ ?h5ₓ ?h6ₓ ?h7ₓ ?h8ₓ ?_); (case dₓ => exact Nat.le_of_ble_eq_true rfl); (case uₓ => exact Nat.le_of_ble_eq_true rfl); (case Fₓ => k_asm); (case Nₓ => k_asm); (case Xₓ => k_asm); (case Tₓ => k_asm); (case h1ₓ => k_mem); (case h2ₓ => k_mem); (case h3ₓ => k_mem); (case h4ₓ => assumption); (case h5ₓ => assumption); (case h6ₓ => first | assumption | exact fun q hq => .tail _ ((‹∀ q ∈ pz _, q ∈ _›) q hq) | exact fun q hq => .tail _ (.tail _ ((‹∀ q ∈ pz _, q ∈ _›) q hq))); (case h7ₓ => first | assumption | exact fun q hq => .tail _ ((‹∀ q ∈ qz _ _, q ∈ _›) q hq) | exact fun q hq => .tail _ (.tail _ ((‹∀ q ∈ qz _ _, q ∈ _›) q hq))); (case h8ₓ => assumption)); intro h'ₓ tk'ₓ t'ₓ F'ₓ N'ₓ)
  k_with "call ref" => (k_here; (with_reducible show wpAny _ _ (call (Value.ref 198) _) _ _ _); k_dflt (refine' to_AL rfl ?dₓ ?uₓ (elic_at ?Fₓ ?Nₓ ?Xₓ ?Tₓ ?h1ₓ ?h2ₓ ?h3ₓ ?h4ₓ ?h5ₓ ?h6ₓ ?h7ₓ ?h8ₓ ?_); (case dₓ => exact Nat.le_of_ble_eq_true rfl); (case uₓ => exact Nat.le_of_ble_eq_true rfl); (case Fₓ => k_asm); (case Nₓ => k_asm); (case Xₓ => k_asm); (case Tₓ => k_asm); (case h1ₓ => k_mem); (case h2ₓ => k_mem); (case h3ₓ => k_mem); (case h4ₓ => assumption); (case h5ₓ => assumption); (case h6ₓ => first | assumption | exact fun q hq => .tail _ ((‹∀ q ∈ pz _, q ∈ _›) q hq) | exact fun q hq => .tail _ (.tail _ ((‹∀ q ∈ pz _, q ∈ _›) q hq))); (case h7ₓ => first | assumption | exact fun q hq => .tail _ ((‹∀ q ∈ qz _ _, q ∈ _›) q hq) | exact fun q hq => .tail _ (.tail _ ((‹∀ q ∈ qz _ _, q ∈ _›) q hq))); (case h8ₓ => assumption)); intro h'ₓ tk'ₓ F'ₓ N'ₓ)
  k_with "call ref" => (k_here; (with_reducible show wpAny _ _ (call (Value.ref 210) _) _ _ _); k_dflt (refine' to_AL rfl ?dₓ ?uₓ (rows_at ?Fₓ ?Nₓ ?Xₓ ?Tₓ ?h1ₓ ?h2ₓ ?h3ₓ ?h4ₓ ?h5ₓ ?h6ₓ ?h7ₓ ?h8ₓ ?_); (case dₓ => exact Nat.le_of_ble_eq_true rfl); (case uₓ => exact Nat.le_of_ble_eq_true rfl); (case Fₓ => k_asm); (case Nₓ => k_asm); (case Xₓ => k_asm); (case Tₓ => k_asm); (case h1ₓ => k_mem); (case h2ₓ => k_mem); (case h3ₓ => k_mem); (case h4ₓ => assumption); (case h5ₓ => assumption); (case h6ₓ => first | assumption | exact fun q hq => .tail _ ((‹∀ q ∈ pz _, q ∈ _›) q hq) | exact fun q hq => .tail _ (.tail _ ((‹∀ q ∈ pz _, q ∈ _›) q hq))); (case h7ₓ => first | assumption | exact fun q hq => .tail _ ((‹∀ q ∈ qz _ _, q ∈ _›) q hq) | exact fun q hq => .tail _ (.tail _ ((‹∀ q ∈ qz _ _, q ∈ _›) q hq))); (case h8ₓ => assumption)); intro FD'ₓ oFD'ₓ fs'ₓ h'ₓ tk'ₓ hFD'ₓ lFD'ₓ eFD'ₓ F'ₓ N'ₓ; have N2'ₓ := newsSub N'ₓ rows_sub2)
  k_with "k_lt_off" => skip
  k_with "k_ne" => (first | assumption | (apply Ne.symm; assumption) | exact ne_new (by assumption) (by k_mem) | exact Ne.symm (ne_new (by assumption) (by k_mem)))
  k_with "k_all" => first | assumption | (refine all_new (by assumption) ?_; intro qₓ hqₓ; repeat (first | with_reducible exact hqₓ | with_reducible apply List.mem_cons_of_mem))
  k_with "newTuple" => (k_here; k_dflt (refine' kup_newTuple ?Fₓ ?Nₓ ?_ ?zₓ; (case Fₓ => k_asm); (case Nₓ => k_asm); (case zₓ => kmk_size)); intro D'ₓ h'ₓ F'ₓ N'ₓ l1ₓ; (try k_sweep))
  k_with "k_handed" => exact oi_handed (by assumption)
  k_with "subscriptTail Name" => (k_here; (with_reducible show wpAny _ _ (subscriptTail _ _ (Value.ref _) (Value.str _ _)) _ _ _); k_dflt (refine' kda_item (knd := PySem.strKind _ _) ?Nₓ ?pₓ ?dₓ (strKind_is _ _ _ _) ?lₓ ?_; (case Nₓ => k_asm); (case pₓ => k_mem); (case dₓ => assumption); (case lₓ => rfl)); (try dsimp only))
  k_with "subscriptTail" => (k_here; (with_reducible show wpAny _ _ (subscriptTail _ _ (Value.ref _) (Value.str _ _)) _ _ _); k_dflt (refine' kda_item (knd := PySem.strKind _ _) ?Nₓ ?pₓ ?dₓ (strKind_is _ _ _ _) ?lₓ ?_; (case Nₓ => k_asm); (case pₓ => k_mem); (case dₓ => assumption); (case lₓ => rfl)); (try dsimp only))
  k_with "exec Return some" => ((have hst'ₓ : Stop := by assumption); clear hst'ₓ; refine Halt.out ?_)
  k_with "eval ListComp" => (refine Halt.out ?_)
  k_with "pyIter_ref" => (refine Halt.out ?_)
  k_with "compareOp NotEq bool bool" => (k_here; k_dflt (refine' ne_bool_same ?_))
  k_with "compareOp In bool ref" => (k_here; k_dflt (refine' in_bools ?Nₓ ?hdₓ ?_; (case Nₓ => k_asm); (case hdₓ => exact .head _)))
  k_with "compareOp NotEq ref ref" => (k_here; k_dflt (refine' rows_ne ?Nₓ ?eₓ ?hOₓ ?hwₓ ?d1ₓ ?d2ₓ ?l1ₓ ?l2ₓ ?u1ₓ ?u2ₓ ?_; (case Nₓ => assumption); (case eₓ => assumption); (case hOₓ => assumption); (case hwₓ => assumption); (case d1ₓ => assumption); (case d2ₓ => assumption); (case l1ₓ => assumption); (case l2ₓ => assumption); (case u1ₓ => exact Nat.le_of_ble_eq_true rfl); (case u2ₓ => exact Nat.le_of_ble_eq_true rfl)))
  k_with "compareOp NotEq" => (k_here; k_dflt (refine' oi_ne ?aₓ ?bₓ ?_; (case aₓ => assumption); (case bₓ => assumption)))
  k_with "getMethod ref" => (k_here; (with_reducible show wpAny _ _ (getMethod (Value.ref _) (Str.ofString "values") _) _ _ _); k_dflt (refine' kdl_method (knd := PySem.intKind _ _) PySem.F.slot_dict_values PySem.F.type_dict_values ?Nₓ ?pₓ ?dₓ ?_; (case Nₓ => k_asm); (case pₓ => k_mem); (case dₓ => assumption)))
  k_with "call builtin:dict.values" => (k_here; k_dflt (refine' kdl_view_values (knd := PySem.intKind _ _) ?Fₓ ?Nₓ ?pₓ ?dₓ ?lₓ ?_; (case Fₓ => k_asm); (case Nₓ => k_asm); (case pₓ => k_mem); (case dₓ => assumption); (case lₓ => assumption)); intro D'ₓ h'ₓ F'ₓ N'ₓ l1ₓ)
  k_with "call builtin:sum" => (k_here; k_dflt (refine' LCg.sum_ints ?Fₓ ?Nₓ rfl ?lₓ ?iₓ ?_; (case Fₓ => k_asm); (case Nₓ => k_asm); (case lₓ => exact ⟨_, ((by k_asm : News _ _ _ _) _ (.head _)).1, rfl, _, rfl⟩); (case iₓ => assumption)); intro h'ₓ tk'ₓ t'ₓ F'ₓ N'ₓ)
  trivial
theorem alike_at {X XD SD OD OO : Addr} {oSD oOD oOO : Obj} {os : List OZ} {kx : Nat → Tok} {top last fu : Option Int} {wn : Bool} {vName vNext vLA vAK vLET vLT vRec vLS vLTm vFU vUn vHN vECN vGone : Value} {wName wSeen wMarks wHigh wHighAt vSince wAsked wNext vTop vLast wNow : Value}
    (F : Fr h₀ L s.heap m) (N : News h₀ L s.heap news) (X₀ : (heap w.params).In h₀) (T : Top p loose mean mg mb h₀)
    (hX : (X, instObj 220 XD) ∈ news) (hXD : (XD, xdO w kx vName vNext (.ref SD) vLA vAK vLET vLT vRec vLS vLTm vFU vUn (.bool wn) vHN vECN vGone) ∈ news) (hSD : (SD, oSD) ∈ news) (hOD : (OD, oOD) ∈ news) (hOO : (OO, oOO) ∈ news)
    (sd : oSD.IsDictOf (intKind prog w) (sentK os)) (od : oOD.IsDictOf (strKind prog w) (odK wName wSeen wMarks wHigh wHighAt vSince wAsked (.bool wn) (.ref OO) wNext vTop vLast wNow)) (oo : oOO.IsDictOf (intKind prog w) (outK os))
    (lsd : (SD == sysModules) = false) (lod : (OD == sysModules) = false) (loo : (OO == sysModules) = false) (xLA : OI vLA top) (xTop : OI vTop top) (xLET : OI vLET last) (xLast : OI vLast last) (xFU : OI vFU fu) (xSi : OI vSince fu)
    (hp : ∀ q ∈ pz os, q ∈ news) (hq : ∀ q ∈ qz w os, q ∈ news) (hw : ∀ q ∈ wz os, q ∈ news) (hol : os.length ≤ 1000)
    (h : ∀ h' tk', Fr h₀ L h' m → News h₀ L h' news → Q (.bool true) { s with heap := h', toks := tk' }) :
    wpAny (model prog w) (AL 330) (call (.ref 274) [.ref X, .ref OD]) Q (fun _ _ => False) s := by
  refine enter (binds := [(Str.ofString "space", .ref X), (Str.ofString "own", .ref OD)]) (W := news) F N X₀ T (fun _ h => h) (by k_dflt k_is) (by k_dflt k_is) (by decide) (BindsTo.of_eq rfl) (locs rfl) ?_ rfl rfl rfl (by decide)
  intro g L' h₁ tk hg F' N' X' T'
  have fin : ∀ h' tk' m', Fr g L' h' m' → News g L' h' news → Q (.bool true) { s with heap := h', toks := tk' } := fun h' tk' m' F' N' => h h' tk' (backF F N (fun _ h => h) hg F') (backN F N (fun _ h => h) hg N')
  clear h N X₀ T F hg
  have st : Stop := ⟨⟩
  (try dsimp only)
  k_unmd
  k_fold
  k_steps
  refine Halt.mk (comp_T (h₀ := g) (L := L') (m := fun y => [(Str.ofString "space", Value.ref X), (Str.ofString "own", .ref OD)].reverse.lookup y) (cl := []) (x := Str.ofString "row") rfl (by decide) rfl (by decide) rfl ?_)
  k_steps
  rename News g L' _ _ => N₂
  rename Fr g L' _ _ => F₂
  refine Halt.mk (compT_values rfl F₂ N₂ (.head _) (.tail _ hOO) oo (by rw [outK, List.length_map, sizeLine_eq]; omega) ?_)
  intro s₂ hs₂
  obtain ⟨g', rfl⟩ := hs₂
  refine invT (fun i ys nw => nw = _ ∧ ys = ((os.take i).filter fun o => o.ct).map fun o => Value.int o.sz (o.k 10)) ⟨rfl, rfl⟩ ?turn ?done
  case turn =>
    intro i ys nw v I oI C oC D m₂ h tk E' hi hJ hv hC hx F₃ N₃ off ne
    obtain ⟨rfl, rfl⟩ := hJ
    obtain ⟨key, hv⟩ := hv
    obtain ⟨o, ho, hov⟩ := Option.map_eq_some_iff.mp (by rw [outK, List.getElem?_map] at hv; exact hv)
    cases hov
    have hwo := hw _ (wz_mem (List.mem_of_getElem? ho))
    clear fin N₂ F₂ st
    k_unmd
    k_fold
    k_steps
    · refine ⟨LCg.CompEnd.intro (by assumption) (by assumption) _ (fun _ h => h) off (.tail _ hOO) ⟨rfl, ?_⟩⟩
      rw [← take_filter (f := fun o : OZ => o.ct) ho (by assumption), List.map_append]; rfl
    · refine ⟨LCg.CompEnd.intro (by assumption) (by assumption) _ (fun _ h => h) off (.tail _ hOO) ⟨rfl, ?_⟩⟩
      rw [← take_filter0 (f := fun o : OZ => o.ct) ho (by assumption)]
  case done =>
    intro ys nw hJ
    obtain ⟨rfl, rfl⟩ := hJ
    rw [show (outK os).length = os.length by simp [outK], List.take_length]
    intro D h' tk' F₃ N₃ o1
    have hI : IntsAre ((os.filter fun o => o.ct).map fun o => Value.int o.sz (o.k 10)) ((os.filter fun o => o.ct).map fun o => o.sz) := ints_map
    clear N₂ F₂
    k_unmd
    try k_fold
    k_steps
    · exact absurd rfl (by assumption)
    refine Halt.mk (comp_U (h₀ := g) (L := L') (m := fun y => [(Str.ofString "space", Value.ref X), (Str.ofString "own", .ref OD)].reverse.lookup y) (cl := []) (x := Str.ofString "row") rfl (by decide) rfl (by decide) rfl ?_)
    k_steps
    rename News g L' _ _ => N₂
    rename Fr g L' _ _ => F₂
    refine Halt.mk (compU_values rfl F₂ N₂ (by k_mem) (by k_mem : (OO, oOO) ∈ _) oo (by rw [outK, List.length_map, sizeLine_eq]; omega) ?_)
    intro s₂ hs₂
    obtain ⟨g', rfl⟩ := hs₂
    refine invU (fun i ys nw => nw = _ ∧ ys = ((os.take i).map fun o => Value.bool o.ak)) ⟨rfl, rfl⟩ ?turn ?done
    case turn =>
      intro i ys nw v I oI C oC D₂ m₂ h tk E' hi hJ hv hC hx F₃ N₃ off ne
      obtain ⟨rfl, rfl⟩ := hJ
      obtain ⟨key, hv⟩ := hv
      obtain ⟨o, ho, hov⟩ := Option.map_eq_some_iff.mp (by rw [outK, List.getElem?_map] at hv; exact hv)
      cases hov
      have hwo := hw _ (wz_mem (List.mem_of_getElem? ho))
      clear fin N₂ F₂ st
      k_unmd
      k_fold
      k_steps
      exact ⟨LCg.CompEnd.intro (by assumption) (by assumption) _ (fun _ h => h) off (by k_mem) ⟨rfl, take_map ho rfl⟩⟩
    case done =>
      intro ys nw hJ
      obtain ⟨rfl, rfl⟩ := hJ
      rw [show (outK os).length = os.length by simp [outK], List.take_length]
      intro D₂ h' tk' F₃ N₃ o1
      clear N₂ F₂
      k_unmd
      try k_fold
      k_steps
      clear st
      cases fu with
      | none =>
        cases xFU
        cases xSi
        refine Halt.mk ?_
        k_steps
        exact fin _ _ _ (by assumption) (newsSub (by assumption) (fun q hq => by k_mem))
      | some fu =>
        obtain ⟨t, rfl⟩ := xFU
        obtain ⟨t', rfl⟩ := xSi
        refine Halt.mk ?_
        k_steps
        exact fin _ _ _ (by assumption) (newsSub (by assumption) (fun q hq => by k_mem))
end

-- needs: rows compk
section
variable {prog : Program} {w : World} {A : Around} {E : Value → Shared → Prop} {s : Shared} {h₀ : Heap} {L : Addr} {m mg mb : Str → Option Value}
  {p : Program} {loose : List Str} {mean : ExcName → Option Value} {Q : Value → Shared → Prop} {news : List (Addr × Obj)}
theorem slice_up {x : Str} {px : Pos} {pe : PySem.Expr} {pos : Pos} {l : Addr} {vs : List Value} {k : Nat} {t : Tok} {Q : Value → Shared → Prop} (F : Fr h₀ L s.heap m) (N : News h₀ L s.heap news) (hl : (l, listOf vs.toArray k) ∈ news) (hz : vs.length ≤ 32)
    (h : ∀ h', Fr h₀ L h' m → News h₀ L h' ((s.heap.objs.size + 1, listOf vs.toArray 0) :: news) → (∀ q ∈ news, @LT.lt Nat _ q.1 (s.heap.objs.size + 1)) → Q (.ref (s.heap.objs.size + 1)) { s with heap := h' }) :
    wpAny (model prog w) A (subscriptTail (.Name x px) (.Slice none (some pe) none pos) (.ref l) (.ref s.heap.objs.size)) Q E { s with heap := s.heap.push { cls := .type "slice", data := .fields #[.none, .int 32 t, .none] } } := by
  refine slice_list F N ⟨_, (N _ hl).1, rfl, _, rfl⟩ .none (.int 32 t) (fun h' F' N' => h h' F' ?_ fun q hq => Nat.lt_succ_of_lt (Heap.lt_size (N q hq).1)) (hsz := by rw [List.size_toArray, sizeLine_eq]; omega)
  have e : slicePick vs.toArray none (some ((32 : Nat) : Int)) none = vs.toArray := by
    rw [slicePick_upto' vs.toArray 32]
    rw [List.toList_toArray, List.take_of_length_le hz]
  rw [show slicePick vs.toArray none (some 32) none = vs.toArray from e] at N'
  exact N'
theorem words_ackf_1 : True := by
  k_with_none
  k_with "k_enter" => (refine' code_defM ?k1ₓ ?k2ₓ ?k3ₓ ?k5ₓ ?k6ₓ ?k7ₓ ?k8ₓ ?k9ₓ ?kBₓ ?_ ?c2ₓ ?c3ₓ ?c4ₓ ?c5ₓ; (case k1ₓ => k_asm); (case k2ₓ => k_asm); (case k3ₓ => k_asm); (case k5ₓ => k_asm); (case k6ₓ => k_is); (case k7ₓ => k_is); (case k8ₓ => exact Nat.le_of_ble_eq_true rfl); (case k9ₓ => exact rfl); (case c5ₓ => decide); (case kBₓ => exact locs rfl); (case c2ₓ => exact rfl); (case c3ₓ => exact rfl); (case c4ₓ => exact rfl); k_whole; intro g'ₓ L'ₓ h'ₓ FG'ₓ F'ₓ N'ₓ X'ₓ T'ₓ; (try dsimp only [List.map, List.zip, List.zipWith] at F'ₓ); (try dsimp only); (try k_fold))
  k_with "k_mem" => first | with_reducible assumption | with_reducible exact List.mem_cons_self | (with_reducible apply List.mem_cons_of_mem; k_mem)
  k_with "k_all" => first | assumption | exact allLt_off (by assumption)
  k_with "size_fits" => first | assumption | (simp only [Array.size_push, List.size_toArray, List.length_append, List.length_cons, List.length_nil, vz_length, PySem.sizeLine_eq]; omega)
  k_with "binaryOp Add ref ref" => (k_here; (with_reducible show wpAny _ _ (binaryOp _ (Value.ref _) (Value.ref _)) _ _ _); k_dflt (refine' addL ?Fₓ ?Nₓ ?aₓ ?bₓ ?zₓ ?_; (case Fₓ => k_asm); (case Nₓ => k_asm); (case aₓ => k_mem); (case bₓ => k_mem); (case zₓ => (simp only [List.length_cons, List.length_nil, vz_length, sizeLine_eq]; omega))); intro D'ₓ h'ₓ F'ₓ N'ₓ l1ₓ; (try k_lt l1ₓ); (try k_sweep))
  k_with "k_sub" => ((try simp only [List.cons_append, List.nil_append]); (repeat ((with_reducible refine List.forall_mem_cons.mpr ⟨?_, ?_⟩); (next => (first | ((repeat (first | with_reducible exact List.mem_cons_self | with_reducible apply List.mem_cons_of_mem)); done) | (repeat (first | exact List.mem_cons_self | apply List.mem_cons_of_mem)))))); intro qₓ hqₓ; first | with_reducible exact absurd hqₓ List.not_mem_nil | (repeat (first | with_reducible exact hqₓ | with_reducible exact List.mem_append_left _ hqₓ | with_reducible exact List.mem_append_right _ hqₓ | with_reducible apply List.mem_cons_of_mem)))
  k_with "SrcLP" => (k_here; k_dflt (refine LCp.SrcLP.ledger (by rfl) (by k_asm) (by k_asm) (by k_mem) (by size_fits) ?_); intro g'ₓ; refine Halt.out ?_)
  k_with "CompSrc" => (k_here; k_dflt (refine LCg.CompSrc.ledger (by rfl) (by k_asm) (by k_asm) (by k_mem) (by size_fits) ?_); intro g'ₓ; refine Halt.out ?_)
  k_with "CompSrcT" => (k_here; k_dflt (refine LCt.CompSrcT.ledger (by rfl) (by k_asm) (by k_asm) (by k_mem) (by size_fits) ?_); intro g'ₓ; refine Halt.out ?_)
  k_with "CompEnd" => (refine Halt.out ?_)
  k_with "lsm_bools" => assumption
  k_with "eval Name" => (k_here; k_dflt (refine' nameX_L ?Fₓ ?vₓ ?_ ?aₓ ?bₓ; (case Fₓ => k_asm); (case aₓ => rfl); (case bₓ => rfl); (case vₓ => first | exact rfl | assumption); k_whole))
  k_with "eval Name" => (k_here; (with_reducible show wpAny _ _ (eval (Expr.Name _ _) (envOf _ _ _ _ _)) _ _ _); k_dflt (refine' ld ?k1ₓ ?k2ₓ ?_; (case k1ₓ => k_asm); (case k2ₓ => first | exact rfl | assumption); k_whole))
  k_with "k_ne" => (first | assumption | (apply Ne.symm; assumption) | exact Nat.ne_of_lt (by assumption) | exact Nat.ne_of_gt (by assumption))
  k_with "call builtin:len" => (k_here; (with_reducible show wpAny _ _ (call (Value.builtin "len") [Value.ref _]) _ _ _); k_dflt (refine' lenL ?Nₓ ?aₓ ?zₓ ?_; (case Nₓ => k_asm); (case aₓ => k_mem); (case zₓ => (simp only [vz_length]; omega))); (try simp only [vz_length]))
  k_with "setItem ref int" => (k_here; k_dflt (refine' kda_set (knd := PySem.intKind _ _) ?Fₓ ?Nₓ ?Uₓ ?dₓ (intKind_is _ _ _ _) ?zₓ ?_; (case Fₓ => k_asm); (case Nₓ => k_asm); (case Uₓ => k_updF); (case dₓ => assumption); (case zₓ => assumption)); intro h'ₓ o'ₓ F'ₓ N'ₓ hd'ₓ; (try k_sweep))
  k_with "call ref" => (k_here; (with_reducible show wpAny _ _ (call (Value.ref 238) _) _ _ _); k_dflt (refine' to_AL rfl ?dₓ ?uₓ (draw_at ?Fₓ ?Nₓ ?Xₓ ?Tₓ ?Uₓ ?oₓ ?hPₓ ?hSₓ ?hiₓ ?hlₓ ?psₓ ?hmₓ ?_); (case dₓ => exact Nat.le_of_ble_eq_true rfl); (case uₓ => exact Nat.le_of_ble_eq_true rfl); (case Fₓ => k_asm); (case Nₓ => k_asm); (case Xₓ => k_asm); (case Tₓ => k_asm); (case Uₓ => k_updF); (case oₓ => assumption); (case hPₓ => k_mem); (case hSₓ => k_mem); (case hiₓ => assumption); (case hlₓ => assumption); (case psₓ => k_ne); (case hmₓ => first | decide | assumption)); intro v'ₓ t'ₓ o'ₓ h'ₓ tk'ₓ hv0'ₓ hv1'ₓ oP'ₓ F'ₓ N'ₓ; (try dsimp only at N'ₓ); (try k_sweep))
  k_with "call ref" => (k_here; (with_reducible show wpAny _ _ (call (Value.ref 53) _) _ _ _); k_dflt (refine' to_AL rfl ?dₓ ?uₓ (add_at ?Fₓ ?Nₓ ?Xₓ ?Tₓ ?hLₓ ?hzₓ ?hlenₓ ?_); (case dₓ => exact Nat.le_of_ble_eq_true rfl); (case uₓ => exact Nat.le_of_ble_eq_true rfl); (case Fₓ => k_asm); (case Nₓ => k_asm); (case Xₓ => k_asm); (case Tₓ => k_asm); (case hLₓ => k_mem); (case hzₓ => k_sub); (case hlenₓ => first | assumption | omega)); intro RL' z' rs' k' h' tk' F' N' n1' n2' n3' er' es' el'; (repeat (replace n1' := List.forall_mem_cons.mp n1'; (have hn' := And.left n1'); replace n1' := And.right n1'; try dsimp only at hn')); (repeat (replace n2' := List.forall_mem_cons.mp n2'; (have hn' := And.left n2'); replace n2' := And.right n2'; try dsimp only at hn')); (try dsimp only at n3'); (try k_sweep))
  k_with "call ref" => (k_here; (with_reducible show wpAny _ _ (call (Value.ref 58) _) _ _ _); k_dflt (refine' to_AL rfl ?dₓ ?uₓ (has_at ?Fₓ ?Nₓ ?Xₓ ?Tₓ ?hLₓ ?hzₓ ?hlenₓ ?_); (case dₓ => exact Nat.le_of_ble_eq_true rfl); (case uₓ => exact Nat.le_of_ble_eq_true rfl); (case Fₓ => k_asm); (case Nₓ => k_asm); (case Xₓ => k_asm); (case Tₓ => k_asm); (case hLₓ => k_mem); (case hzₓ => k_sub); (case hlenₓ => first | assumption | omega)); intro h'ₓ tk'ₓ F'ₓ N'ₓ; (try k_sweep))
  k_with "call ref" => (k_here; (with_reducible show wpAny _ _ (call (Value.ref 41) _) _ _ _); k_dflt (refine' to_AL rfl ?dₓ ?uₓ (anyel_at ?Fₓ ?Nₓ ?Xₓ ?Tₓ ?hLₓ ?hzₓ ?oₓ ?hlₓ ?_); (case dₓ => exact Nat.le_of_ble_eq_true rfl); (case uₓ => exact Nat.le_of_ble_eq_true rfl); (case Fₓ => k_asm); (case Nₓ => k_asm); (case Xₓ => k_asm); (case Tₓ => k_asm); (case hLₓ => k_mem); (case hzₓ => (intro qₓ hqₓ; first | (refine mem_in ((‹∀ qₓ ∈ tf _, qₓ ∈ _›) qₓ hqₓ) ?_; first | exact ⟨1, rfl⟩ | exact ⟨2, rfl⟩ | exact ⟨3, rfl⟩ | exact ⟨4, rfl⟩ | exact ⟨5, rfl⟩ | exact ⟨6, rfl⟩ | exact ⟨7, rfl⟩ | exact ⟨8, rfl⟩ | exact ⟨9, rfl⟩ | exact ⟨10, rfl⟩ | exact ⟨11, rfl⟩ | exact ⟨12, rfl⟩ | exact ⟨13, rfl⟩ | exact ⟨14, rfl⟩ | exact ⟨15, rfl⟩) | (repeat (first | with_reducible exact (‹∀ qₓ ∈ tf _, qₓ ∈ _›) qₓ hqₓ | with_reducible apply List.mem_cons_of_mem)))); (case oₓ => assumption); (case hlₓ => assumption)); intro h'ₓ tk'ₓ F'ₓ N'ₓ; (try k_sweep))
  k_with "call ref" => (k_here; (with_reducible show wpAny _ _ (call (Value.ref 46) _) _ _ _); k_dflt (refine' to_AL rfl ?dₓ ?uₓ (anyfl_at ?Fₓ ?Nₓ ?Xₓ ?Tₓ ?hLₓ ?hzₓ ?oₓ ?hlₓ ?_); (case dₓ => exact Nat.le_of_ble_eq_true rfl); (case uₓ => exact Nat.le_of_ble_eq_true rfl); (case Fₓ => k_asm); (case Nₓ => k_asm); (case Xₓ => k_asm); (case Tₓ => k_asm); (case hLₓ => k_mem); (case hzₓ => (intro qₓ hqₓ; first | (refine mem_in ((‹∀ qₓ ∈ tf _, qₓ ∈ _›) qₓ hqₓ) ?_; first | exact ⟨1, rfl⟩ | exact ⟨2, rfl⟩ | exact ⟨3, rfl⟩ | exact ⟨4, rfl⟩ | exact ⟨5, rfl⟩ | exact ⟨6, rfl⟩ | exact ⟨7, rfl⟩ | exact ⟨8, rfl⟩ | exact ⟨9, rfl⟩ | exact ⟨10, rfl⟩ | exact ⟨11, rfl⟩ | exact ⟨12, rfl⟩ | exact ⟨13, rfl⟩ | exact ⟨14, rfl⟩ | exact ⟨15, rfl⟩) | (repeat (first | with_reducible exact (‹∀ qₓ ∈ tf _, qₓ ∈ _›) qₓ hqₓ | with_reducible apply List.mem_cons_of_mem)))); (case oₓ => assumption); (case hlₓ => assumption)); intro h'ₓ tk'ₓ F'ₓ N'ₓ; (try k_sweep))
  k_with "call ref" => (k_here; (with_reducible show wpAny _ _ (call (Value.ref 203) _) _ _ _); k_dflt (refine' to_AL rfl ?dₓ ?uₓ (octs_at ?Fₓ ?Nₓ ?Xₓ ?Tₓ ?h1ₓ ?h2ₓ ?h3ₓ ?h4ₓ ?h5ₓ ?h6ₓ ?h7ₓ ?h8ₓ ?_); (case dₓ => exact Nat.le_of_ble_eq_true rfl); (case uₓ => exact Nat.le_of_ble_eq_true rfl); (case Fₓ => k_asm); (case Nₓ => k_asm); (case Xₓ => k_asm); (case Tₓ => k_asm); (case h1ₓ => k_mem); (case h2ₓ => k_mem); (case h3ₓ => k_mem); (case h4ₓ => assumption); (case h5ₓ => assumption); (case h6ₓ => first | assumption | exact fun q hq => .tail _ ((‹∀ q ∈ pz _, q ∈ _›) q hq) | exact fun q hq => .tail _ (.tail _ ((‹∀ q ∈ pz _, q ∈ _›) q hq))); (case h7ₓ => first | assumption | exact fun q hq => .tail _ ((‹∀ q ∈ qz _ _, q ∈ _›) q hq) | exact fun q hq => .tail _ (.tail _ ((‹∀ q ∈ qz _ _, q ∈ _›) q hq))); (case h8ₓ => assumption)); intro h'ₓ tk'ₓ t'ₓ F'ₓ N'ₓ)
  k_with "call ref" => (k_here; (with_reducible show wpAny _ _ (call (Value.ref 198) _) _ _ _); k_dflt (refine' to_AL rfl ?dₓ ?uₓ (elic_at ?Fₓ ?Nₓ ?Xₓ ?Tₓ ?h1ₓ ?h2ₓ ?h3ₓ ?h4ₓ ?h5ₓ ?h6ₓ ?h7ₓ ?h8ₓ ?_); (case dₓ => exact Nat.le_of_ble_eq_true rfl); (case uₓ => exact Nat.le_of_ble_eq_true rfl); (case Fₓ => k_asm); (case Nₓ => k_asm); (case Xₓ => k_asm); (case Tₓ => k_asm); (case h1ₓ => k_mem); (case h2ₓ => k_mem); (case h3ₓ => k_mem); (case h4ₓ => assumption); (case h5ₓ => assumption); (case h6ₓ => first | assumption | exact fun q hq => .tail _ ((‹∀ q ∈ pz _, q ∈ _›) q hq) | exact fun q hq => .tail _ (.tail _ ((‹∀ q ∈ pz _, q ∈ _›) q hq))); (case h7ₓ => first | assumption | exact fun q hq => .tail _ ((‹∀ q ∈ qz _ _, q ∈ _›) q hq) | exact fun q hq => .tail _ (.tail _ ((‹∀ q ∈ qz _ _, q ∈ _›) q hq))); (case h8ₓ => assumption)); intro h'ₓ tk'ₓ F'ₓ N'ₓ)
  k_with "call ref" => (k_here; (with_reducible show wpAny _ _ (call (Value.ref 210) _) _ _ _); k_dflt (refine' to_AL rfl ?dₓ ?uₓ (rows_at ?Fₓ ?Nₓ ?Xₓ ?Tₓ ?h1ₓ ?h2ₓ ?h3ₓ ?h4ₓ ?h5ₓ ?h6ₓ ?h7ₓ ?h8ₓ ?_); (case dₓ => exact Nat.le_of_ble_eq_true rfl); (case uₓ => exact Nat.le_of_ble_eq_true rfl); (case Fₓ => k_asm); (case Nₓ => k_asm); (case Xₓ => k_asm); (case Tₓ => k_asm); (case h1ₓ => k_mem); (case h2ₓ => k_mem); (case h3ₓ => k_mem); (case h4ₓ => assumption); (case h5ₓ => assumption); (case h6ₓ => first | assumption | exact fun q hq => .tail _ ((‹∀ q ∈ pz _, q ∈ _›) q hq) | exact fun q hq => .tail _ (.tail _ ((‹∀ q ∈ pz _, q ∈ _›) q hq))); (case h7ₓ => first | assumption | exact fun q hq => .tail _ ((‹∀ q ∈ qz _ _, q ∈ _›) q hq) | exact fun q hq => .tail _ (.tail _ ((‹∀ q ∈ qz _ _, q ∈ _›) q hq))); (case h8ₓ => assumption)); intro FD'ₓ oFD'ₓ fs'ₓ h'ₓ tk'ₓ hFD'ₓ lFD'ₓ eFD'ₓ F'ₓ N'ₓ; have N2'ₓ := newsSub N'ₓ rows_sub2)
  k_with "k_lt_off" => skip
  k_with "k_ne" => (first | assumption | (apply Ne.symm; assumption) | exact ne_new (by assumption) (by k_mem) | exact Ne.symm (ne_new (by assumption) (by k_mem)))
  k_with "k_all" => first | assumption | (refine all_new (by assumption) ?_; intro qₓ hqₓ; repeat (first | with_reducible exact hqₓ | with_reducible apply List.mem_cons_of_mem))
  k_with "newTuple" => (k_here; k_dflt (refine' kup_newTuple ?Fₓ ?Nₓ ?_ ?zₓ; (case Fₓ => k_asm); (case Nₓ => k_asm); (case zₓ => kmk_size)); intro D'ₓ h'ₓ F'ₓ N'ₓ l1ₓ; (try k_sweep))
  k_with "call type:list" => (k_here; k_dflt (refine' kup_listOf ?Fₓ ?Nₓ ?bₓ ?eₓ ?_ ?zₓ; (case Fₓ => k_asm); (case Nₓ => k_asm); (case bₓ => exact .head _); (case eₓ => rfl); (case zₓ => assumption)); intro D'ₓ c'ₓ h'ₓ F'ₓ N'ₓ l1ₓ)
  k_with "subscriptTail Name Slice ref ref" => (k_here; k_dflt (refine' slice_up ?Fₓ ?Nₓ ?lₓ ?zₓ ?_; (case Fₓ => k_asm); (case Nₓ => k_asm); (case lₓ => k_mem); (case zₓ => assumption)); intro h'ₓ F'ₓ N'ₓ l1ₓ)
  trivial
theorem ackof_at {RL : Addr} {vs : List Value} {k : Nat} {t : Tok} (F : Fr h₀ L s.heap m) (N : News h₀ L s.heap news) (X₀ : (heap w.params).In h₀) (T : Top p loose mean mg mb h₀) (hL : (RL, listOf vs.toArray k) ∈ news) (hz : vs.length ≤ 32)
    (h : ∀ D c h' tk', Fr h₀ L h' m → News h₀ L h' ((D, listOf vs.toArray c) :: news) → Q (.ref D) { s with heap := h', toks := tk' }) :
    wpAny (model prog w) (AL 350) (call (.ref 65) [.ref RL, .int 32 t]) Q (fun _ _ => False) s := by
  refine enter (binds := [(Str.ofString "ranges", .ref RL), (Str.ofString "most", .int 32 t)]) (W := news) F N X₀ T (fun _ h => h) (by k_dflt k_is) (by k_dflt k_is) (by decide) (BindsTo.of_eq rfl) (locs rfl) ?_ rfl rfl rfl (by decide)
  intro g L' h₁ tk hg F' N' X' T'
  have fin : ∀ D c h' tk' m', Fr g L' h' m' → News g L' h' ((D, listOf vs.toArray c) :: news) → Q (.ref D) { s with heap := h', toks := tk' } := fun D c h' tk' m' F' N' => h D c h' tk' (backF F N (fun _ h => h) hg F') (backN F N (fun _ h => h) hg N')
  clear h N X₀ T F hg
  have hz2 : vs.length ≤ sizeLine := by rw [sizeLine_eq]; omega
  (try dsimp only)
  k_unmd
  k_fold
  k_steps
  exact fin _ _ _ _ _ (by assumption) (newsSub (by assumption) (by k_sub))
end
section
variable {prog : Program} {w : World} {A : Around} {E : Value → Shared → Prop} {s : Shared} {h₀ : Heap} {L : Addr} {m mg mb : Str → Option Value}
  {p : Program} {loose : List Str} {mean : ExcName → Option Value} {Q : Value → Shared → Prop} {news : List (Addr × Obj)}
theorem sumL {l : Addr} {vs : List Value} {ns : List Int} {k : Nat} (F : Fr h₀ L s.heap m) (N : News h₀ L s.heap news) (hh : A.handled = none) (hl : (l, listOf vs.toArray k) ∈ news) (hi : IntsAre vs ns)
    (h : ∀ h' tk' t', Fr h₀ L h' m → News h₀ L h' news → Q (.int ns.sum t') { s with heap := h', toks := tk' }) : wpAny (model prog w) A (call (.builtin "sum") [.ref l]) Q E s :=
  PyProof.Rows.LSm.sum_ints F N hh ⟨_, (N _ hl).1, rfl, _, rfl⟩ hi h
theorem words_ackf_2 : True := by
  k_with_none
  k_with "k_enter" => (refine' code_defM ?k1ₓ ?k2ₓ ?k3ₓ ?k5ₓ ?k6ₓ ?k7ₓ ?k8ₓ ?k9ₓ ?kBₓ ?_ ?c2ₓ ?c3ₓ ?c4ₓ ?c5ₓ; (case k1ₓ => k_asm); (case k2ₓ => k_asm); (case k3ₓ => k_asm); (case k5ₓ => k_asm); (case k6ₓ => k_is); (case k7ₓ => k_is); (case k8ₓ => exact Nat.le_of_ble_eq_true rfl); (case k9ₓ => exact rfl); (case c5ₓ => decide); (case kBₓ => exact locs rfl); (case c2ₓ => exact rfl); (case c3ₓ => exact rfl); (case c4ₓ => exact rfl); k_whole; intro g'ₓ L'ₓ h'ₓ FG'ₓ F'ₓ N'ₓ X'ₓ T'ₓ; (try dsimp only [List.map, List.zip, List.zipWith] at F'ₓ); (try dsimp only); (try k_fold))
  k_with "k_mem" => first | with_reducible assumption | with_reducible exact List.mem_cons_self | (with_reducible apply List.mem_cons_of_mem; k_mem)
  k_with "k_all" => first | assumption | exact allLt_off (by assumption)
  k_with "size_fits" => first | assumption | (simp only [Array.size_push, List.size_toArray, List.length_append, List.length_cons, List.length_nil, vz_length, PySem.sizeLine_eq]; omega)
  k_with "binaryOp Add ref ref" => (k_here; (with_reducible show wpAny _ _ (binaryOp _ (Value.ref _) (Value.ref _)) _ _ _); k_dflt (refine' addL ?Fₓ ?Nₓ ?aₓ ?bₓ ?zₓ ?_; (case Fₓ => k_asm); (case Nₓ => k_asm); (case aₓ => k_mem); (case bₓ => k_mem); (case zₓ => (simp only [List.length_cons, List.length_nil, vz_length, sizeLine_eq]; omega))); intro D'ₓ h'ₓ F'ₓ N'ₓ l1ₓ; (try k_lt l1ₓ); (try k_sweep))
  k_with "k_sub" => ((try simp only [List.cons_append, List.nil_append]); (repeat ((with_reducible refine List.forall_mem_cons.mpr ⟨?_, ?_⟩); (next => (first | ((repeat (first | with_reducible exact List.mem_cons_self | with_reducible apply List.mem_cons_of_mem)); done) | (repeat (first | exact List.mem_cons_self | apply List.mem_cons_of_mem)))))); intro qₓ hqₓ; first | with_reducible exact absurd hqₓ List.not_mem_nil | (repeat (first | with_reducible exact hqₓ | with_reducible exact List.mem_append_left _ hqₓ | with_reducible exact List.mem_append_right _ hqₓ | with_reducible apply List.mem_cons_of_mem)))
  k_with "SrcLP" => (k_here; k_dflt (refine LCp.SrcLP.ledger (by rfl) (by k_asm) (by k_asm) (by k_mem) (by size_fits) ?_); intro g'ₓ; refine Halt.out ?_)
  k_with "CompSrc" => (k_here; k_dflt (refine LCg.CompSrc.ledger (by rfl) (by k_asm) (by k_asm) (by k_mem) (by size_fits) ?_); intro g'ₓ; refine Halt.out ?_)
  k_with "CompSrcT" => (k_here; k_dflt (refine LCt.CompSrcT.ledger (by rfl) (by k_asm) (by k_asm) (by k_mem) (by size_fits) ?_); intro g'ₓ; refine Halt.out ?_)
  k_with "CompEnd" => (refine Halt.out ?_)
  k_with "lsm_bools" => assumption
  k_with "eval Name" => (k_here; k_dflt (refine' nameX_L ?Fₓ ?vₓ ?_ ?aₓ ?bₓ; (case Fₓ => k_asm); (case aₓ => rfl); (case bₓ => rfl); (case vₓ => first | exact rfl | assumption); k_whole))
  k_with "eval Name" => (k_here; (with_reducible show wpAny _ _ (eval (Expr.Name _ _) (envOf _ _ _ _ _)) _ _ _); k_dflt (refine' ld ?k1ₓ ?k2ₓ ?_; (case k1ₓ => k_asm); (case k2ₓ => first | exact rfl | assumption); k_whole))
  k_with "k_ne" => (first | assumption | (apply Ne.symm; assumption) | exact Nat.ne_of_lt (by assumption) | exact Nat.ne_of_gt (by assumption))
  k_with "call builtin:len" => (k_here; (with_reducible show wpAny _ _ (call (Value.builtin "len") [Value.ref _]) _ _ _); k_dflt (refine' lenL ?Nₓ ?aₓ ?zₓ ?_; (case Nₓ => k_asm); (case aₓ => k_mem); (case zₓ => (simp only [vz_length]; omega))); (try simp only [vz_length]))
  k_with "setItem ref int" => (k_here; k_dflt (refine' kda_set (knd := PySem.intKind _ _) ?Fₓ ?Nₓ ?Uₓ ?dₓ (intKind_is _ _ _ _) ?zₓ ?_; (case Fₓ => k_asm); (case Nₓ => k_asm); (case Uₓ => k_updF); (case dₓ => assumption); (case zₓ => assumption)); intro h'ₓ o'ₓ F'ₓ N'ₓ hd'ₓ; (try k_sweep))
  k_with "call ref" => (k_here; (with_reducible show wpAny _ _ (call (Value.ref 238) _) _ _ _); k_dflt (refine' to_AL rfl ?dₓ ?uₓ (draw_at ?Fₓ ?Nₓ ?Xₓ ?Tₓ ?Uₓ ?oₓ ?hPₓ ?hSₓ ?hiₓ ?hlₓ ?psₓ ?hmₓ ?_); (case dₓ => exact Nat.le_of_ble_eq_true rfl); (case uₓ => exact Nat.le_of_ble_eq_true rfl); (case Fₓ => k_asm); (case Nₓ => k_asm); (case Xₓ => k_asm); (case Tₓ => k_asm); (case Uₓ => k_updF); (case oₓ => assumption); (case hPₓ => k_mem); (case hSₓ => k_mem); (case hiₓ => assumption); (case hlₓ => assumption); (case psₓ => k_ne); (case hmₓ => first | decide | assumption)); intro v'ₓ t'ₓ o'ₓ h'ₓ tk'ₓ hv0'ₓ hv1'ₓ oP'ₓ F'ₓ N'ₓ; (try dsimp only at N'ₓ); (try k_sweep))
  k_with "call ref" => (k_here; (with_reducible show wpAny _ _ (call (Value.ref 53) _) _ _ _); k_dflt (refine' to_AL rfl ?dₓ ?uₓ (add_at ?Fₓ ?Nₓ ?Xₓ ?Tₓ ?hLₓ ?hzₓ ?hlenₓ ?_); (case dₓ => exact Nat.le_of_ble_eq_true rfl); (case uₓ => exact Nat.le_of_ble_eq_true rfl); (case Fₓ => k_asm); (case Nₓ => k_asm); (case Xₓ => k_asm); (case Tₓ => k_asm); (case hLₓ => k_mem); (case hzₓ => k_sub); (case hlenₓ => first | assumption | omega)); intro RL' z' rs' k' h' tk' F' N' n1' n2' n3' er' es' el'; (repeat (replace n1' := List.forall_mem_cons.mp n1'; (have hn' := And.left n1'); replace n1' := And.right n1'; try dsimp only at hn')); (repeat (replace n2' := List.forall_mem_cons.mp n2'; (have hn' := And.left n2'); replace n2' := And.right n2'; try dsimp only at hn')); (try dsimp only at n3'); (try k_sweep))
  k_with "call ref" => (k_here; (with_reducible show wpAny _ _ (call (Value.ref 58) _) _ _ _); k_dflt (refine' to_AL rfl ?dₓ ?uₓ (has_at ?Fₓ ?Nₓ ?Xₓ ?Tₓ ?hLₓ ?hzₓ ?hlenₓ ?_); (case dₓ => exact Nat.le_of_ble_eq_true rfl); (case uₓ => exact Nat.le_of_ble_eq_true rfl); (case Fₓ => k_asm); (case Nₓ => k_asm); (case Xₓ => k_asm); (case Tₓ => k_asm); (case hLₓ => k_mem); (case hzₓ => k_sub); (case hlenₓ => first | assumption | omega)); intro h'ₓ tk'ₓ F'ₓ N'ₓ; (try k_sweep))
  k_with "call ref" => (k_here; (with_reducible show wpAny _ _ (call (Value.ref 41) _) _ _ _); k_dflt (refine' to_AL rfl ?dₓ ?uₓ (anyel_at ?Fₓ ?Nₓ ?Xₓ ?Tₓ ?hLₓ ?hzₓ ?oₓ ?hlₓ ?_); (case dₓ => exact Nat.le_of_ble_eq_true rfl); (case uₓ => exact Nat.le_of_ble_eq_true rfl); (case Fₓ => k_asm); (case Nₓ => k_asm); (case Xₓ => k_asm); (case Tₓ => k_asm); (case hLₓ => k_mem); (case hzₓ => (intro qₓ hqₓ; first | (refine mem_in ((‹∀ qₓ ∈ tf _, qₓ ∈ _›) qₓ hqₓ) ?_; first | exact ⟨1, rfl⟩ | exact ⟨2, rfl⟩ | exact ⟨3, rfl⟩ | exact ⟨4, rfl⟩ | exact ⟨5, rfl⟩ | exact ⟨6, rfl⟩ | exact ⟨7, rfl⟩ | exact ⟨8, rfl⟩ | exact ⟨9, rfl⟩ | exact ⟨10, rfl⟩ | exact ⟨11, rfl⟩ | exact ⟨12, rfl⟩ | exact ⟨13, rfl⟩ | exact ⟨14, rfl⟩ | exact ⟨15, rfl⟩) | (repeat (first | with_reducible exact (‹∀ qₓ ∈ tf _, qₓ ∈ _›) qₓ hqₓ | with_reducible apply List.mem_cons_of_mem)))); (case oₓ => assumption); (case hlₓ => assumption)); intro h'ₓ tk'ₓ F'ₓ N'ₓ; (try k_sweep))
  k_with "call ref" => (k_here; (with_reducible show wpAny _ _ (call (Value.ref 46) _) _ _ _); k_dflt (refine' to_AL rfl ?dₓ ?uₓ (anyfl_at ?Fₓ ?Nₓ ?Xₓ ?Tₓ ?hLₓ ?hzₓ ?oₓ ?hlₓ ?_); (case dₓ => exact Nat.le_of_ble_eq_true rfl); (case uₓ => exact Nat.le_of_ble_eq_true rfl); (case Fₓ => k_asm); (case Nₓ => k_asm); (case Xₓ => k_asm); (case Tₓ => k_asm); (case hLₓ => k_mem); (case hzₓ => (intro qₓ hqₓ; first | (refine mem_in ((‹∀ qₓ ∈ tf _, qₓ ∈ _›) qₓ hqₓ) ?_; first | exact ⟨1, rfl⟩ | exact ⟨2, rfl⟩ | exact ⟨3, rfl⟩ | exact ⟨4, rfl⟩ | exact ⟨5, rfl⟩ | exact ⟨6, rfl⟩ | exact ⟨7, rfl⟩ | exact ⟨8, rfl⟩ | exact ⟨9, rfl⟩ | exact ⟨10, rfl⟩ | exact ⟨11, rfl⟩ | exact ⟨12, rfl⟩ | exact ⟨13, rfl⟩ | exact ⟨14, rfl⟩ | exact ⟨15, rfl⟩) | (repeat (first | with_reducible exact (‹∀ qₓ ∈ tf _, qₓ ∈ _›) qₓ hqₓ | with_reducible apply List.mem_cons_of_mem)))); (case oₓ => assumption); (case hlₓ => assumption)); intro h'ₓ tk'ₓ F'ₓ N'ₓ; (try k_sweep))
  k_with "call ref" => (k_here; (with_reducible show wpAny _ _ (call (Value.ref 203) _) _ _ _); k_dflt (refine' to_AL rfl ?dₓ ?uₓ (octs_at ?Fₓ ?Nₓ ?Xₓ ?Tₓ ?h1ₓ ?h2ₓ ?h3ₓ ?h4ₓ ?h5ₓ ?h6ₓ ?h7ₓ ?h8ₓ ?_); (case dₓ => exact Nat.le_of_ble_eq_true rfl); (case uₓ => exact Nat.le_of_ble_eq_true rfl); (case Fₓ => k_asm); (case Nₓ => k_asm); (case Xₓ => k_asm); (case Tₓ => k_asm); (case h1ₓ => k_mem); (case h2ₓ => k_mem); (case h3ₓ => k_mem); (case h4ₓ => assumption); (case h5ₓ => assumption); (case h6ₓ => first | assumption | exact fun q hq => .tail _ ((‹∀ q ∈ pz _, q ∈ _›) q hq) | exact fun q hq => .tail _ (.tail _ ((‹∀ q ∈ pz _, q ∈ _›) q hq))); (case h7ₓ => first | assumption | exact fun q hq => .tail _ ((‹∀ q ∈ qz _ _, q ∈ _›) q hq) | exact fun q hq => .tail _ (.tail _ ((‹∀ q ∈ qz _ _, q ∈ _›) q hq))); (case h8ₓ => assumption)); intro h'ₓ tk'ₓ t'ₓ F'ₓ N'ₓ)
  k_with "call ref" => (k_here; (with_reducible show wpAny _ _ (call (Value.ref 198) _) _ _ _); k_dflt (refine' to_AL rfl ?dₓ ?uₓ (elic_at ?Fₓ ?Nₓ ?Xₓ ?Tₓ ?h1ₓ ?h2ₓ ?h3ₓ ?h4ₓ ?h5ₓ ?h6ₓ ?h7ₓ ?h8ₓ ?_); (case dₓ => exact Nat.le_of_ble_eq_true rfl); (case uₓ => exact Nat.le_of_ble_eq_true rfl); (case Fₓ => k_asm); (case Nₓ => k_asm); (case Xₓ => k_asm); (case Tₓ => k_asm); (case h1ₓ => k_mem); (case h2ₓ => k_mem); (case h3ₓ => k_mem); (case h4ₓ => assumption); (case h5ₓ => assumption); (case h6ₓ => first | assumption | exact fun q hq => .tail _ ((‹∀ q ∈ pz _, q ∈ _›) q hq) | exact fun q hq => .tail _ (.tail _ ((‹∀ q ∈ pz _, q ∈ _›) q hq))); (case h7ₓ => first | assumption | exact fun q hq => .tail _ ((‹∀ q ∈ qz _ _, q ∈ _›) q hq) | exact fun q hq => .tail _ (.tail _ ((‹∀ q ∈ qz _ _, q ∈ _›) q hq))); (case h8ₓ => assumption)); intro h'ₓ tk'ₓ F'ₓ N'ₓ)
  k_with "call ref" => (k_here; (with_reducible show wpAny _ _ (call (Value.ref 210) _) _ _ _); k_dflt (refine' to_AL rfl ?dₓ ?uₓ (rows_at ?Fₓ ?Nₓ ?Xₓ ?Tₓ ?h1ₓ ?h2ₓ ?h3ₓ ?h4ₓ ?h5ₓ ?h6ₓ ?h7ₓ ?h8ₓ ?_); (case dₓ => exact Nat.le_of_ble_eq_true rfl); (case uₓ => exact Nat.le_of_ble_eq_true rfl); (case Fₓ => k_asm); (case Nₓ => k_asm); (case Xₓ => k_asm); (case Tₓ => k_asm); (case h1ₓ => k_mem); (case h2ₓ => k_mem); (case h3ₓ => k_mem); (case h4ₓ => assumption); (case h5ₓ => assumption); (case h6ₓ => first | assumption | exact fun q hq => .tail _ ((‹∀ q ∈ pz _, q ∈ _›) q hq) | exact fun q hq => .tail _ (.tail _ ((‹∀ q ∈ pz _, q ∈ _›) q hq))); (case h7ₓ => first | assumption | exact fun q hq => .tail _ ((‹∀ q ∈ qz _ _, q ∈ _›) q hq) | exact fun q hq => .tail _ (.tail _ ((‹∀ q ∈ qz _ _, q ∈ _›) q hq))); (case h8ₓ => assumption)); intro FD'ₓ oFD'ₓ fs'ₓ h'ₓ tk'ₓ hFD'ₓ lFD'ₓ eFD'ₓ F'ₓ N'ₓ; have N2'ₓ := newsSub N'ₓ rows_sub2)
  k_with "k_lt_off" => skip
  k_with "k_ne" => (first | assumption | (apply Ne.symm; assumption) | exact ne_new (by assumption) (by k_mem) | exact Ne.symm (ne_new (by assumption) (by k_mem)))
  k_with "k_all" => first | assumption | (refine all_new (by assumption) ?_; intro qₓ hqₓ; repeat (first | with_reducible exact hqₓ | with_reducible apply List.mem_cons_of_mem))
  k_with "newTuple" => (k_here; k_dflt (refine' kup_newTuple ?Fₓ ?Nₓ ?_ ?zₓ; (case Fₓ => k_asm); (case Nₓ => k_asm); (case zₓ => kmk_size)); intro D'ₓ h'ₓ F'ₓ N'ₓ l1ₓ; (try k_sweep))
  k_with "call ref" => (k_here; (with_reducible show wpAny _ _ (call (Value.ref 65) _) _ _ _); k_dflt (refine' to_AL rfl ?dₓ ?uₓ (ackof_at ?Fₓ ?Nₓ ?Xₓ ?Tₓ ?hLₓ ?hzₓ ?_); (case dₓ => exact Nat.le_of_ble_eq_true rfl); (case uₓ => exact Nat.le_of_ble_eq_true rfl); (case Fₓ => k_asm); (case Nₓ => k_asm); (case Xₓ => k_asm); (case Tₓ => k_asm); (case hLₓ => k_mem); (case hzₓ => assumption)); intro D'ₓ c'ₓ h'ₓ tk'ₓ F'ₓ N'ₓ)
  k_with "eval IfExp" => ((have hst'ₓ : Stop := by assumption); clear hst'ₓ; refine Halt.out ?_)
  k_with "call builtin:sum" => (k_here; k_dflt (refine' sumL ?Fₓ ?Nₓ rfl ?lₓ ?iₓ ?_; (case Fₓ => k_asm); (case Nₓ => k_asm); (case iₓ => assumption); (case lₓ => k_mem)); intro h'ₓ tk'ₓ t'ₓ F'ₓ N'ₓ)
  trivial
theorem ackf_at {X XD EC RL : Addr} {zs : List RZ} {kR kE : Nat} {e0 e1 e2 hiA now ex : Int} {t0 t1 t2 tn te : Tok} {kx : Nat → Tok} {vName vNext vSent vLA vAK vLET vLT vLS vLTm vFU vUn vWN vHN vGone : Value}
    (F : Fr h₀ L s.heap m) (N : News h₀ L s.heap news) (X₀ : (heap w.params).In h₀) (T : Top p loose mean mg mb h₀)
    (hX : (X, instObj 220 XD) ∈ news) (hXD : (XD, xdO w kx vName vNext vSent vLA vAK vLET vLT (.ref RL) vLS vLTm vFU vUn vWN vHN (.ref EC) vGone) ∈ news) (hEC : (EC, listOf #[.int e0 t0, .int e1 t1, .int e2 t2] kE) ∈ news) (hRL : (RL, listOf (vz zs).toArray kR) ∈ news)
    (hzl : zs.length ≤ 31) (hx0 : 0 ≤ ex) (hx4 : ex < 4) (hlt : zs ≠ [] → OI vLTm (some hiA)) (hle : hiA ≤ now)
    (q0 : zs = [] → ∀ h' tk', Fr h₀ L h' m → News h₀ L h' news → Q .none { s with heap := h', toks := tk' })
    (q1 : zs ≠ [] → ∀ h' tk' TP RN kN tt td mk ml, Fr h₀ L h' m → News h₀ L h' ((TP, { cls := .type "tuple", data := .seq #[.str (Str.ofString "ack") tt, .int ((now - hiA).fdiv (2 ^ ex.toNat)) td, .ref RN, mk] }) :: (RN, listOf (vz zs).toArray kN) :: (ml ++ news)) → 
      ((mk = .none ∧ ml = [] ∧ ¬ 0 < e0 + e1 + e2) ∨ (∃ a, mk = .ref a ∧ ml = [(a, { cls := .type "tuple", data := .seq #[.int e0 t0, .int e1 t1, .int e2 t2] })] ∧ 0 < e0 + e1 + e2)) → Q (.ref TP) { s with heap := h', toks := tk' }) :
    wpAny (model prog w) (AL 340) (call (.ref 132) [.ref X, .int now tn, .int ex te]) Q (fun _ _ => False) s := by
  refine enter (binds := [(Str.ofString "self", .ref X), (Str.ofString "now", .int now tn), (Str.ofString "exponent", .int ex te)]) (W := news) F N X₀ T (fun _ h => h) (by k_dflt k_is) (by k_dflt k_is) (by decide) (BindsTo.of_eq rfl) (locs rfl) ?_ rfl rfl rfl (by decide)
  intro g L' h₁ tk hg F' N' X' T'
  have fin0 : zs = [] → ∀ h' tk' m', Fr g L' h' m' → News g L' h' news → Q .none { s with heap := h', toks := tk' } := fun z h' tk' m' F' N' => q0 z h' tk' (backF F N (fun _ h => h) hg F') (backN F N (fun _ h => h) hg N')
  have fin1 : zs ≠ [] → ∀ h' tk' m' TP RN kN tt td mk ml, Fr g L' h' m' → News g L' h' ((TP, { cls := .type "tuple", data := .seq #[.str (Str.ofString "ack") tt, .int ((now - hiA).fdiv (2 ^ ex.toNat)) td, .ref RN, mk] }) :: (RN, listOf (vz zs).toArray kN) :: (ml ++ news)) → 
      ((mk = .none ∧ ml = [] ∧ ¬ 0 < e0 + e1 + e2) ∨ (∃ a, mk = .ref a ∧ ml = [(a, { cls := .type "tuple", data := .seq #[.int e0 t0, .int e1 t1, .int e2 t2] })] ∧ 0 < e0 + e1 + e2)) → Q (.ref TP) { s with heap := h', toks := tk' } :=
    fun z h' tk' m' TP RN kN tt td mk ml F' N' hm => q1 z h' tk' TP RN kN tt td mk ml (backF F N (fun _ h => h) hg F') (backN F N (fun _ h => h) hg N') hm
  clear q0 q1 N X₀ T F hg
  have hzv : (vz zs).length ≤ 32 := by rw [vz_length]; omega
  have st : Stop := ⟨⟩
  (try dsimp only)
  k_unmd
  k_fold
  k_steps
  · exact fin0 (List.length_eq_zero_iff.mp (by omega)) _ _ _ (by assumption) (by assumption)
  have hz : zs ≠ [] := fun e => absurd (show (zs.length : Int) = 0 by rw [e]; rfl) (by assumption)
  obtain ⟨tl, rfl⟩ := hlt hz
  refine Halt.mk (mergeV (fun v => ∃ t, v = .int ((now - hiA).fdiv (2 ^ ex.toNat)) t) (by assumption) (by assumption) ?g1 ?g2)
  case g1 =>
    clear fin0 fin1 st
    have hm : (if now - hiA > 0 then now - hiA else 0) = now - hiA := by split <;> omega
    have hc : ex = 0 ∨ ex = 1 ∨ ex = 2 ∨ ex = 3 := by omega
    rcases hc with rfl | rfl | rfl | rfl
    all_goals
      k_steps
      exact MidV.intro (by assumption) (by assumption) (fun _ h => h) ⟨_, by rw [hm]⟩
  case g2 =>
    intro v h₂ tk₂ hv F₂ N₂
    obtain ⟨td, rfl⟩ := hv
    try dsimp only
    k_steps
    have hI : IntsAre [.int e0 t0, .int e1 t1, .int e2 t2] [e0, e1, e2] := .cons _ _ (.cons _ _ (.cons _ _ .nil))
    refine Halt.mk ?_
    clear st
    k_steps
    · refine fin1 hz _ _ _ _ _ _ _ _ (.ref _) [_] (by assumption) (newsSub (by assumption) (by k_sub)) (.inr ⟨_, rfl, rfl, ?_⟩)
      have h9 : 0 < [e0, e1, e2].sum := by assumption
      simp only [List.sum_cons, List.sum_nil] at h9
      omega
    · refine fin1 hz _ _ _ _ _ _ _ _ .none [] (by assumption) (newsSub (by assumption) (by k_sub)) (.inl ⟨rfl, rfl, ?_⟩)
      have h9 : ¬ 0 < [e0, e1, e2].sum := by assumption
      simp only [List.sum_cons, List.sum_nil] at h9
      omega
end

-- nolocal
-- needs: ackf lawr alike plain
section
variable {h₀ : Heap} {L : Addr}
theorem take_one {α : Type} {l : List α} {i : Nat} {a : α} (h : l[i]? = some a) : l.take (i + 1) = l.take i ++ [a] := by
  rw [List.take_add_one, h]; rfl
theorem pool_not {S : Addr} {o : Obj} (h : PoolO S o) (zs : List RZ) (k : Nat) : listOf (vz zs).toArray k ≠ o := by
  obtain ⟨a, b, c, d, e, rfl, _⟩ := h
  intro e
  injection e with e1 e2 e3 e4
  injection e3 with e5 e6
  have e7 := congrArg Array.toList e5
  cases zs with
  | nil => simp [vz] at e7
  | cons z r => simp [vz] at e7
theorem named {h : Heap} {l : List (Addr × Obj)} (N : News h₀ L h l) : ∃ T, T = l ∧ News h₀ L h T := ⟨_, rfl, N⟩
end
section
variable {prog : Program} {w : World} {A : Around} {E : Value → Shared → Prop} {s : Shared} {h₀ : Heap} {L : Addr} {Q : Value → Shared → Prop} {news : List (Addr × Obj)}
theorem rng_eqAt {a : Around} {r f : RZ} (hx : s.heap.get? r.a = some r.obj) (hy : s.heap.get? f.a = some f.obj) (e : r.rng = f.rng) (hu : a.units < cLine) : SeqAt.EqAt a s (.ref r.a) (.ref f.a) true := by
  by_cases ha : r.a = f.a
  · rw [ha]; exact SeqAt.EqAt.same _
  · refine SeqAt.EqAt.of_refs ha ?_
    have e1 : r.lo = f.lo := congrArg Prod.fst e
    have e2 : r.hi = f.hi := congrArg Prod.snd e
    have := SeqAt.RcAt.tuples (A := a) (s := s) (e := fun _ => true) (items := #[.int r.lo r.t, .int r.hi r.u]) (items2 := #[.int f.lo f.t, .int f.hi f.u]) ⟨_, hx, rfl, _, rfl⟩ ⟨_, hy, rfl, _, rfl⟩ hu ?_
    · exact this
    · intro j h1 _
      have hj : j = 0 ∨ j = 1 := by simp at h1; omega
      rcases hj with rfl | rfl
      · show SeqAt.EqAt _ _ (.int r.lo r.t) (.int f.lo f.t) true
        rw [e1]; exact int_same
      · show SeqAt.EqAt _ _ (.int r.hi r.u) (.int f.hi f.u) true
        rw [e2]; exact int_same
theorem ranges_eqAt {a : Around} {RN FL : Addr} {zs fz : List RZ} {k k' : Nat} (N : News h₀ L s.heap news) (h3 : (RN, listOf (vz zs).toArray k) ∈ news) (h4 : (FL, listOf (vz fz).toArray k') ∈ news) (hz : ∀ q ∈ tz zs, q ∈ news) (hf : ∀ q ∈ tz fz, q ∈ news) (e : rz zs = rz fz) (hu : a.units < cLine) (hu1 : a.in1.units < cLine) :
    SeqAt.EqAt a s (.ref RN) (.ref FL) true := by
  by_cases ha : RN = FL
  · rw [ha]; exact SeqAt.EqAt.same _
  refine SeqAt.EqAt.of_refs ha ?_
  have hlen : zs.length = fz.length := by have := congrArg List.length e; simpa [rz] using this
  have key := SeqAt.RcAt.lists (A := a) (s := s) (e := fun _ => true) (items := (vz zs).toArray) (items2 := (vz fz).toArray) ⟨_, (N _ h3).1, rfl, _, rfl⟩ ⟨_, (N _ h4).1, rfl, _, rfl⟩ (by simp [vz, hlen]) hu ?_
  · have e9 : (List.range (vz zs).toArray.size).all (fun _ => true) = true := List.all_eq_true.mpr fun _ _ => rfl
    rw [e9] at key
    exact key
  · intro j j1 j2
    have g1 : j < zs.length := by simpa [vz] using j1
    have g2 : j < fz.length := by simpa [vz] using j2
    have e1 : (vz zs).toArray[j] = .ref (zs[j]).a := by simp [vz]
    have e2 : (vz fz).toArray[j] = .ref (fz[j]).a := by simp [vz]
    rw [e1, e2]
    have e3 : (rz zs)[j]? = (rz fz)[j]? := by rw [e]
    have e4 : (zs[j]).rng = (fz[j]).rng := by
      simp only [rz, List.getElem?_map, List.getElem?_eq_getElem g1, List.getElem?_eq_getElem g2, Option.map_some, Option.some.injEq] at e3
      exact e3
    exact rng_eqAt (N _ (hz _ (tz_mem (List.getElem_mem g1)))).1 (N _ (hf _ (tz_mem (List.getElem_mem g2)))).1 e4 hu1
theorem told_eq {TP DU RN FL : Addr} {t1 t2 d1 d2 : Tok} {dl : Int} {zs fz : List RZ} {k k' : Nat} {mk v : Value} (N : News h₀ L s.heap news)
    (h1 : (TP, ({ cls := .type "tuple", data := .seq #[.str (Str.ofString "ack") t1, .int dl d1, .ref RN, mk] } : Obj)) ∈ news) (h2 : (DU, ({ cls := .type "tuple", data := .seq #[.str (Str.ofString "ack") t2, .int dl d2, .ref FL, v] } : Obj)) ∈ news)
    (h3 : (RN, listOf (vz zs).toArray k) ∈ news) (h4 : (FL, listOf (vz fz).toArray k') ∈ news) (hz : ∀ q ∈ tz zs, q ∈ news) (hf : ∀ q ∈ tz fz, q ∈ news) (e : rz zs = rz fz)
    (hm : SeqAt.EqAt A.in1 s mk v true) (hu : A.units < cLine) (hu1 : A.in1.units < cLine) (hu2 : A.in1.in1.units < cLine) (h : Q (.bool true) s) : wpAny (model prog w) A (compareOp .Eq (.ref TP) (.ref DU)) Q E s := by
  refine SeqAt.eq_tupleAt (e := fun _ => true) (items := #[.str (Str.ofString "ack") t1, .int dl d1, .ref RN, mk]) (items2 := #[.str (Str.ofString "ack") t2, .int dl d2, .ref FL, v]) ⟨_, (N _ h1).1, rfl, _, rfl⟩ ⟨_, (N _ h2).1, rfl, _, rfl⟩ hu ?_ h
  intro j j1 _
  have hj : j = 0 ∨ j = 1 ∨ j = 2 ∨ j = 3 := by simp at j1; omega
  rcases hj with rfl | rfl | rfl | rfl
  · have := str_eqAt (A := A.in1) (s := s) (Str.ofString "ack") (Str.ofString "ack") t1 t2
    rw [beq_self_eq_true] at this
    exact this
  · exact int_same
  · exact ranges_eqAt N h3 h4 hz hf e hu1 hu2
  · exact hm
/-- the marks' counts, if any -/
theorem marks_eqAt {a : Around} {CT : Addr} {e0 e1 e2 c0 c1 c2 : Int} {t0 t1 t2 u0 u1 u2 : Tok} {mk v : Value} {ml : List (Addr × Obj)} (N : News h₀ L s.heap news) (hml : ∀ q ∈ ml, q ∈ news)
    (hC : (CT, ({ cls := .type "tuple", data := .seq #[.int c0 u0, .int c1 u1, .int c2 u2] } : Obj)) ∈ news) (x0 : e0 = c0) (x1 : e1 = c1) (x2 : e2 = c2)
    (hmk : (mk = .none ∧ ml = [] ∧ ¬ 0 < e0 + e1 + e2) ∨ (∃ a, mk = .ref a ∧ ml = [(a, { cls := .type "tuple", data := .seq #[.int e0 t0, .int e1 t1, .int e2 t2] })] ∧ 0 < e0 + e1 + e2))
    (hv : (v = .ref CT ∧ 0 < c0 + c1 + c2) ∨ (v = .none ∧ ¬ 0 < c0 + c1 + c2)) (hu : a.units < cLine) : SeqAt.EqAt a s mk v true := by
  subst x0 x1 x2
  rcases hmk with ⟨rfl, _, hn⟩ | ⟨b, rfl, rfl, hp⟩
  · rcases hv with ⟨_, hp⟩ | ⟨rfl, _⟩
    · exact absurd hp hn
    · exact SeqAt.EqAt.same _
  · rcases hv with ⟨rfl, _⟩ | ⟨_, hn⟩
    · by_cases hb : b = CT
      · rw [hb]; exact SeqAt.EqAt.same _
      refine SeqAt.EqAt.of_refs hb ?_
      have := SeqAt.RcAt.tuples (A := a) (s := s) (e := fun _ => true) (items := #[.int e0 t0, .int e1 t1, .int e2 t2]) (items2 := #[.int e0 u0, .int e1 u1, .int e2 u2]) ⟨_, (N _ (hml _ (.head _))).1, rfl, _, rfl⟩ ⟨_, (N _ hC).1, rfl, _, rfl⟩ hu ?_
      · exact this
      · intro j h1 _
        have hj : j = 0 ∨ j = 1 ∨ j = 2 := by simp at h1; omega
        rcases hj with rfl | rfl | rfl
        · exact int_same
        · exact int_same
        · exact int_same
    · exact absurd hp hn
theorem canon_same : ∀ (a b : List (Int × Int)), CanonR a → CanonR b → (∀ x, covR a x ↔ covR b x) → a = b
  | [], [], _, _, _ => rfl
  | [], q :: r, _, hb, h => by
    have hb' := canon_cons.mp hb
    obtain ⟨_, hm, _⟩ := (h q.1).mpr ⟨q, .head _, Int.le_refl _, hb'.2.1⟩
    nomatch hm
  | p :: l, [], ha, _, h => by
    have ha' := canon_cons.mp ha
    obtain ⟨_, hm, _⟩ := (h p.1).mp ⟨p, .head _, Int.le_refl _, ha'.2.1⟩
    nomatch hm
  | p :: l, q :: r, ha, hb, h => by
    have ha' := canon_cons.mp ha
    have hb' := canon_cons.mp hb
    have big : ∀ {u : Int × Int} {v : List (Int × Int)}, CanonR (u :: v) → ∀ x, covR (u :: v) x → x ≤ u.2 := by
      intro u v hu x hx
      have hu' := canon_cons.mp hu
      rcases cov_cons.mp hx with q | ⟨c, hc, q⟩
      · exact q.2
      · have := hu'.1 c hc; have := hu'.2.1; omega
    have low : ∀ {u : Int × Int} {v : List (Int × Int)}, CanonR (u :: v) → ∀ x, covR (u :: v) x → u.1 - 1 ≤ x → u.1 ≤ x := by
      intro u v hu x hx hl
      have hu' := canon_cons.mp hu
      rcases cov_cons.mp hx with q | ⟨c, hc, q⟩
      · exact q.1
      · have := hu'.1 c hc; omega
    have c1 : ∀ {u : Int × Int} {v : List (Int × Int)} {x : Int}, u.1 ≤ x → x ≤ u.2 → covR (u :: v) x := fun {u v x} a b => cov_cons.mpr (.inl ⟨a, b⟩)
    have e2 : p.2 = q.2 := Int.le_antisymm (big hb _ ((h _).mp (c1 ha'.2.1 (Int.le_refl _)))) (big ha _ ((h _).mpr (c1 hb'.2.1 (Int.le_refl _))))
    have e1 : p.1 = q.1 := by
      rcases Int.lt_trichotomy p.1 q.1 with z | z | z
      · have := low hb (q.1 - 1) ((h _).mp (c1 (by omega) (by have := hb'.2.1; omega))) (Int.le_refl _)
        omega
      · exact z
      · have := low ha (p.1 - 1) ((h _).mpr (c1 (by omega) (by have := ha'.2.1; omega))) (Int.le_refl _)
        omega
    have e : p = q := Prod.ext e1 e2
    subst e
    rw [canon_same l r ha'.2.2 hb'.2.2 fun x => ?_]
    constructor
    · intro hx
      rcases cov_cons.mp ((h x).mp (cov_cons.mpr (.inr hx))) with z | z
      · obtain ⟨c, hc, w⟩ := hx
        have := ha'.1 c hc
        omega
      · exact z
    · intro hx
      rcases cov_cons.mp ((h x).mpr (cov_cons.mpr (.inr hx))) with z | z
      · obtain ⟨c, hc, w⟩ := hx
        have := hb'.1 c hc
        omega
      · exact z
theorem canon_snoc {o : Int × Int} {r : List (Int × Int)} : CanonR (r ++ [o]) ↔ CanonR r ∧ (∀ b ∈ r, o.2 + 1 < b.1) ∧ o.1 ≤ o.2 := by
  unfold CanonR
  rw [List.pairwise_append]
  simp only [List.mem_append, List.mem_singleton, forall_eq, List.pairwise_cons, List.not_mem_nil, false_imp_iff, implies_true, List.Pairwise.nil, and_true, true_and]
  constructor
  · rintro ⟨⟨h1, h2⟩, h3⟩
    exact ⟨⟨h1, fun q hq => h3 q (.inl hq)⟩, h2, h3 _ (.inr rfl)⟩
  · rintro ⟨⟨h1, h4⟩, h2, h3⟩
    refine ⟨⟨h1, h2⟩, fun q hq => ?_⟩
    rcases hq with hq | rfl
    · exact h4 q hq
    · exact h3
theorem cov_snoc {o : Int × Int} {r : List (Int × Int)} {x : Int} : covR (r ++ [o]) x ↔ covR r x ∨ (o.1 ≤ x ∧ x ≤ o.2) := by
  unfold covR
  constructor
  · rintro ⟨c, hc, q⟩
    rcases List.mem_append.mp hc with hc | hc
    · exact .inl ⟨c, hc, q⟩
    · rw [List.mem_singleton.mp hc] at q; exact .inr q
  · rintro (⟨c, hc, q⟩ | q)
    · exact ⟨c, List.mem_append_left _ hc, q⟩
    · exact ⟨o, List.mem_append_right _ (.head _), q⟩
theorem lawR_fold : ∀ (ns : List Int) (acc : List (Int × Int)) (tk : List Int), CanonR acc → (∀ x, covR acc x ↔ x ∈ tk) → (∀ n ∈ ns, ∀ t ∈ tk, n < t) → ns.Pairwise (· > ·) → CanonR (ns.foldl stepL acc) ∧ ∀ x, covR (ns.foldl stepL acc) x ↔ x ∈ tk ++ ns
  | [], acc, tk, hc, hv, _, _ => ⟨hc, fun x => by rw [List.append_nil]; exact hv x⟩
  | n :: ns, acc, tk, hc, hv, hl, hp => by
    have hp' := List.pairwise_cons.mp hp
    have key : CanonR (stepL acc n) ∧ ∀ x, covR (stepL acc n) x ↔ x ∈ tk ++ [n] := by
      rcases List.eq_nil_or_concat acc with rfl | ⟨pre, r, rfl⟩
      · refine ⟨canon_cons.mpr ⟨(fun _ h => nomatch h), Int.le_refl _, ⟨.nil, (fun _ h => nomatch h)⟩⟩, fun x => ?_⟩
        show covR ([] ++ [(n, n)]) x ↔ _
        rw [cov_snoc, hv x, List.mem_append, List.mem_singleton]
        constructor
        · rintro (q | q)
          · exact .inl q
          · exact .inr (by omega)
        · rintro (q | q)
          · exact .inl q
          · exact .inr (by omega)
      · rw [List.concat_eq_append] at hc hv ⊢
        have hc' := canon_snoc.mp hc
        have hr : n < r.1 := hl n (.head _) _ ((hv _).mp (cov_snoc.mpr (.inr ⟨Int.le_refl _, hc'.2.2⟩)))
        have e : stepL (pre ++ [r]) n = if r.1 = n + 1 then pre ++ [(n, r.2)] else (pre ++ [r]) ++ [(n, n)] := by
          unfold stepL
          simp
        rw [e]
        by_cases h1 : r.1 = n + 1
        · rw [if_pos h1]
          refine ⟨canon_snoc.mpr ⟨hc'.1, hc'.2.1, by have := hc'.2.2; show n ≤ r.2; omega⟩, fun x => ?_⟩
          rw [cov_snoc, List.mem_append, List.mem_singleton, ← hv x, cov_snoc, or_assoc]
          have := hc'.2.2
          refine or_congr Iff.rfl ?_
          show n ≤ x ∧ x ≤ r.2 ↔ _
          omega
        · rw [if_neg h1]
          refine ⟨canon_snoc.mpr ⟨hc, fun b hb => ?_, Int.le_refl _⟩, fun x => ?_⟩
          · show n + 1 < b.1
            rcases List.mem_append.mp hb with hb | hb
            · have := hc'.2.1 b hb; have := hc'.2.2; omega
            · rw [List.mem_singleton.mp hb]; omega
          · rw [cov_snoc, List.mem_append, List.mem_singleton, ← hv x]
            refine or_congr Iff.rfl ?_
            show n ≤ x ∧ x ≤ n ↔ _
            omega
    rw [List.foldl_cons]
    have := lawR_fold ns (stepL acc n) (tk ++ [n]) key.1 key.2 (fun q hq t ht => ?_) hp'.2
    · refine ⟨this.1, fun x => ?_⟩
      rw [this.2 x]
      simp
    · rcases List.mem_append.mp ht with ht | ht
      · exact hl q (.tail _ hq) t ht
      · rw [List.mem_singleton.mp ht]; exact hp'.1 q hq
theorem lawR_ok {ns : List Int} (h : ns.Pairwise (· > ·)) : CanonR (lawR ns) ∧ ∀ x, covR (lawR ns) x ↔ x ∈ ns := by
  have := lawR_fold ns [] [] ⟨.nil, (fun _ h => nomatch h)⟩ (fun x => ⟨(fun ⟨_, h, _⟩ => nomatch h), (fun h => nomatch h)⟩) (fun _ _ _ h => nomatch h) h
  rw [List.nil_append] at this
  exact this
theorem sorted_gt {ms ns : List Int} (hp : ms.Perm ns) (hs : ms.Pairwise (· ≤ ·)) (hn : ns.Nodup) : ms.reverse.Pairwise (· > ·) := by
  rw [List.pairwise_reverse]
  have hm : ms.Pairwise (· ≠ ·) := hp.nodup_iff.mpr hn
  have := hs.and hm
  exact this.imp fun h => by omega
theorem lawR_of {ms ns : List Int} (hp : ms.Perm ns) (hs : ms.Pairwise (· ≤ ·)) (hn : ns.Nodup) : CanonR (lawR ms.reverse) ∧ ∀ x, covR (lawR ms.reverse) x ↔ x ∈ ns := by
  have h := lawR_ok (sorted_gt hp hs hn)
  exact ⟨h.1, fun x => (h.2 x).trans (by rw [List.mem_reverse]; exact hp.mem_iff)⟩
theorem ranges_same {rs : List (Int × Int)} {ns ms : List Int} (hc : CanonR rs) (hv : ∀ x, covR rs x ↔ x ∈ ns) (hp : ms.Perm ns) (hs : ms.Pairwise (· ≤ ·)) (hn : ns.Nodup) : rs = lawR ms.reverse := by
  have h := lawR_of hp hs hn
  exact canon_same _ _ hc h.1 fun x => (hv x).trans (h.2 x).symm
/-- an ack went -/
theorem acked_ok {k : Nat} {D : Led} (O : D.Ok prog w k) {oP' oOD' : Obj} {vHN' : Value} {t1 t2 : Tok} (h1 : PoolO D.S oP') (h2 : oOD'.IsDictOf (strKind prog w) ({ D with un := 0, wn := false, vSince := .none, task := t2 } : Led).odk) :
    ({ D with oP := oP', oOD := oOD', un := 0, wn := false, fu := none, vFU := .none, vHN := vHN', vSince := .none, tun := t1, task := t2 } : Led).Ok prog w (k + 1) :=
  { O with pool := h1, od := h2, xFU := rfl, xSi := rfl, lk := Nat.le_succ_of_le O.lk, nxk := Int.le_trans O.nxk (by omega), lo := Nat.le_succ_of_le O.lo, tp := fun t ht => Int.le_trans (O.tp t ht) (by omega) }
end
/-! the law's own dict: what is stored -/
theorem put_since {vName vSeen vMarks vHigh vHighAt vSince vAsked vOnce vOut vNext vTop vLast vNow v : Value} : stored (odK vName vSeen vMarks vHigh vHighAt vSince vAsked vOnce vOut vNext vTop vLast vNow) (Str.ofString "since") v = odK vName vSeen vMarks vHigh vHighAt v vAsked vOnce vOut vNext vTop vLast vNow := by rfl
theorem put_asked {vName vSeen vMarks vHigh vHighAt vSince vAsked vOnce vOut vNext vTop vLast vNow v : Value} : stored (odK vName vSeen vMarks vHigh vHighAt vSince vAsked vOnce vOut vNext vTop vLast vNow) (Str.ofString "asked") v = odK vName vSeen vMarks vHigh vHighAt vSince v vOnce vOut vNext vTop vLast vNow := by rfl
theorem put_at_once {vName vSeen vMarks vHigh vHighAt vSince vAsked vOnce vOut vNext vTop vLast vNow v : Value} : stored (odK vName vSeen vMarks vHigh vHighAt vSince vAsked vOnce vOut vNext vTop vLast vNow) (Str.ofString "at_once") v = odK vName vSeen vMarks vHigh vHighAt vSince vAsked v vOut vNext vTop vLast vNow := by rfl
theorem put_out {vName vSeen vMarks vHigh vHighAt vSince vAsked vOnce vOut vNext vTop vLast vNow v : Value} : stored (odK vName vSeen vMarks vHigh vHighAt vSince vAsked vOnce vOut vNext vTop vLast vNow) (Str.ofString "out") v = odK vName vSeen vMarks vHigh vHighAt vSince vAsked vOnce v vNext vTop vLast vNow := by rfl
theorem put_top {vName vSeen vMarks vHigh vHighAt vSince vAsked vOnce vOut vNext vTop vLast vNow v : Value} : stored (odK vName vSeen vMarks vHigh vHighAt vSince vAsked vOnce vOut vNext vTop vLast vNow) (Str.ofString "top") v = odK vName vSeen vMarks vHigh vHighAt vSince vAsked vOnce vOut vNext v vLast vNow := by rfl
section
variable {prog : Program} {w : World} {A : Around} {E : Value → Shared → Prop} {s : Shared} {h₀ : Heap} {L : Addr} {m : Str → Option Value} {news : List (Addr × Obj)}
theorem own_set {OD : Addr} {oOD : Obj} {gg : Obj → List (Addr × Obj)} {kvs kvs' : List (Str × Value)} {k : Str} {t : Tok} {v : Value} {Q : Unit → Shared → Prop} (F : Fr h₀ L s.heap m) (N : News h₀ L s.heap news) (U : UpdF OD oOD news gg) (hd : oOD.IsDictOf (strKind prog w) kvs) (hz : kvs.length = 13) (e : stored kvs k v = kvs')
    (h : ∀ h' o' tk', Fr h₀ L h' m → News h₀ L h' (gg o') → o'.IsDictOf (strKind prog w) kvs' → Q () { s with heap := h', toks := tk' }) : wpAny (model prog w) A (setItem (.ref OD) (.str k t) v) Q E s :=
  kda_set F N U hd (strKind_is _ _ _ _) (by rw [sizeLine_eq]; omega) fun h' o' F' N' hd' => h h' o' _ F' N' (e ▸ hd')
end

-- needs: octs eng small
section
variable {prog : Program} {w : World} {A : Around} {E : Value → Shared → Prop} {s : Shared} {h₀ : Heap} {L : Addr} {m mg mb : Str → Option Value}
  {p : Program} {loose : List Str} {mean : ExcName → Option Value} {Q : Value → Shared → Prop} {news : List (Addr × Obj)}
theorem words_forget_1 : True := by
  k_with_none
  k_with "k_enter" => (refine' code_defM ?k1ₓ ?k2ₓ ?k3ₓ ?k5ₓ ?k6ₓ ?k7ₓ ?k8ₓ ?k9ₓ ?kBₓ ?_ ?c2ₓ ?c3ₓ ?c4ₓ ?c5ₓ; (case k1ₓ => k_asm); (case k2ₓ => k_asm); (case k3ₓ => k_asm); (case k5ₓ => k_asm); (case k6ₓ => k_is); (case k7ₓ => k_is); (case k8ₓ => exact Nat.le_of_ble_eq_true rfl); (case k9ₓ => exact rfl); (case c5ₓ => decide); (case kBₓ => exact locs rfl); (case c2ₓ => exact rfl); (case c3ₓ => exact rfl); (case c4ₓ => exact rfl); k_whole; intro g'ₓ L'ₓ h'ₓ FG'ₓ F'ₓ N'ₓ X'ₓ T'ₓ; (try dsimp only [List.map, List.zip, List.zipWith] at F'ₓ); (try dsimp only); (try k_fold))
  k_with "k_mem" => first | with_reducible assumption | with_reducible exact List.mem_cons_self | (with_reducible apply List.mem_cons_of_mem; k_mem)
  k_with "k_all" => first | assumption | exact allLt_off (by assumption)
  k_with "size_fits" => first | assumption | (simp only [Array.size_push, List.size_toArray, List.length_append, List.length_cons, List.length_nil, vz_length, PySem.sizeLine_eq]; omega)
  k_with "binaryOp Add ref ref" => (k_here; (with_reducible show wpAny _ _ (binaryOp _ (Value.ref _) (Value.ref _)) _ _ _); k_dflt (refine' addL ?Fₓ ?Nₓ ?aₓ ?bₓ ?zₓ ?_; (case Fₓ => k_asm); (case Nₓ => k_asm); (case aₓ => k_mem); (case bₓ => k_mem); (case zₓ => (simp only [List.length_cons, List.length_nil, vz_length, sizeLine_eq]; omega))); intro D'ₓ h'ₓ F'ₓ N'ₓ l1ₓ; (try k_lt l1ₓ); (try k_sweep))
  k_with "k_sub" => ((try simp only [List.cons_append, List.nil_append]); (repeat ((with_reducible refine List.forall_mem_cons.mpr ⟨?_, ?_⟩); (next => (first | ((repeat (first | with_reducible exact List.mem_cons_self | with_reducible apply List.mem_cons_of_mem)); done) | (repeat (first | exact List.mem_cons_self | apply List.mem_cons_of_mem)))))); intro qₓ hqₓ; first | with_reducible exact absurd hqₓ List.not_mem_nil | (repeat (first | with_reducible exact hqₓ | with_reducible exact List.mem_append_left _ hqₓ | with_reducible exact List.mem_append_right _ hqₓ | with_reducible apply List.mem_cons_of_mem)))
  k_with "SrcLP" => (k_here; k_dflt (refine LCp.SrcLP.ledger (by rfl) (by k_asm) (by k_asm) (by k_mem) (by size_fits) ?_); intro g'ₓ; refine Halt.out ?_)
  k_with "CompSrc" => (k_here; k_dflt (refine LCg.CompSrc.ledger (by rfl) (by k_asm) (by k_asm) (by k_mem) (by size_fits) ?_); intro g'ₓ; refine Halt.out ?_)
  k_with "CompSrcT" => (k_here; k_dflt (refine LCt.CompSrcT.ledger (by rfl) (by k_asm) (by k_asm) (by k_mem) (by size_fits) ?_); intro g'ₓ; refine Halt.out ?_)
  k_with "CompEnd" => (refine Halt.out ?_)
  k_with "lsm_bools" => assumption
  k_with "eval Name" => (k_here; k_dflt (refine' nameX_L ?Fₓ ?vₓ ?_ ?aₓ ?bₓ; (case Fₓ => k_asm); (case aₓ => rfl); (case bₓ => rfl); (case vₓ => first | exact rfl | assumption); k_whole))
  k_with "eval Name" => (k_here; (with_reducible show wpAny _ _ (eval (Expr.Name _ _) (envOf _ _ _ _ _)) _ _ _); k_dflt (refine' ld ?k1ₓ ?k2ₓ ?_; (case k1ₓ => k_asm); (case k2ₓ => first | exact rfl | assumption); k_whole))
  k_with "k_ne" => (first | assumption | (apply Ne.symm; assumption) | exact Nat.ne_of_lt (by assumption) | exact Nat.ne_of_gt (by assumption))
  k_with "call builtin:len" => (k_here; (with_reducible show wpAny _ _ (call (Value.builtin "len") [Value.ref _]) _ _ _); k_dflt (refine' lenL ?Nₓ ?aₓ ?zₓ ?_; (case Nₓ => k_asm); (case aₓ => k_mem); (case zₓ => (simp only [vz_length]; omega))); (try simp only [vz_length]))
  k_with "setItem ref int" => (k_here; k_dflt (refine' kda_set (knd := PySem.intKind _ _) ?Fₓ ?Nₓ ?Uₓ ?dₓ (intKind_is _ _ _ _) ?zₓ ?_; (case Fₓ => k_asm); (case Nₓ => k_asm); (case Uₓ => k_updF); (case dₓ => assumption); (case zₓ => assumption)); intro h'ₓ o'ₓ F'ₓ N'ₓ hd'ₓ; (try k_sweep))
  k_with "call ref" => (k_here; (with_reducible show wpAny _ _ (call (Value.ref 238) _) _ _ _); k_dflt (refine' to_AL rfl ?dₓ ?uₓ (draw_at ?Fₓ ?Nₓ ?Xₓ ?Tₓ ?Uₓ ?oₓ ?hPₓ ?hSₓ ?hiₓ ?hlₓ ?psₓ ?hmₓ ?_); (case dₓ => exact Nat.le_of_ble_eq_true rfl); (case uₓ => exact Nat.le_of_ble_eq_true rfl); (case Fₓ => k_asm); (case Nₓ => k_asm); (case Xₓ => k_asm); (case Tₓ => k_asm); (case Uₓ => k_updF); (case oₓ => assumption); (case hPₓ => k_mem); (case hSₓ => k_mem); (case hiₓ => assumption); (case hlₓ => assumption); (case psₓ => k_ne); (case hmₓ => first | decide | assumption)); intro v'ₓ t'ₓ o'ₓ h'ₓ tk'ₓ hv0'ₓ hv1'ₓ oP'ₓ F'ₓ N'ₓ; (try dsimp only at N'ₓ); (try k_sweep))
  k_with "call ref" => (k_here; (with_reducible show wpAny _ _ (call (Value.ref 53) _) _ _ _); k_dflt (refine' to_AL rfl ?dₓ ?uₓ (add_at ?Fₓ ?Nₓ ?Xₓ ?Tₓ ?hLₓ ?hzₓ ?hlenₓ ?_); (case dₓ => exact Nat.le_of_ble_eq_true rfl); (case uₓ => exact Nat.le_of_ble_eq_true rfl); (case Fₓ => k_asm); (case Nₓ => k_asm); (case Xₓ => k_asm); (case Tₓ => k_asm); (case hLₓ => k_mem); (case hzₓ => k_sub); (case hlenₓ => first | assumption | omega)); intro RL' z' rs' k' h' tk' F' N' n1' n2' n3' er' es' el'; (repeat (replace n1' := List.forall_mem_cons.mp n1'; (have hn' := And.left n1'); replace n1' := And.right n1'; try dsimp only at hn')); (repeat (replace n2' := List.forall_mem_cons.mp n2'; (have hn' := And.left n2'); replace n2' := And.right n2'; try dsimp only at hn')); (try dsimp only at n3'); (try k_sweep))
  k_with "call ref" => (k_here; (with_reducible show wpAny _ _ (call (Value.ref 58) _) _ _ _); k_dflt (refine' to_AL rfl ?dₓ ?uₓ (has_at ?Fₓ ?Nₓ ?Xₓ ?Tₓ ?hLₓ ?hzₓ ?hlenₓ ?_); (case dₓ => exact Nat.le_of_ble_eq_true rfl); (case uₓ => exact Nat.le_of_ble_eq_true rfl); (case Fₓ => k_asm); (case Nₓ => k_asm); (case Xₓ => k_asm); (case Tₓ => k_asm); (case hLₓ => k_mem); (case hzₓ => k_sub); (case hlenₓ => first | assumption | omega)); intro h'ₓ tk'ₓ F'ₓ N'ₓ; (try k_sweep))
  k_with "call ref" => (k_here; (with_reducible show wpAny _ _ (call (Value.ref 41) _) _ _ _); k_dflt (refine' to_AL rfl ?dₓ ?uₓ (anyel_at ?Fₓ ?Nₓ ?Xₓ ?Tₓ ?hLₓ ?hzₓ ?oₓ ?hlₓ ?_); (case dₓ => exact Nat.le_of_ble_eq_true rfl); (case uₓ => exact Nat.le_of_ble_eq_true rfl); (case Fₓ => k_asm); (case Nₓ => k_asm); (case Xₓ => k_asm); (case Tₓ => k_asm); (case hLₓ => k_mem); (case hzₓ => (intro qₓ hqₓ; first | (refine mem_in ((‹∀ qₓ ∈ tf _, qₓ ∈ _›) qₓ hqₓ) ?_; first | exact ⟨1, rfl⟩ | exact ⟨2, rfl⟩ | exact ⟨3, rfl⟩ | exact ⟨4, rfl⟩ | exact ⟨5, rfl⟩ | exact ⟨6, rfl⟩ | exact ⟨7, rfl⟩ | exact ⟨8, rfl⟩ | exact ⟨9, rfl⟩ | exact ⟨10, rfl⟩ | exact ⟨11, rfl⟩ | exact ⟨12, rfl⟩ | exact ⟨13, rfl⟩ | exact ⟨14, rfl⟩ | exact ⟨15, rfl⟩) | (repeat (first | with_reducible exact (‹∀ qₓ ∈ tf _, qₓ ∈ _›) qₓ hqₓ | with_reducible apply List.mem_cons_of_mem)))); (case oₓ => assumption); (case hlₓ => assumption)); intro h'ₓ tk'ₓ F'ₓ N'ₓ; (try k_sweep))
  k_with "call ref" => (k_here; (with_reducible show wpAny _ _ (call (Value.ref 46) _) _ _ _); k_dflt (refine' to_AL rfl ?dₓ ?uₓ (anyfl_at ?Fₓ ?Nₓ ?Xₓ ?Tₓ ?hLₓ ?hzₓ ?oₓ ?hlₓ ?_); (case dₓ => exact Nat.le_of_ble_eq_true rfl); (case uₓ => exact Nat.le_of_ble_eq_true rfl); (case Fₓ => k_asm); (case Nₓ => k_asm); (case Xₓ => k_asm); (case Tₓ => k_asm); (case hLₓ => k_mem); (case hzₓ => (intro qₓ hqₓ; first | (refine mem_in ((‹∀ qₓ ∈ tf _, qₓ ∈ _›) qₓ hqₓ) ?_; first | exact ⟨1, rfl⟩ | exact ⟨2, rfl⟩ | exact ⟨3, rfl⟩ | exact ⟨4, rfl⟩ | exact ⟨5, rfl⟩ | exact ⟨6, rfl⟩ | exact ⟨7, rfl⟩ | exact ⟨8, rfl⟩ | exact ⟨9, rfl⟩ | exact ⟨10, rfl⟩ | exact ⟨11, rfl⟩ | exact ⟨12, rfl⟩ | exact ⟨13, rfl⟩ | exact ⟨14, rfl⟩ | exact ⟨15, rfl⟩) | (repeat (first | with_reducible exact (‹∀ qₓ ∈ tf _, qₓ ∈ _›) qₓ hqₓ | with_reducible apply List.mem_cons_of_mem)))); (case oₓ => assumption); (case hlₓ => assumption)); intro h'ₓ tk'ₓ F'ₓ N'ₓ; (try k_sweep))
  k_with "call ref" => (k_here; (with_reducible show wpAny _ _ (call (Value.ref 203) _) _ _ _); k_dflt (refine' to_AL rfl ?dₓ ?uₓ (octs_at ?Fₓ ?Nₓ ?Xₓ ?Tₓ ?h1ₓ ?h2ₓ ?h3ₓ ?h4ₓ ?h5ₓ ?h6ₓ ?h7ₓ ?h8ₓ ?_); (case dₓ => exact Nat.le_of_ble_eq_true rfl); (case uₓ => exact Nat.le_of_ble_eq_true rfl); (case Fₓ => k_asm); (case Nₓ => k_asm); (case Xₓ => k_asm); (case Tₓ => k_asm); (case h1ₓ => k_mem); (case h2ₓ => k_mem); (case h3ₓ => k_mem); (case h4ₓ => assumption); (case h5ₓ => assumption); (case h6ₓ => first | assumption | exact fun q hq => .tail _ ((‹∀ q ∈ pz _, q ∈ _›) q hq) | exact fun q hq => .tail _ (.tail _ ((‹∀ q ∈ pz _, q ∈ _›) q hq))); (case h7ₓ => first | assumption | exact fun q hq => .tail _ ((‹∀ q ∈ qz _ _, q ∈ _›) q hq) | exact fun q hq => .tail _ (.tail _ ((‹∀ q ∈ qz _ _, q ∈ _›) q hq))); (case h8ₓ => assumption)); intro h'ₓ tk'ₓ t'ₓ F'ₓ N'ₓ)
  k_with "call ref" => (k_here; (with_reducible show wpAny _ _ (call (Value.ref 198) _) _ _ _); k_dflt (refine' to_AL rfl ?dₓ ?uₓ (elic_at ?Fₓ ?Nₓ ?Xₓ ?Tₓ ?h1ₓ ?h2ₓ ?h3ₓ ?h4ₓ ?h5ₓ ?h6ₓ ?h7ₓ ?h8ₓ ?_); (case dₓ => exact Nat.le_of_ble_eq_true rfl); (case uₓ => exact Nat.le_of_ble_eq_true rfl); (case Fₓ => k_asm); (case Nₓ => k_asm); (case Xₓ => k_asm); (case Tₓ => k_asm); (case h1ₓ => k_mem); (case h2ₓ => k_mem); (case h3ₓ => k_mem); (case h4ₓ => assumption); (case h5ₓ => assumption); (case h6ₓ => first | assumption | exact fun q hq => .tail _ ((‹∀ q ∈ pz _, q ∈ _›) q hq) | exact fun q hq => .tail _ (.tail _ ((‹∀ q ∈ pz _, q ∈ _›) q hq))); (case h7ₓ => first | assumption | exact fun q hq => .tail _ ((‹∀ q ∈ qz _ _, q ∈ _›) q hq) | exact fun q hq => .tail _ (.tail _ ((‹∀ q ∈ qz _ _, q ∈ _›) q hq))); (case h8ₓ => assumption)); intro h'ₓ tk'ₓ F'ₓ N'ₓ)
  k_with "call ref" => (k_here; (with_reducible show wpAny _ _ (call (Value.ref 210) _) _ _ _); k_dflt (refine' to_AL rfl ?dₓ ?uₓ (rows_at ?Fₓ ?Nₓ ?Xₓ ?Tₓ ?h1ₓ ?h2ₓ ?h3ₓ ?h4ₓ ?h5ₓ ?h6ₓ ?h7ₓ ?h8ₓ ?_); (case dₓ => exact Nat.le_of_ble_eq_true rfl); (case uₓ => exact Nat.le_of_ble_eq_true rfl); (case Fₓ => k_asm); (case Nₓ => k_asm); (case Xₓ => k_asm); (case Tₓ => k_asm); (case h1ₓ => k_mem); (case h2ₓ => k_mem); (case h3ₓ => k_mem); (case h4ₓ => assumption); (case h5ₓ => assumption); (case h6ₓ => first | assumption | exact fun q hq => .tail _ ((‹∀ q ∈ pz _, q ∈ _›) q hq) | exact fun q hq => .tail _ (.tail _ ((‹∀ q ∈ pz _, q ∈ _›) q hq))); (case h7ₓ => first | assumption | exact fun q hq => .tail _ ((‹∀ q ∈ qz _ _, q ∈ _›) q hq) | exact fun q hq => .tail _ (.tail _ ((‹∀ q ∈ qz _ _, q ∈ _›) q hq))); (case h8ₓ => assumption)); intro FD'ₓ oFD'ₓ fs'ₓ h'ₓ tk'ₓ hFD'ₓ lFD'ₓ eFD'ₓ F'ₓ N'ₓ; have N2'ₓ := newsSub N'ₓ rows_sub2)
  k_with "k_lt_off" => skip
  k_with "k_ne" => (first | assumption | (apply Ne.symm; assumption))
  k_with "k_mem" => (first | with_reducible assumption | exact mem_at 0 rfl | exact mem_at 1 rfl | exact mem_at 2 rfl | exact mem_at 3 rfl | exact mem_at 4 rfl | exact mem_at 5 rfl | exact mem_at 6 rfl | exact mem_at 7 rfl | exact mem_at 8 rfl | exact mem_at 9 rfl | exact mem_at 10 rfl | exact mem_at 11 rfl | exact mem_at 12 rfl | exact mem_at 13 rfl | exact mem_at 14 rfl | (refine mem_in (by with_reducible assumption) ?_; first | exact ⟨1, rfl⟩ | exact ⟨2, rfl⟩ | exact ⟨3, rfl⟩ | exact ⟨4, rfl⟩ | exact ⟨5, rfl⟩ | exact ⟨6, rfl⟩ | exact ⟨7, rfl⟩ | exact ⟨8, rfl⟩ | exact ⟨9, rfl⟩ | exact ⟨10, rfl⟩ | exact ⟨11, rfl⟩ | exact ⟨12, rfl⟩ | exact ⟨13, rfl⟩ | exact ⟨14, rfl⟩ | exact ⟨15, rfl⟩))
  k_with "k_updF" => (first | exact updF_at 0 (by assumption) rfl rfl | exact updF_at 1 (by assumption) rfl rfl | exact updF_at 2 (by assumption) rfl rfl | exact updF_at 3 (by assumption) rfl rfl | exact updF_at 4 (by assumption) rfl rfl | exact updF_at 5 (by assumption) rfl rfl | exact updF_at 6 (by assumption) rfl rfl | exact updF_at 7 (by assumption) rfl rfl | exact updF_at 8 (by assumption) rfl rfl | exact updF_at 9 (by assumption) rfl rfl | exact updF_at 10 (by assumption) rfl rfl | exact updF_at 11 (by assumption) rfl rfl | exact updF_at 12 (by assumption) rfl rfl)
  k_with "k_upd" => (first | exact upd_at 0 (by assumption) rfl rfl | exact upd_at 1 (by assumption) rfl rfl | exact upd_at 2 (by assumption) rfl rfl | exact upd_at 3 (by assumption) rfl rfl | exact upd_at 4 (by assumption) rfl rfl | exact upd_at 5 (by assumption) rfl rfl | exact upd_at 6 (by assumption) rfl rfl | exact upd_at 7 (by assumption) rfl rfl | exact upd_at 8 (by assumption) rfl rfl | exact upd_at 9 (by assumption) rfl rfl | exact upd_at 10 (by assumption) rfl rfl | exact upd_at 11 (by assumption) rfl rfl | exact upd_at 12 (by assumption) rfl rfl)
  k_with "k_sweep" => (rename News _ _ _ _ => N9ₓ; first | (have hS9ₓ := sep_have N9ₓ (by with_reducible assumption); clear hS9ₓ) | (refine let_new2 N9ₓ (by assumption) (by assumption) (by assumption) ?_; clear N9ₓ; intro l9ₓ N9ₓ S9ₓ) | (refine let_new N9ₓ (by assumption) (by assumption) ?_; clear N9ₓ; intro l9ₓ N9ₓ S9ₓ) | (refine let_set N9ₓ (by assumption) rfl ?_; clear N9ₓ; intro l9ₓ N9ₓ S9ₓ))
  k_with "k_sub" => ((repeat ((with_reducible refine List.forall_mem_cons.mpr ⟨?_, ?_⟩); (next => k_mem))); intro qₓ hqₓ; first | with_reducible exact absurd hqₓ List.not_mem_nil | with_reducible exact hqₓ | exact mem_off 1 rfl hqₓ | exact mem_off 2 rfl hqₓ | exact mem_off 3 rfl hqₓ | exact mem_off 4 rfl hqₓ | exact mem_off 5 rfl hqₓ | exact mem_off 6 rfl hqₓ | exact mem_off 7 rfl hqₓ | exact mem_off 8 rfl hqₓ | exact mem_off 9 rfl hqₓ | exact mem_off 10 rfl hqₓ | exact mem_off 11 rfl hqₓ | exact mem_off 12 rfl hqₓ | exact mem_off 13 rfl hqₓ | exact mem_off 14 rfl hqₓ | exact mem_off 15 rfl hqₓ)
  trivial
theorem forget_at {X XD SD : Addr} {oSD : Obj} {os : List OZ} {kx : Nat → Tok} {vName vNext vLA vAK vLET vLT vRec vLS vLTm vFU vUn vWN vHN vECN vGone : Value} {gg : Obj → List (Addr × Obj)}
    (F : Fr h₀ L s.heap m) (N : News h₀ L s.heap news) (X₀ : (heap w.params).In h₀) (T : Top p loose mean mg mb h₀)
    (hX : (X, instObj 220 XD) ∈ news) (hXD : (XD, xdO w kx vName vNext (.ref SD) vLA vAK vLET vLT vRec vLS vLTm vFU vUn vWN vHN vECN vGone) ∈ news) (hSD : (SD, oSD) ∈ news) (hd : oSD.IsDictOf (intKind prog w) (sentK os)) (lo : (SD == sysModules) = false)
    (hp : ∀ q ∈ pz os, q ∈ news) (hq : ∀ q ∈ qz w os, q ∈ news) (hol : os.length ≤ 1000) (U : UpdF XD (xdO w kx vName vNext (.ref SD) vLA vAK vLET vLT vRec vLS vLTm vFU vUn vWN vHN vECN vGone) news gg)
    (n1 : @Ne Nat X XD) (n2 : @Ne Nat SD XD) (n3 : ∀ q ∈ pz os, @Ne Nat q.1 XD) (n4 : ∀ q ∈ qz w os, @Ne Nat q.1 XD)
    (h : ∀ (SD2 : Addr) (oSD2 : Obj) vRec2 vUn2 vWN2 vHN2 vGone2 vLET2 vLT2 h' tk' t, oSD2.IsDictOf (intKind prog w) (sentK []) → (SD2 == sysModules) = false → Fr h₀ L h' m →
      News h₀ L h' ((SD2, oSD2) :: gg (xdO w kx vName vNext (.ref SD2) vLA vAK vLET2 vLT2 vRec2 vLS vLTm .none vUn2 vWN2 vHN2 vECN vGone2)) → Q (.int ((os.filter fun o => o.ct).map fun o => o.sz).sum t) { s with heap := h', toks := tk' }) :
    wpAny (model prog w) (AL 340) (call (.ref 217) [.ref X]) Q (fun _ _ => False) s := by
  obtain ⟨RO, hRO⟩ : ∃ RO, RO = (X, instObj 220 XD) :: (SD, oSD) :: (pz os ++ qz w os) := ⟨_, rfl⟩
  have bX : (X, instObj 220 XD) ∈ RO := hRO ▸ .head _
  have bS : (SD, oSD) ∈ RO := hRO ▸ .tail _ (.head _)
  have bp : ∀ q ∈ pz os, q ∈ RO := fun q hq => hRO ▸ .tail _ (.tail _ (List.mem_append_left _ hq))
  have bq : ∀ q ∈ qz w os, q ∈ RO := fun q hq => hRO ▸ .tail _ (.tail _ (List.mem_append_right _ hq))
  have hW : ∀ q ∈ (XD, xdO w kx vName vNext (.ref SD) vLA vAK vLET vLT vRec vLS vLTm vFU vUn vWN vHN vECN vGone) :: RO, q ∈ news := by
    rw [hRO]
    exact List.forall_mem_cons.mpr ⟨hXD, List.forall_mem_cons.mpr ⟨hX, List.forall_mem_cons.mpr ⟨hSD, List.forall_mem_append.mpr ⟨hp, hq⟩⟩⟩⟩
  have tR : ∀ q ∈ RO, @Ne Nat q.1 XD := by
    rw [hRO]
    exact List.forall_mem_cons.mpr ⟨n1, List.forall_mem_cons.mpr ⟨n2, List.forall_mem_append.mpr ⟨n3, n4⟩⟩⟩
  refine enter (binds := [(Str.ofString "self", .ref X)]) (W := (XD, xdO w kx vName vNext (.ref SD) vLA vAK vLET vLT vRec vLS vLTm vFU vUn vWN vHN vECN vGone) :: RO) F N X₀ T hW (by k_dflt k_is) (by k_dflt k_is) (by decide) (BindsTo.of_eq rfl) (locs rfl) ?_ rfl rfl rfl (by decide)
  intro g L' h₁ tk hg F' N' X' T'
  have fin : ∀ (SD2 : Addr) (oSD2 : Obj) vRec2 vUn2 vWN2 vHN2 vGone2 vLET2 vLT2 h' tk' t m', oSD2.IsDictOf (intKind prog w) (sentK []) → (SD2 == sysModules) = false → Fr g L' h' m' →
      News g L' h' ((SD2, oSD2) :: (XD, xdO w kx vName vNext (.ref SD2) vLA vAK vLET2 vLT2 vRec2 vLS vLTm .none vUn2 vWN2 vHN2 vECN vGone2) :: RO) → Q (.int ((os.filter fun o => o.ct).map fun o => o.sz).sum t) { s with heap := h', toks := tk' } :=
    fun SD2 oSD2 vRec2 vUn2 vWN2 vHN2 vGone2 vLET2 vLT2 h' tk' t m' a1 a2 F' N' => h SD2 oSD2 vRec2 vUn2 vWN2 vHN2 vGone2 vLET2 vLT2 h' tk' t a1 a2 (backF F N hW hg F') (List.forall_mem_cons.mpr ⟨backN F N hW hg N' _ (.head _), back1 F N U hW hg F' (newsSub N' fun q hq => .tail _ hq)⟩)
  clear h N X₀ T F hg hW hX hXD hSD hp hq U hRO n1 n2 n3 n4
  refine let_on (n := 1) N' (Sep.cons tR Sep.zero) ?_
  clear N'
  intro l6 N6 S6
  (try dsimp only)
  k_unmd
  k_fold
  k_steps
  rename News g L' _ _ => N9
  rename Fr g L' _ _ => F9
  exact fin _ _ _ _ _ _ _ _ _ _ _ _ _ (by assumption) (by assumption) F9 (newsSub N9 (List.forall_mem_cons.mpr ⟨mem_at 1 rfl, List.forall_mem_cons.mpr ⟨mem_at 2 rfl, fun q hq => mem_in hq ⟨3, rfl⟩⟩⟩))
end

-- needs: teq
section
variable {prog : Program} {w : World} {A : Around} {E : Value → Shared → Prop} {s : Shared} {h₀ : Heap} {L : Addr} {Q : Value → Shared → Prop} {news : List (Addr × Obj)}
theorem sumT {m : Str → Option Value} {t : Addr} {vs : List Value} {ns : List Int} {TE : List (Addr × Obj)} {x y z : Addr × Obj} (F : Fr h₀ L s.heap m) (N : News h₀ L s.heap (x :: y :: z :: TE)) (hh : A.handled = none) (hm : (t, ({ cls := .type "tuple", data := .seq vs.toArray } : Obj)) ∈ TE) (hi : IntsAre vs ns)
    (h : ∀ h' tk t', Fr h₀ L h' m → News h₀ L h' (x :: y :: z :: TE) → Q (.int ns.sum t') { s with heap := h', toks := tk }) :
    wpAny (model prog w) A (call (.builtin "sum") [.ref t]) Q E s := ktm_sumK hh F N (.tail _ (.tail _ (.tail _ hm))) hi h
theorem eq_nil {a b : Addr} {vs : List Value} {k j : Nat} {r : Bool} (N : News h₀ L s.heap news) (ha : (a, listOf vs.toArray k) ∈ news) (hb : (b, listOf #[] j) ∈ news) (hu : A.units < cLine) (e : vs.isEmpty = r) (h : Q (.bool r) s) :
    wpAny (model prog w) A (compareOp .Eq (.ref a) (.ref b)) Q E s := by
  have hl : s.heap.IsList a vs.toArray := ⟨_, (N _ ha).1, rfl, _, rfl⟩
  have hr : s.heap.IsList b #[] := ⟨_, (N _ hb).1, rfl, _, rfl⟩
  cases vs with
  | nil =>
    subst e
    exact SeqAt.eq_listAt (e := fun _ => true) hl hr rfl hu (fun j h1 _ => absurd h1 (Nat.not_lt_zero _)) h
  | cons v vs =>
    subst e
    exact SeqAt.eq_list_lengthsAt hl hr rfl hu h
end
section
variable {prog : Program} {w : World} {A : Around} {E : Value → Shared → Prop} {s : Shared} {h₀ : Heap} {L : Addr} {m mg mb : Str → Option Value}
  {p : Program} {loose : List Str} {mean : ExcName → Option Value} {Q : Value → Shared → Prop} {rest : List (Addr × Obj)}
theorem words_acks_1 : True := by
  k_with_none
  k_with "k_enter" => (refine' code_defM ?k1ₓ ?k2ₓ ?k3ₓ ?k5ₓ ?k6ₓ ?k7ₓ ?k8ₓ ?k9ₓ ?kBₓ ?_ ?c2ₓ ?c3ₓ ?c4ₓ ?c5ₓ; (case k1ₓ => k_asm); (case k2ₓ => k_asm); (case k3ₓ => k_asm); (case k5ₓ => k_asm); (case k6ₓ => k_is); (case k7ₓ => k_is); (case k8ₓ => exact Nat.le_of_ble_eq_true rfl); (case k9ₓ => exact rfl); (case c5ₓ => decide); (case kBₓ => exact locs rfl); (case c2ₓ => exact rfl); (case c3ₓ => exact rfl); (case c4ₓ => exact rfl); k_whole; intro g'ₓ L'ₓ h'ₓ FG'ₓ F'ₓ N'ₓ X'ₓ T'ₓ; (try dsimp only [List.map, List.zip, List.zipWith] at F'ₓ); (try dsimp only); (try k_fold))
  k_with "k_mem" => first | with_reducible assumption | with_reducible exact List.mem_cons_self | (with_reducible apply List.mem_cons_of_mem; k_mem)
  k_with "k_all" => first | assumption | exact allLt_off (by assumption)
  k_with "size_fits" => first | assumption | (simp only [Array.size_push, List.size_toArray, List.length_append, List.length_cons, List.length_nil, vz_length, PySem.sizeLine_eq]; omega)
  k_with "binaryOp Add ref ref" => (k_here; (with_reducible show wpAny _ _ (binaryOp _ (Value.ref _) (Value.ref _)) _ _ _); k_dflt (refine' addL ?Fₓ ?Nₓ ?aₓ ?bₓ ?zₓ ?_; (case Fₓ => k_asm); (case Nₓ => k_asm); (case aₓ => k_mem); (case bₓ => k_mem); (case zₓ => (simp only [List.length_cons, List.length_nil, vz_length, sizeLine_eq]; omega))); intro D'ₓ h'ₓ F'ₓ N'ₓ l1ₓ; (try k_lt l1ₓ); (try k_sweep))
  k_with "k_sub" => ((try simp only [List.cons_append, List.nil_append]); (repeat ((with_reducible refine List.forall_mem_cons.mpr ⟨?_, ?_⟩); (next => (first | ((repeat (first | with_reducible exact List.mem_cons_self | with_reducible apply List.mem_cons_of_mem)); done) | (repeat (first | exact List.mem_cons_self | apply List.mem_cons_of_mem)))))); intro qₓ hqₓ; first | with_reducible exact absurd hqₓ List.not_mem_nil | (repeat (first | with_reducible exact hqₓ | with_reducible exact List.mem_append_left _ hqₓ | with_reducible exact List.mem_append_right _ hqₓ | with_reducible apply List.mem_cons_of_mem)))
  k_with "SrcLP" => (k_here; k_dflt (refine LCp.SrcLP.ledger (by rfl) (by k_asm) (by k_asm) (by k_mem) (by size_fits) ?_); intro g'ₓ; refine Halt.out ?_)
  k_with "CompSrc" => (k_here; k_dflt (refine LCg.CompSrc.ledger (by rfl) (by k_asm) (by k_asm) (by k_mem) (by size_fits) ?_); intro g'ₓ; refine Halt.out ?_)
  k_with "CompSrcT" => (k_here; k_dflt (refine LCt.CompSrcT.ledger (by rfl) (by k_asm) (by k_asm) (by k_mem) (by size_fits) ?_); intro g'ₓ; refine Halt.out ?_)
  k_with "CompEnd" => (refine Halt.out ?_)
  k_with "lsm_bools" => assumption
  k_with "eval Name" => (k_here; k_dflt (refine' nameX_L ?Fₓ ?vₓ ?_ ?aₓ ?bₓ; (case Fₓ => k_asm); (case aₓ => rfl); (case bₓ => rfl); (case vₓ => first | exact rfl | assumption); k_whole))
  k_with "eval Name" => (k_here; (with_reducible show wpAny _ _ (eval (Expr.Name _ _) (envOf _ _ _ _ _)) _ _ _); k_dflt (refine' ld ?k1ₓ ?k2ₓ ?_; (case k1ₓ => k_asm); (case k2ₓ => first | exact rfl | assumption); k_whole))
  k_with "k_ne" => (first | assumption | (apply Ne.symm; assumption) | exact Nat.ne_of_lt (by assumption) | exact Nat.ne_of_gt (by assumption))
  k_with "call builtin:len" => (k_here; (with_reducible show wpAny _ _ (call (Value.builtin "len") [Value.ref _]) _ _ _); k_dflt (refine' lenL ?Nₓ ?aₓ ?zₓ ?_; (case Nₓ => k_asm); (case aₓ => k_mem); (case zₓ => (simp only [vz_length]; omega))); (try simp only [vz_length]))
  k_with "setItem ref int" => (k_here; k_dflt (refine' kda_set (knd := PySem.intKind _ _) ?Fₓ ?Nₓ ?Uₓ ?dₓ (intKind_is _ _ _ _) ?zₓ ?_; (case Fₓ => k_asm); (case Nₓ => k_asm); (case Uₓ => k_updF); (case dₓ => assumption); (case zₓ => assumption)); intro h'ₓ o'ₓ F'ₓ N'ₓ hd'ₓ; (try k_sweep))
  k_with "call ref" => (k_here; (with_reducible show wpAny _ _ (call (Value.ref 238) _) _ _ _); k_dflt (refine' to_AL rfl ?dₓ ?uₓ (draw_at ?Fₓ ?Nₓ ?Xₓ ?Tₓ ?Uₓ ?oₓ ?hPₓ ?hSₓ ?hiₓ ?hlₓ ?psₓ ?hmₓ ?_); (case dₓ => exact Nat.le_of_ble_eq_true rfl); (case uₓ => exact Nat.le_of_ble_eq_true rfl); (case Fₓ => k_asm); (case Nₓ => k_asm); (case Xₓ => k_asm); (case Tₓ => k_asm); (case Uₓ => k_updF); (case oₓ => assumption); (case hPₓ => k_mem); (case hSₓ => k_mem); (case hiₓ => assumption); (case hlₓ => assumption); (case psₓ => k_ne); (case hmₓ => first | decide | assumption)); intro v'ₓ t'ₓ o'ₓ h'ₓ tk'ₓ hv0'ₓ hv1'ₓ oP'ₓ F'ₓ N'ₓ; (try dsimp only at N'ₓ); (try k_sweep))
  k_with "call ref" => (k_here; (with_reducible show wpAny _ _ (call (Value.ref 53) _) _ _ _); k_dflt (refine' to_AL rfl ?dₓ ?uₓ (add_at ?Fₓ ?Nₓ ?Xₓ ?Tₓ ?hLₓ ?hzₓ ?hlenₓ ?_); (case dₓ => exact Nat.le_of_ble_eq_true rfl); (case uₓ => exact Nat.le_of_ble_eq_true rfl); (case Fₓ => k_asm); (case Nₓ => k_asm); (case Xₓ => k_asm); (case Tₓ => k_asm); (case hLₓ => k_mem); (case hzₓ => k_sub); (case hlenₓ => first | assumption | omega)); intro RL' z' rs' k' h' tk' F' N' n1' n2' n3' er' es' el'; (repeat (replace n1' := List.forall_mem_cons.mp n1'; (have hn' := And.left n1'); replace n1' := And.right n1'; try dsimp only at hn')); (repeat (replace n2' := List.forall_mem_cons.mp n2'; (have hn' := And.left n2'); replace n2' := And.right n2'; try dsimp only at hn')); (try dsimp only at n3'); (try k_sweep))
  k_with "call ref" => (k_here; (with_reducible show wpAny _ _ (call (Value.ref 58) _) _ _ _); k_dflt (refine' to_AL rfl ?dₓ ?uₓ (has_at ?Fₓ ?Nₓ ?Xₓ ?Tₓ ?hLₓ ?hzₓ ?hlenₓ ?_); (case dₓ => exact Nat.le_of_ble_eq_true rfl); (case uₓ => exact Nat.le_of_ble_eq_true rfl); (case Fₓ => k_asm); (case Nₓ => k_asm); (case Xₓ => k_asm); (case Tₓ => k_asm); (case hLₓ => k_mem); (case hzₓ => k_sub); (case hlenₓ => first | assumption | omega)); intro h'ₓ tk'ₓ F'ₓ N'ₓ; (try k_sweep))
  k_with "call ref" => (k_here; (with_reducible show wpAny _ _ (call (Value.ref 41) _) _ _ _); k_dflt (refine' to_AL rfl ?dₓ ?uₓ (anyel_at ?Fₓ ?Nₓ ?Xₓ ?Tₓ ?hLₓ ?hzₓ ?oₓ ?hlₓ ?_); (case dₓ => exact Nat.le_of_ble_eq_true rfl); (case uₓ => exact Nat.le_of_ble_eq_true rfl); (case Fₓ => k_asm); (case Nₓ => k_asm); (case Xₓ => k_asm); (case Tₓ => k_asm); (case hLₓ => k_mem); (case hzₓ => (intro qₓ hqₓ; first | (refine mem_in ((‹∀ qₓ ∈ tf _, qₓ ∈ _›) qₓ hqₓ) ?_; first | exact ⟨1, rfl⟩ | exact ⟨2, rfl⟩ | exact ⟨3, rfl⟩ | exact ⟨4, rfl⟩ | exact ⟨5, rfl⟩ | exact ⟨6, rfl⟩ | exact ⟨7, rfl⟩ | exact ⟨8, rfl⟩ | exact ⟨9, rfl⟩ | exact ⟨10, rfl⟩ | exact ⟨11, rfl⟩ | exact ⟨12, rfl⟩ | exact ⟨13, rfl⟩ | exact ⟨14, rfl⟩ | exact ⟨15, rfl⟩) | (repeat (first | with_reducible exact (‹∀ qₓ ∈ tf _, qₓ ∈ _›) qₓ hqₓ | with_reducible apply List.mem_cons_of_mem)))); (case oₓ => assumption); (case hlₓ => assumption)); intro h'ₓ tk'ₓ F'ₓ N'ₓ; (try k_sweep))
  k_with "call ref" => (k_here; (with_reducible show wpAny _ _ (call (Value.ref 46) _) _ _ _); k_dflt (refine' to_AL rfl ?dₓ ?uₓ (anyfl_at ?Fₓ ?Nₓ ?Xₓ ?Tₓ ?hLₓ ?hzₓ ?oₓ ?hlₓ ?_); (case dₓ => exact Nat.le_of_ble_eq_true rfl); (case uₓ => exact Nat.le_of_ble_eq_true rfl); (case Fₓ => k_asm); (case Nₓ => k_asm); (case Xₓ => k_asm); (case Tₓ => k_asm); (case hLₓ => k_mem); (case hzₓ => (intro qₓ hqₓ; first | (refine mem_in ((‹∀ qₓ ∈ tf _, qₓ ∈ _›) qₓ hqₓ) ?_; first | exact ⟨1, rfl⟩ | exact ⟨2, rfl⟩ | exact ⟨3, rfl⟩ | exact ⟨4, rfl⟩ | exact ⟨5, rfl⟩ | exact ⟨6, rfl⟩ | exact ⟨7, rfl⟩ | exact ⟨8, rfl⟩ | exact ⟨9, rfl⟩ | exact ⟨10, rfl⟩ | exact ⟨11, rfl⟩ | exact ⟨12, rfl⟩ | exact ⟨13, rfl⟩ | exact ⟨14, rfl⟩ | exact ⟨15, rfl⟩) | (repeat (first | with_reducible exact (‹∀ qₓ ∈ tf _, qₓ ∈ _›) qₓ hqₓ | with_reducible apply List.mem_cons_of_mem)))); (case oₓ => assumption); (case hlₓ => assumption)); intro h'ₓ tk'ₓ F'ₓ N'ₓ; (try k_sweep))
  k_with "call ref" => (k_here; (with_reducible show wpAny _ _ (call (Value.ref 203) _) _ _ _); k_dflt (refine' to_AL rfl ?dₓ ?uₓ (octs_at ?Fₓ ?Nₓ ?Xₓ ?Tₓ ?h1ₓ ?h2ₓ ?h3ₓ ?h4ₓ ?h5ₓ ?h6ₓ ?h7ₓ ?h8ₓ ?_); (case dₓ => exact Nat.le_of_ble_eq_true rfl); (case uₓ => exact Nat.le_of_ble_eq_true rfl); (case Fₓ => k_asm); (case Nₓ => k_asm); (case Xₓ => k_asm); (case Tₓ => k_asm); (case h1ₓ => k_mem); (case h2ₓ => k_mem); (case h3ₓ => k_mem); (case h4ₓ => assumption); (case h5ₓ => assumption); (case h6ₓ => first | assumption | exact fun q hq => .tail _ ((‹∀ q ∈ pz _, q ∈ _›) q hq) | exact fun q hq => .tail _ (.tail _ ((‹∀ q ∈ pz _, q ∈ _›) q hq))); (case h7ₓ => first | assumption | exact fun q hq => .tail _ ((‹∀ q ∈ qz _ _, q ∈ _›) q hq) | exact fun q hq => .tail _ (.tail _ ((‹∀ q ∈ qz _ _, q ∈ _›) q hq))); (case h8ₓ => assumption)); intro h'ₓ tk'ₓ t'ₓ F'ₓ N'ₓ)
  k_with "call ref" => (k_here; (with_reducible show wpAny _ _ (call (Value.ref 198) _) _ _ _); k_dflt (refine' to_AL rfl ?dₓ ?uₓ (elic_at ?Fₓ ?Nₓ ?Xₓ ?Tₓ ?h1ₓ ?h2ₓ ?h3ₓ ?h4ₓ ?h5ₓ ?h6ₓ ?h7ₓ ?h8ₓ ?_); (case dₓ => exact Nat.le_of_ble_eq_true rfl); (case uₓ => exact Nat.le_of_ble_eq_true rfl); (case Fₓ => k_asm); (case Nₓ => k_asm); (case Xₓ => k_asm); (case Tₓ => k_asm); (case h1ₓ => k_mem); (case h2ₓ => k_mem); (case h3ₓ => k_mem); (case h4ₓ => assumption); (case h5ₓ => assumption); (case h6ₓ => first | assumption | exact fun q hq => .tail _ ((‹∀ q ∈ pz _, q ∈ _›) q hq) | exact fun q hq => .tail _ (.tail _ ((‹∀ q ∈ pz _, q ∈ _›) q hq))); (case h7ₓ => first | assumption | exact fun q hq => .tail _ ((‹∀ q ∈ qz _ _, q ∈ _›) q hq) | exact fun q hq => .tail _ (.tail _ ((‹∀ q ∈ qz _ _, q ∈ _›) q hq))); (case h8ₓ => assumption)); intro h'ₓ tk'ₓ F'ₓ N'ₓ)
  k_with "call ref" => (k_here; (with_reducible show wpAny _ _ (call (Value.ref 210) _) _ _ _); k_dflt (refine' to_AL rfl ?dₓ ?uₓ (rows_at ?Fₓ ?Nₓ ?Xₓ ?Tₓ ?h1ₓ ?h2ₓ ?h3ₓ ?h4ₓ ?h5ₓ ?h6ₓ ?h7ₓ ?h8ₓ ?_); (case dₓ => exact Nat.le_of_ble_eq_true rfl); (case uₓ => exact Nat.le_of_ble_eq_true rfl); (case Fₓ => k_asm); (case Nₓ => k_asm); (case Xₓ => k_asm); (case Tₓ => k_asm); (case h1ₓ => k_mem); (case h2ₓ => k_mem); (case h3ₓ => k_mem); (case h4ₓ => assumption); (case h5ₓ => assumption); (case h6ₓ => first | assumption | exact fun q hq => .tail _ ((‹∀ q ∈ pz _, q ∈ _›) q hq) | exact fun q hq => .tail _ (.tail _ ((‹∀ q ∈ pz _, q ∈ _›) q hq))); (case h7ₓ => first | assumption | exact fun q hq => .tail _ ((‹∀ q ∈ qz _ _, q ∈ _›) q hq) | exact fun q hq => .tail _ (.tail _ ((‹∀ q ∈ qz _ _, q ∈ _›) q hq))); (case h8ₓ => assumption)); intro FD'ₓ oFD'ₓ fs'ₓ h'ₓ tk'ₓ hFD'ₓ lFD'ₓ eFD'ₓ F'ₓ N'ₓ; have N2'ₓ := newsSub N'ₓ rows_sub2)
  k_with "k_lt_off" => skip
  k_with "k_ne" => (first | assumption | (apply Ne.symm; assumption))
  k_with "k_mem" => (first | with_reducible assumption | exact mem_at 0 rfl | exact mem_at 1 rfl | exact mem_at 2 rfl | exact mem_at 3 rfl | exact mem_at 4 rfl | exact mem_at 5 rfl | exact mem_at 6 rfl | exact mem_at 7 rfl | exact mem_at 8 rfl | exact mem_at 9 rfl | exact mem_at 10 rfl | exact mem_at 11 rfl | exact mem_at 12 rfl | exact mem_at 13 rfl | exact mem_at 14 rfl | (refine mem_in (by with_reducible assumption) ?_; first | exact ⟨1, rfl⟩ | exact ⟨2, rfl⟩ | exact ⟨3, rfl⟩ | exact ⟨4, rfl⟩ | exact ⟨5, rfl⟩ | exact ⟨6, rfl⟩ | exact ⟨7, rfl⟩ | exact ⟨8, rfl⟩ | exact ⟨9, rfl⟩ | exact ⟨10, rfl⟩ | exact ⟨11, rfl⟩ | exact ⟨12, rfl⟩ | exact ⟨13, rfl⟩ | exact ⟨14, rfl⟩ | exact ⟨15, rfl⟩))
  k_with "k_updF" => (first | exact updF_at 0 (by assumption) rfl rfl | exact updF_at 1 (by assumption) rfl rfl | exact updF_at 2 (by assumption) rfl rfl | exact updF_at 3 (by assumption) rfl rfl | exact updF_at 4 (by assumption) rfl rfl | exact updF_at 5 (by assumption) rfl rfl | exact updF_at 6 (by assumption) rfl rfl | exact updF_at 7 (by assumption) rfl rfl | exact updF_at 8 (by assumption) rfl rfl | exact updF_at 9 (by assumption) rfl rfl | exact updF_at 10 (by assumption) rfl rfl | exact updF_at 11 (by assumption) rfl rfl | exact updF_at 12 (by assumption) rfl rfl)
  k_with "k_upd" => (first | exact upd_at 0 (by assumption) rfl rfl | exact upd_at 1 (by assumption) rfl rfl | exact upd_at 2 (by assumption) rfl rfl | exact upd_at 3 (by assumption) rfl rfl | exact upd_at 4 (by assumption) rfl rfl | exact upd_at 5 (by assumption) rfl rfl | exact upd_at 6 (by assumption) rfl rfl | exact upd_at 7 (by assumption) rfl rfl | exact upd_at 8 (by assumption) rfl rfl | exact upd_at 9 (by assumption) rfl rfl | exact upd_at 10 (by assumption) rfl rfl | exact upd_at 11 (by assumption) rfl rfl | exact upd_at 12 (by assumption) rfl rfl)
  k_with "k_sweep" => (rename News _ _ _ _ => N9ₓ; first | (have hS9ₓ := sep_have N9ₓ (by with_reducible assumption); clear hS9ₓ) | (refine let_new2 N9ₓ (by assumption) (by assumption) (by assumption) ?_; clear N9ₓ; intro l9ₓ N9ₓ S9ₓ) | (refine let_new N9ₓ (by assumption) (by assumption) ?_; clear N9ₓ; intro l9ₓ N9ₓ S9ₓ) | (refine let_set N9ₓ (by assumption) rfl ?_; clear N9ₓ; intro l9ₓ N9ₓ S9ₓ))
  k_with "k_sub" => ((repeat ((with_reducible refine List.forall_mem_cons.mpr ⟨?_, ?_⟩); (next => k_mem))); intro qₓ hqₓ; first | with_reducible exact absurd hqₓ List.not_mem_nil | with_reducible exact hqₓ | exact mem_off 1 rfl hqₓ | exact mem_off 2 rfl hqₓ | exact mem_off 3 rfl hqₓ | exact mem_off 4 rfl hqₓ | exact mem_off 5 rfl hqₓ | exact mem_off 6 rfl hqₓ | exact mem_off 7 rfl hqₓ | exact mem_off 8 rfl hqₓ | exact mem_off 9 rfl hqₓ | exact mem_off 10 rfl hqₓ | exact mem_off 11 rfl hqₓ | exact mem_off 12 rfl hqₓ | exact mem_off 13 rfl hqₓ | exact mem_off 14 rfl hqₓ | exact mem_off 15 rfl hqₓ)
  k_with "compareOp Eq ref ref" => (k_here; k_dflt (refine' eq_nil ?Nₓ ?aₓ ?bₓ ?uₓ ?eₓ ?_; (case Nₓ => k_asm); (case aₓ => k_mem); (case bₓ => k_mem); (case uₓ => exact Nat.le_of_ble_eq_true rfl); (case eₓ => assumption)))
  k_with "subscriptTail Name" => (k_here; (with_reducible show wpAny _ _ (subscriptTail _ _ (Value.ref _) (Value.str _ _)) _ _ _); k_dflt (refine' kda_item (knd := PySem.strKind _ _) ?Nₓ ?pₓ ?dₓ (strKind_is _ _ _ _) ?lₓ ?_; (case Nₓ => k_asm); (case pₓ => k_mem); (case dₓ => assumption); (case lₓ => rfl)); (try dsimp only))
  k_with "subscriptTail" => (k_here; (with_reducible show wpAny _ _ (subscriptTail _ _ (Value.ref _) (Value.str _ _)) _ _ _); k_dflt (refine' kda_item (knd := PySem.strKind _ _) ?Nₓ ?pₓ ?dₓ (strKind_is _ _ _ _) ?lₓ ?_; (case Nₓ => k_asm); (case pₓ => k_mem); (case dₓ => assumption); (case lₓ => rfl)); (try dsimp only))
  k_with "call ref" => (k_here; (with_reducible show wpAny _ _ (call (Value.ref 132) _) _ _ _); refine Halt.out ?_)
  k_with "call ref" => (k_here; (with_reducible show wpAny _ _ (call (Value.ref 245) _) _ _ _); refine Halt.out ?_)
  k_with "eval ListComp" => (refine Halt.out ?_)
  k_with "compareOp Eq ref ref" => ((have hst'ₓ : Stop := by assumption); clear hst'ₓ; refine Halt.out ?_)
  k_with "pyIter_ref" => (refine Halt.out ?_)
  k_with "call builtin:sum" => (k_here; k_dflt (refine' sumT ?Fₓ ?Nₓ rfl ?lₓ ?iₓ ?_; (case Fₓ => k_asm); (case Nₓ => k_asm); (case iₓ => assumption); (case lₓ => assumption)); intro h'ₓ tk'ₓ t'ₓ F'ₓ N'ₓ)
  k_with "eval IfExp" => ((have hst'ₓ : Stop := by assumption); clear hst'ₓ; refine Halt.out ?_)
  k_with "setItem ref str int" => (k_here; (with_reducible show wpAny _ _ (setItem (Value.ref _) (Value.str _ _) _) _ _ _); k_dflt (refine' own_set ?Fₓ ?Nₓ ?Uₓ ?dₓ ?zₓ ?eₓ ?_; (case Fₓ => k_asm); (case Nₓ => k_asm); (case Uₓ => k_updF); (case dₓ => assumption); (case zₓ => exact rfl); (case eₓ => first | with_reducible exact put_since | with_reducible exact put_asked | with_reducible exact put_at_once | exact put_since | exact put_asked | exact put_at_once)); intro h'ₓ o'ₓ tk'ₓ F'ₓ N'ₓ hd'ₓ; (try k_sweep))
  k_with "setItem ref str bool" => (k_here; (with_reducible show wpAny _ _ (setItem (Value.ref _) (Value.str _ _) _) _ _ _); k_dflt (refine' own_set ?Fₓ ?Nₓ ?Uₓ ?dₓ ?zₓ ?eₓ ?_; (case Fₓ => k_asm); (case Nₓ => k_asm); (case Uₓ => k_updF); (case dₓ => assumption); (case zₓ => exact rfl); (case eₓ => first | with_reducible exact put_since | with_reducible exact put_asked | with_reducible exact put_at_once | exact put_since | exact put_asked | exact put_at_once)); intro h'ₓ o'ₓ tk'ₓ F'ₓ N'ₓ hd'ₓ; (try k_sweep))
  k_with "setItem ref str none" => (k_here; (with_reducible show wpAny _ _ (setItem (Value.ref _) (Value.str _ _) _) _ _ _); k_dflt (refine' own_set ?Fₓ ?Nₓ ?Uₓ ?dₓ ?zₓ ?eₓ ?_; (case Fₓ => k_asm); (case Nₓ => k_asm); (case Uₓ => k_updF); (case dₓ => assumption); (case zₓ => exact rfl); (case eₓ => first | with_reducible exact put_since | with_reducible exact put_asked | with_reducible exact put_at_once | exact put_since | exact put_asked | exact put_at_once)); intro h'ₓ o'ₓ tk'ₓ F'ₓ N'ₓ hd'ₓ; (try k_sweep))
  k_with "setItem ref str ref" => (k_here; (with_reducible show wpAny _ _ (setItem (Value.ref _) (Value.str _ _) _) _ _ _); k_dflt (refine' own_set ?Fₓ ?Nₓ ?Uₓ ?dₓ ?zₓ ?eₓ ?_; (case Fₓ => k_asm); (case Nₓ => k_asm); (case Uₓ => k_updF); (case dₓ => assumption); (case zₓ => exact rfl); (case eₓ => first | with_reducible exact put_since | with_reducible exact put_asked | with_reducible exact put_at_once | exact put_since | exact put_asked | exact put_at_once)); intro h'ₓ o'ₓ tk'ₓ F'ₓ N'ₓ hd'ₓ; (try k_sweep))
  k_with "setItem" => (k_here; (with_reducible show wpAny _ _ (setItem (Value.ref _) (Value.str _ _) _) _ _ _); k_dflt (refine' own_set ?Fₓ ?Nₓ ?Uₓ ?dₓ ?zₓ ?eₓ ?_; (case Fₓ => k_asm); (case Nₓ => k_asm); (case Uₓ => k_updF); (case dₓ => assumption); (case zₓ => exact rfl); (case eₓ => first | with_reducible exact put_since | with_reducible exact put_asked | with_reducible exact put_at_once | exact put_since | exact put_asked | exact put_at_once)); intro h'ₓ o'ₓ tk'ₓ F'ₓ N'ₓ hd'ₓ; (try k_sweep))
  trivial
theorem acks_at {D : Led} {k : Nat}
    (F : Fr h₀ L s.heap m) (X₀ : (heap w.params).In h₀) (T : Top p loose mean mg mb h₀) (O : D.Ok prog w k) (hk : k ≤ 29)
    (N : News h₀ L s.heap (D.fst w ++ (D.snd w ++ rest))) (hr : ∀ q ∈ rest, tagO q.2 = 4)
    (h : ∀ (D' : Led) h' tk', D'.Ok prog w (k + 1) → D'.P = D.P → D'.X = D.X → D'.OD = D.OD → Fr h₀ L h' m → News h₀ L h' (D'.fst w ++ (D'.snd w ++ rest)) → Q (.bool true) { s with heap := h', toks := tk' }) :
    wpAny (model prog w) (AL 330) (call (.ref 257) [.ref D.P, .ref D.X, .ref D.OD]) Q (fun _ _ => False) s := by
  have ds := O.dis N
  have hoff := O.off1 N hr
  obtain ⟨TL, hTL⟩ : ∃ TL, TL = (D.S, listOf D.vs.toArray D.nS) :: (D.X, instObj 220 D.XD) :: (D.EC, D.ec) :: (D.RL, listOf (vz D.zs).toArray D.kR) :: (D.SE, listOf D.ses.toArray D.kS) :: (D.MA, listOf D.mas.toArray D.kM) :: tz D.zs := ⟨_, rfl⟩
  have hS : (D.S, listOf D.vs.toArray D.nS) ∈ TL := hTL ▸ .head _
  have hX : (D.X, instObj 220 D.XD) ∈ TL := hTL ▸ .tail _ (.head _)
  have hEC : (D.EC, D.ec) ∈ TL := hTL ▸ .tail _ (.tail _ (.head _))
  have hRL : (D.RL, listOf (vz D.zs).toArray D.kR) ∈ TL := hTL ▸ .tail _ (.tail _ (.tail _ (.head _)))
  have hSE : (D.SE, listOf D.ses.toArray D.kS) ∈ TL := hTL ▸ .tail _ (.tail _ (.tail _ (.tail _ (.head _))))
  have hMA : (D.MA, listOf D.mas.toArray D.kM) ∈ TL := hTL ▸ .tail _ (.tail _ (.tail _ (.tail _ (.tail _ (.head _)))))
  have hZ : ∀ q ∈ tz D.zs, q ∈ TL := fun q hq => hTL ▸ .tail _ (.tail _ (.tail _ (.tail _ (.tail _ (.tail _ hq)))))
  have tP : ∀ q ∈ TL, @Ne Nat q.1 D.P := by
    rw [hTL]
    refine List.forall_mem_cons.mpr ⟨Ne.symm ds.a1, List.forall_mem_cons.mpr ⟨Ne.symm ds.a2, List.forall_mem_cons.mpr ⟨Ne.symm ds.a5, List.forall_mem_cons.mpr ⟨Ne.symm ds.a6, List.forall_mem_cons.mpr ⟨Ne.symm ds.a7, List.forall_mem_cons.mpr ⟨Ne.symm ds.a8, ds.tP⟩⟩⟩⟩⟩⟩
  have tXD : ∀ q ∈ TL, @Ne Nat q.1 D.XD := by
    rw [hTL]
    refine List.forall_mem_cons.mpr ⟨Ne.symm ds.b1, List.forall_mem_cons.mpr ⟨Ne.symm ds.b2, List.forall_mem_cons.mpr ⟨Ne.symm ds.b4, List.forall_mem_cons.mpr ⟨Ne.symm ds.b5, List.forall_mem_cons.mpr ⟨Ne.symm ds.b6, List.forall_mem_cons.mpr ⟨Ne.symm ds.b7, ds.tXD⟩⟩⟩⟩⟩⟩
  have tOD : ∀ q ∈ TL, @Ne Nat q.1 D.OD := by
    rw [hTL]
    refine List.forall_mem_cons.mpr ⟨Ne.symm ds.c1, List.forall_mem_cons.mpr ⟨Ne.symm ds.c2, List.forall_mem_cons.mpr ⟨Ne.symm ds.c3, List.forall_mem_cons.mpr ⟨Ne.symm ds.c4, List.forall_mem_cons.mpr ⟨Ne.symm ds.c5, List.forall_mem_cons.mpr ⟨Ne.symm ds.c6, ds.tOD⟩⟩⟩⟩⟩⟩
  have hPX := ds.a3
  have hPS := ds.a1
  have hPO := ds.a4
  have hXO := ds.b3
  clear ds
  have hsub : ∀ q, q ∈ (D.P, D.oP) :: (D.XD, D.xd w) :: (D.OD, D.oOD) :: TL ↔ q ∈ D.fst w := by
    intro q
    rw [hTL]
    constructor
    · revert q
      simp only [List.forall_mem_cons]
      exact ⟨.head _, .tail _ (.tail _ (.tail _ (.head _))), .tail _ (.tail _ (.tail _ (.tail _ (.head _)))), .tail _ (.head _), .tail _ (.tail _ (.head _)), .tail _ (.tail _ (.tail _ (.tail _ (.tail _ (.head _))))), .tail _ (.tail _ (.tail _ (.tail _ (.tail _ (.tail _ (.head _)))))), .tail _ (.tail _ (.tail _ (.tail _ (.tail _ (.tail _ (.tail _ (.head _))))))), .tail _ (.tail _ (.tail _ (.tail _ (.tail _ (.tail _ (.tail _ (.tail _ (.head _)))))))),
        fun q hq => .tail _ (.tail _ (.tail _ (.tail _ (.tail _ (.tail _ (.tail _ (.tail _ (.tail _ hq))))))))⟩
    · revert q
      simp only [Led.fst, List.forall_mem_cons]
      exact ⟨.head _, .tail _ (.tail _ (.tail _ (.head _))), .tail _ (.tail _ (.tail _ (.tail _ (.head _)))), .tail _ (.head _), .tail _ (.tail _ (.head _)), .tail _ (.tail _ (.tail _ (.tail _ (.tail _ (.head _))))), .tail _ (.tail _ (.tail _ (.tail _ (.tail _ (.tail _ (.head _)))))), .tail _ (.tail _ (.tail _ (.tail _ (.tail _ (.tail _ (.tail _ (.head _))))))), .tail _ (.tail _ (.tail _ (.tail _ (.tail _ (.tail _ (.tail _ (.tail _ (.head _)))))))),
        fun q hq => .tail _ (.tail _ (.tail _ (.tail _ (.tail _ (.tail _ (.tail _ (.tail _ (.tail _ hq))))))))⟩
  have N₁ : News h₀ L s.heap (((D.P, D.oP) :: (D.XD, D.xd w) :: (D.OD, D.oOD) :: TL) ++ (D.snd w ++ rest)) := newsSub N (List.forall_mem_append.mpr ⟨fun q hq => List.mem_append_left _ ((hsub q).mp hq), fun q hq => List.mem_append_right _ hq⟩)
  refine enterC (binds := [(Str.ofString "pool", .ref D.P), (Str.ofString "space", .ref D.X), (Str.ofString "own", .ref D.OD)]) (W := (D.P, D.oP) :: (D.XD, D.xd w) :: (D.OD, D.oOD) :: TL) F N₁ X₀ T (fun q hq => List.mem_append_left _ hq) (by k_dflt k_is) (by k_dflt k_is) (by decide) (BindsTo.of_eq rfl) rfl (by decide +kernel) ?_ rfl rfl rfl
  intro g L' h₁ tk cells hg F' N' Y l1 X' T'
  have fin : ∀ (D' : Led) W' h' tk' m', D'.Ok prog w (k + 1) → D'.P = D.P → D'.X = D.X → D'.OD = D.OD → D'.snd w = D.snd w → D'.fst w = (D.P, D'.oP) :: (D.S, listOf D.vs.toArray D.nS) :: (D.X, instObj 220 D.XD) :: (D.XD, D'.xd w) :: (D.OD, D'.oOD) :: (D.EC, D.ec) :: (D.RL, listOf (vz D.zs).toArray D.kR) :: (D.SE, listOf D.ses.toArray D.kS) :: (D.MA, listOf D.mas.toArray D.kM) :: tz D.zs →
      Fr g L' h' m' → News g L' h' W' → (∀ q ∈ TL, q ∈ W') → (D.P, D'.oP) ∈ W' → (D.XD, D'.xd w) ∈ W' → (D.OD, D'.oOD) ∈ W' → Q (.bool true) { s with heap := h', toks := tk' } := by
    intro D' W' h' tk' m' x1 x2 x3 x4 x5 x6 F' N' w1 y1 y2 y3
    have w2 : ∀ q ∈ D'.fst w, q ∈ W' := by
      rw [x6]
      simp only [List.forall_mem_cons]
      exact ⟨y1, w1 _ hS, w1 _ hX, y2, y3, w1 _ hEC, w1 _ hRL, w1 _ hSE, w1 _ hMA, fun q hq => w1 q (hZ q hq)⟩
    refine h D' h' tk' x1 x2 x3 x4 (backF F N₁ (fun q hq => List.mem_append_left _ hq) hg F') ?_
    refine newsSub (backG (U := [D.P, D.XD, D.OD]) F N₁ hg F' N' (fun z hz => ?_) (fun q hq hm => hoff q hq ?_)) (fun q hq => ?_)
    · rcases List.mem_cons.mp hz with rfl | hz
      · exact .inr (.head _)
      rcases List.mem_cons.mp hz with rfl | hz
      · exact .inr (.tail _ (.head _))
      rcases List.mem_cons.mp hz with rfl | hz
      · exact .inr (.tail _ (.tail _ (.head _)))
      · exact .inl (w1 z hz)
    · simp only [List.mem_cons, List.not_mem_nil, or_false] at hm ⊢
      rcases hm with e | e | e <;> simp [e]
    · rw [x5] at hq
      rcases List.mem_append.mp hq with hq | hq
      · exact List.mem_append_left _ (w2 q hq)
      · exact List.mem_append_right _ hq
  have lP : @LT.lt Nat _ D.P L' := l1 _ (.head _)
  have lXD : @LT.lt Nat _ D.XD L' := l1 _ (.tail _ (.head _))
  have lOD : @LT.lt Nat _ D.OD L' := l1 _ (.tail _ (.tail _ (.head _)))
  have lTL : ∀ q ∈ TL, @LT.lt Nat _ q.1 L' := fun q hq => l1 q (.tail _ (.tail _ (.tail _ hq)))
  clear l1 hr N₁ X₀ T F N hg h hoff hsub
  have oP' : PoolO D.S D.oP := O.pool
  have iv : IntsAre D.vs D.ns := O.iv
  have ln : D.ns.length ≤ 63 := O.ln
  have is : IntsAre D.ses D.sns := O.is
  have im : IntsAre D.mas D.mns := O.im
  have hml0 : D.mns.length ≤ 31 := by have h1 : D.mns.length = D.sns.length := O.lm; have h2 := O.lk; omega
  have od : D.oOD.IsDictOf (strKind prog w) D.odk := O.od
  have lod : (D.OD == sysModules) = false := O.lod
  have hzl : D.zs.length ≤ 31 := Nat.le_trans O.lz (Nat.le_trans O.lk (by omega))
  have hid : Hid (Led.Ok prog w k D) := ⟨O⟩
  clear O
  k_cells Y
  (try simp only [List.cons_append, List.nil_append] at N')
  rename Obj => oc
  have hoc : oc.data = .cell (some (.ref D.OD)) := by assumption
  have FF : Fr g L' h₁ (fun y => if y = Str.ofString "space" then some (.ref D.X) else if y = Str.ofString "pool" then some (.ref D.P) else none) := F'
  obtain ⟨TC, hTC⟩ : ∃ TC, TC = (L' + 1, oc) :: TL := ⟨_, rfl⟩
  have hCL : (L' + 1, oc) ∈ TC := hTC ▸ .head _
  have sT : ∀ q ∈ TL, q ∈ TC := fun q hq => hTC ▸ .tail _ hq
  have cP : ∀ q ∈ TC, @Ne Nat q.1 D.P := hTC ▸ List.forall_mem_cons.mpr ⟨Nat.ne_of_gt (Nat.lt_succ_of_lt lP), tP⟩
  have cXD : ∀ q ∈ TC, @Ne Nat q.1 D.XD := hTC ▸ List.forall_mem_cons.mpr ⟨Nat.ne_of_gt (Nat.lt_succ_of_lt lXD), tXD⟩
  have cOD : ∀ q ∈ TC, @Ne Nat q.1 D.OD := hTC ▸ List.forall_mem_cons.mpr ⟨Nat.ne_of_gt (Nat.lt_succ_of_lt lOD), tOD⟩
  have NN : News g L' h₁ ((D.P, D.oP) :: (D.XD, D.xd w) :: (D.OD, D.oOD) :: TC) := newsSub N' (by
    rw [hTC]
    exact List.forall_mem_cons.mpr ⟨.tail _ (.head _), List.forall_mem_cons.mpr ⟨.tail _ (.tail _ (.head _)), List.forall_mem_cons.mpr ⟨.tail _ (.tail _ (.tail _ (.head _))), List.forall_mem_cons.mpr ⟨.head _, fun q hq => .tail _ (.tail _ (.tail _ (.tail _ hq)))⟩⟩⟩⟩)
  have hS' := sT _ hS
  have hX' := sT _ hX
  have hEC' := sT _ hEC
  have hRL' := sT _ hRL
  have hSE' := sT _ hSE
  have hMA' := sT _ hMA
  have hZ' : ∀ q ∈ tz D.zs, q ∈ TC := fun q hq => sT _ (hZ q hq)
  clear hS hX hEC hRL hSE hMA hZ F' N' tP tXD tOD lTL hTC hTL
  refine let_on (n := 3) NN (Sep.cons (List.forall_mem_cons.mpr ⟨Ne.symm hPX, List.forall_mem_cons.mpr ⟨Ne.symm hPO, cP⟩⟩) (Sep.cons (List.forall_mem_cons.mpr ⟨Ne.symm hXO, cXD⟩) (Sep.cons cOD Sep.zero))) ?_
  clear NN
  intro l9 N9 S9
  (try dsimp only)
  k_unmd
  k_fold
  k_steps
  rename (0 : Int) ≤ _ => e0
  rename _ < (4 : Int) => e4
  rename Fr g L' _ _ => F₂
  obtain ⟨oP2, hP2, N₂⟩ : ∃ oP2, PoolO D.S oP2 ∧ News g L' _ ((D.P, oP2) :: (D.XD, D.xd w) :: (D.OD, D.oOD) :: TC) := ⟨_, by assumption, newsSub (by assumption) (by k_sub)⟩
  have S₂ := fun o => Sep.cons (o := o) (n := 2) (d := D.P) (List.forall_mem_cons.mpr ⟨Ne.symm hPX, List.forall_mem_cons.mpr ⟨Ne.symm hPO, cP⟩⟩) (Sep.cons (o := D.xd w) (List.forall_mem_cons.mpr ⟨Ne.symm hXO, cXD⟩) (Sep.cons (o := D.oOD) cOD Sep.zero))
  by_cases hz : D.sns = []
  · have hzz : D.zs = [] := List.length_eq_zero_iff.mp (by have := hid.out.lz; rw [hz] at this; simpa using this)
    have hse : D.ses.isEmpty = true := by
      have := is
      rw [hz] at this
      cases hq : D.ses with
      | nil => rfl
      | cons a b => rw [hq] at this; cases this
    refine Halt.mk (to_AL rfl (Nat.le_of_ble_eq_true rfl) (Nat.le_of_ble_eq_true rfl) (ackf_at F₂ N₂ (by assumption) (by assumption) (.tail _ (.tail _ (.tail _ hX'))) (.tail _ (.head _)) (.tail _ (.tail _ (.tail _ hEC'))) (.tail _ (.tail _ (.tail _ hRL'))) hzl e0 e4 (fun hq => absurd hzz hq) (show D.hiA ≤ D.now + 9 by have := hid.out.ltn; omega) (fun _ => ?_) (fun hq => absurd hzz hq)))
    clear F₂ N₂
    intro h₂ tk₂ F₂ N₂
    refine let_on (n := 3) N₂ (S₂ _) ?_
    clear N₂
    intro l8 N8 S8
    (try dsimp only)
    k_steps
    exact fin _ _ _ _ _ (hid.out.again (oP' := _) (oOD' := D.oOD) (now' := D.now) (t' := D.tnow) hP2 od (Int.le_refl _)) rfl rfl rfl rfl rfl (by assumption) (by assumption) (fun q hq => mem_in (sT q hq) ⟨5, rfl⟩) (by k_mem) (by k_mem) (by k_mem)
  · have hzz : D.zs ≠ [] := fun hq => hz (List.eq_nil_iff_forall_not_mem.mpr fun x hx => by
      obtain ⟨r, hr, _⟩ := (hid.out.cov x).mpr hx
      rw [hq] at hr
      exact absurd hr List.not_mem_nil)
    have hse : D.ses.isEmpty = false := by
      have := is
      cases hq : D.ses with
      | nil => rw [hq] at this; cases hs : D.sns with
        | nil => exact absurd hs hz
        | cons a b => rw [hs] at this; cases this
      | cons a b => rfl
    have hlt : D.zs ≠ [] → OI D.vLTm (some D.hiA) := fun _ => by
      have h1 := hid.out.xLT
      rw [hid.out.elt, if_neg hz] at h1
      exact h1
    refine Halt.mk (to_AL rfl (Nat.le_of_ble_eq_true rfl) (Nat.le_of_ble_eq_true rfl) (ackf_at F₂ N₂ (by assumption) (by assumption) (.tail _ (.tail _ (.tail _ hX'))) (.tail _ (.head _)) (.tail _ (.tail _ (.tail _ hEC'))) (.tail _ (.tail _ (.tail _ hRL'))) hzl e0 e4 hlt (show D.hiA ≤ D.now + 9 by have := hid.out.ltn; omega) (fun hq => absurd hq hzz) (fun _ => ?_)))
    clear F₂ N₂
    intro h₂ tk₂ TP RN kN tt td mk ml F₂ N₂ hmk
    have hml : ∀ q ∈ ml, tagO q.2 = 3 := by
      rcases hmk with ⟨_, rfl, _⟩ | ⟨a, _, rfl, _⟩
      · exact fun q hq => absurd hq List.not_mem_nil
      · exact List.forall_mem_cons.mpr ⟨rfl, fun q hq => absurd hq List.not_mem_nil⟩
    generalize hMR : (D.now + 9 - D.hiA).fdiv _ = dl at N₂
    obtain ⟨TM, hTM, N₃⟩ := named N₂
    have t1 : (TP, ({ cls := .type "tuple", data := .seq #[.str (Str.ofString "ack") tt, .int dl td, .ref RN, mk] } : Obj)) ∈ TM := by rw [hTM]; exact .head _
    have t2 : (RN, listOf (vz D.zs).toArray kN) ∈ TM := by rw [hTM]; exact .tail _ (.head _)
    have t3 : ∀ q ∈ ml, q ∈ TM := by rw [hTM]; exact fun q hq => .tail _ (.tail _ (List.mem_append_left _ hq))
    have t4 : (D.P, oP2) ∈ TM := by rw [hTM]; exact .tail _ (.tail _ (List.mem_append_right _ (.head _)))
    have t5 : (D.XD, D.xd w) ∈ TM := by rw [hTM]; exact .tail _ (.tail _ (List.mem_append_right _ (.tail _ (.head _))))
    have t6 : (D.OD, D.oOD) ∈ TM := by rw [hTM]; exact .tail _ (.tail _ (List.mem_append_right _ (.tail _ (.tail _ (.head _)))))
    have t7 : ∀ q ∈ TC, q ∈ TM := by rw [hTM]; exact fun q hq => .tail _ (.tail _ (List.mem_append_right _ (.tail _ (.tail _ (.tail _ hq)))))
    clear N₂ hTM
    have hSE2 := t7 _ hSE'
    have hMA2 := t7 _ hMA'
    have hCL2 := t7 _ hCL
    refine let_on (n := 0) N₃ Sep.zero ?_
    clear N₃
    intro l8 N8 S8
    (try dsimp only)
    k_steps
    obtain ⟨e, te, tl, e0, e4, hdl, F₃⟩ : ∃ e te tl, 0 ≤ e ∧ e < 4 ∧ dl = (D.now + 9 - D.hiA).fdiv (2 ^ e.toNat) ∧ Fr g L' _ (fun y => if y = Str.ofString "told" then some (.ref TP) else if y = Str.ofString "later" then some (.int (D.now + 9) tl) else if y = Str.ofString "power_of_two" then some (.int e te) else if y = Str.ofString "space" then some (.ref D.X) else if y = Str.ofString "pool" then some (.ref D.P) else none) := ⟨_, _, _, e0, e4, hMR.symm, by assumption⟩
    have N₃ := newsSub (news' := TM) (h₀ := g) (L := L') (by assumption) (by k_sub)
    refine Halt.mk (comp_K (h₀ := g) (L := L') (m := (fun y => if y = Str.ofString "told" then some (.ref TP) else if y = Str.ofString "later" then some (.int (D.now + 9) tl) else if y = Str.ofString "power_of_two" then some (.int e te) else if y = Str.ofString "space" then some (.ref D.X) else if y = Str.ofString "pool" then some (.ref D.P) else none)) (cl := [(Str.ofString "own", L' + 1)]) (x := Str.ofString "mark") rfl rfl rfl (fun _ => rfl) (fun _ => rfl) (by decide) ?_)
    refine let_on (n := 0) N₃ Sep.zero ?_
    clear N₃
    intro l8 N8 S8
    (try dsimp only)
    k_steps
    rename News g L' _ _ => N₄
    rename Fr g L' _ _ => F₄
    refine Halt.mk (compK_tuple rfl F₄ N₄ (mem_at 0 rfl) rfl rfl (Nat.le_of_ble_eq_true rfl) (fun i ys nw => nw = _ ∧ IntsAre ys (([2, 1, 3].take i).map (countI D.mns))) ⟨rfl, .nil⟩ ?_ ?_)
    · intro s₂ hs₂ i ys nw v I oI C oC K oK D9 m₂ h tk E' hi hJ hv hC hoK F₅ N₅ off ne hK
      obtain ⟨g', rfl⟩ := hs₂
      obtain ⟨rfl, hys⟩ := hJ
      obtain ⟨mk9, t9, rfl, hmk9⟩ : ∃ mk9 t9, v = Value.int mk9 t9 ∧ [2, 1, 3][i]? = some mk9 := by
        have hi3 : i = 0 ∨ i = 1 ∨ i = 2 := by
          have : i < 3 := hi
          omega
        rcases hi3 with rfl | rfl | rfl <;> cases hv <;> exact ⟨_, _, rfl, rfl⟩
      clear F₄ N₄ hv fin
      (try dsimp only)
      k_unmd
      k_fold
      k_steps
      refine Halt.mk (comp_T (h₀ := g) (L := L') (m := (fun y => if y = Str.ofString "told" then some (.ref TP) else if y = Str.ofString "later" then some (.int (D.now + 9) tl) else if y = Str.ofString "power_of_two" then some (.int e te) else if y = Str.ofString "space" then some (.ref D.X) else if y = Str.ofString "pool" then some (.ref D.P) else none)) (cl := [(Str.ofString "mark", K)]) (x := Str.ofString "one") rfl (by decide) rfl (by decide) rfl ?_)
      k_steps
      refine Halt.mk (compT_list rfl F₅ N₅ (.inr ⟨_, .tail _ (.tail _ (.tail _ (.tail _ (.tail _ hMA2)))), rfl, _, rfl⟩) (by rw [List.size_toArray, im.length, sizeLine_eq]; omega) ?_)
      intro s₂ hs₂
      obtain ⟨g', rfl⟩ := hs₂
      refine invT (fun j zs nw => nw = _ ∧ zs.length = ((D.mns.take j).filter fun y => y == mk9).length) ⟨rfl, rfl⟩ ?turn ?done
      case turn =>
        intro j zs nw v I2 oI2 C2 oC2 D2 m₃ h tk E' hi2 hJ hv hC2 hx2 F₆ N₆ off2 ne2
        obtain ⟨rfl, hzs⟩ := hJ
        have hj : j < D.mns.length := by rw [← im.length]; simpa using hi2
        obtain ⟨t8, hv8⟩ := im.get j (D.mns[j]) (List.getElem?_eq_getElem hj)
        obtain rfl : v = .int (D.mns[j]) t8 := by
          have h1 : D.mas[j]? = some v := by simpa using hv
          rw [hv8] at h1
          exact (Option.some.inj h1).symm
        have hmn : D.mns[j]? = some (D.mns[j]) := List.getElem?_eq_getElem hj
        generalize D.mns[j] = one at hmn hx2
        clear F₅ N₅ hv hv8 hj
        (try dsimp only)
        k_unmd
        k_fold
        k_steps
        · refine ⟨LCg.CompEnd.intro (by assumption) (by assumption) _ (fun _ h => h) off2 (.inr ⟨_, .tail _ (.tail _ (.tail _ (.tail _ (.tail _ hMA2)))), rfl, _, rfl⟩) ⟨rfl, ?_⟩⟩
          rw [← take_filter (f := fun y : Int => y == mk9) hmn (beq_iff_eq.mpr (by assumption)), List.length_append, List.length_append, hzs]; rfl
        · refine ⟨LCg.CompEnd.intro (by assumption) (by assumption) _ (fun _ h => h) off2 (.inr ⟨_, .tail _ (.tail _ (.tail _ (.tail _ (.tail _ hMA2)))), rfl, _, rfl⟩) ⟨rfl, ?_⟩⟩
          rw [← take_filter0 (f := fun y : Int => y == mk9) hmn (beq_eq_false_iff_ne.mpr (by assumption))]; exact hzs
      case done =>
        intro zs nw hJ
        obtain ⟨rfl, hzs⟩ := hJ
        rw [List.size_toArray, im.length, List.take_length] at hzs
        have hzl2 : zs.length ≤ 100000 := by rw [hzs]; exact Nat.le_trans (List.length_filter_le _ _) (by omega)
        intro D2 h' tk' F₆ N₆ o1
        clear F₅ N₅
        k_unmd
        try k_fold
        k_steps
        refine lenL N₆ (.head _) hzl2 ?_
        refine (LCg.CompEnd.intro F₆ N₆ ((K, oK) :: _) (fun q hq => .tail _ hq) off ⟨_, rfl, .head _, hK⟩ ⟨_, rfl, rfl, ?_⟩)
        rw [take_one hmk9, List.map_append]
        have hcnt : ((zs.length : Nat) : Int) = countI D.mns mk9 := by rw [hzs]; rfl
        simp only [List.map_cons, List.map_nil, ← hcnt]
        exact hys.append (.cons _ _ .nil)
    · intro s₂ hs₂ ys nw hJ
      obtain ⟨g', rfl⟩ := hs₂
      obtain ⟨rfl, hys⟩ := hJ
      intro D2 h' tk' F₅ N₅ o1
      clear F₄ N₄
      (try dsimp only)
      k_unmd
      try k_fold
      k_steps
      obtain ⟨c2, c1, c3, rfl⟩ : ∃ c2 c1 c3, ys = [.int (countI D.mns 2) c2, .int (countI D.mns 1) c1, .int (countI D.mns 3) c3] := by
        have h3 : IntsAre ys [countI D.mns 2, countI D.mns 1, countI D.mns 3] := hys
        clear hys
        cases h3 with | cons _ a h3 => cases h3 with | cons _ b h3 => cases h3 with | cons _ c h3 => cases h3; exact ⟨_, _, _, rfl⟩
      rename Fr g L' _ _ => F₆
      obtain ⟨CT, N₆, F₇⟩ : ∃ CT, News g L' _ ((CT, ({ cls := .type "tuple", data := .seq #[.int (countI D.mns 2) c2, .int (countI D.mns 1) c1, .int (countI D.mns 3) c3] } : Obj)) :: TM) ∧ Fr g L' _ (fun y => if y = Str.ofString "counts" then some (.ref CT) else if y = Str.ofString "told" then some (.ref TP) else if y = Str.ofString "later" then some (.int (D.now + 9) tl) else if y = Str.ofString "power_of_two" then some (.int e te) else if y = Str.ofString "space" then some (.ref D.X) else if y = Str.ofString "pool" then some (.ref D.P) else none) :=
        ⟨_, newsSub (by assumption) (List.forall_mem_cons.mpr ⟨.head _, fun q hq => .tail _ (.tail _ (.tail _ hq))⟩), F₆⟩
      refine Halt.mk (to_AL rfl (Nat.le_of_ble_eq_true rfl) (Nat.le_of_ble_eq_true rfl) (lawr_at F₇ N₆ (by assumption) (by assumption) (.tail _ hSE2) (.inl ⟨_, _, rfl, is⟩) (by have := hid.out.lk; omega) ?_))
      clear F₆ N₆ F₇
      intro FL fz kF h₃ tk₃ ms hperm hsort hrz hfl F₆ N₆
      obtain ⟨TE, hTE, N₇⟩ := named (l := (TP, ({ cls := .type "tuple", data := .seq #[.str (Str.ofString "ack") tt, .int dl td, .ref RN, mk] } : Obj)) :: (RN, listOf (vz D.zs).toArray kN) :: (FL, listOf (vz fz).toArray kF) :: (CT, ({ cls := .type "tuple", data := .seq #[.int (countI D.mns 2) c2, .int (countI D.mns 1) c1, .int (countI D.mns 3) c3] } : Obj)) :: (ml ++ (tz fz ++ TC)))
        (newsSub N₆ (by
          refine List.forall_mem_cons.mpr ⟨?_, List.forall_mem_cons.mpr ⟨?_, List.forall_mem_cons.mpr ⟨.head _, List.forall_mem_cons.mpr ⟨?_, List.forall_mem_append.mpr ⟨?_, List.forall_mem_append.mpr ⟨?_, ?_⟩⟩⟩⟩⟩⟩
          · exact .tail _ (List.mem_append_right _ (.tail _ t1))
          · exact .tail _ (List.mem_append_right _ (.tail _ t2))
          · exact .tail _ (List.mem_append_right _ (.head _))
          · exact fun q hq => .tail _ (List.mem_append_right _ (.tail _ (t3 q hq)))
          · exact fun q hq => .tail _ (List.mem_append_left _ hq)
          · exact fun q hq => .tail _ (List.mem_append_right _ (.tail _ (t7 q hq)))))
      have N₈ : News g L' h₃ ((D.P, oP2) :: (D.XD, D.xd w) :: (D.OD, D.oOD) :: TE) := fun q hq => by
        rcases List.mem_cons.mp hq with rfl | hq
        · exact N₆ _ (.tail _ (List.mem_append_right _ (.tail _ t4)))
        rcases List.mem_cons.mp hq with rfl | hq
        · exact N₆ _ (.tail _ (List.mem_append_right _ (.tail _ t5)))
        rcases List.mem_cons.mp hq with rfl | hq
        · exact N₆ _ (.tail _ (List.mem_append_right _ (.tail _ t6)))
        exact N₇ q hq
      have u1 : (TP, ({ cls := .type "tuple", data := .seq #[.str (Str.ofString "ack") tt, .int dl td, .ref RN, mk] } : Obj)) ∈ TE := by rw [hTE]; exact .head _
      have u2 : (RN, listOf (vz D.zs).toArray kN) ∈ TE := by rw [hTE]; exact .tail _ (.head _)
      have u3 : (FL, listOf (vz fz).toArray kF) ∈ TE := by rw [hTE]; exact .tail _ (.tail _ (.head _))
      have u4 : (CT, ({ cls := .type "tuple", data := .seq #[.int (countI D.mns 2) c2, .int (countI D.mns 1) c1, .int (countI D.mns 3) c3] } : Obj)) ∈ TE := by rw [hTE]; exact .tail _ (.tail _ (.tail _ (.head _)))
      have u5 : ∀ q ∈ ml, q ∈ TE := by rw [hTE]; exact fun q hq => .tail _ (.tail _ (.tail _ (.tail _ (List.mem_append_left _ hq))))
      have u6 : ∀ q ∈ tz fz, q ∈ TE := by rw [hTE]; exact fun q hq => .tail _ (.tail _ (.tail _ (.tail _ (List.mem_append_right _ (List.mem_append_left _ hq)))))
      have u7 : ∀ q ∈ TC, q ∈ TE := by rw [hTE]; exact fun q hq => .tail _ (.tail _ (.tail _ (.tail _ (List.mem_append_right _ (List.mem_append_right _ hq)))))
      have m1 : (D.P, oP2) ∈ (D.P, oP2) :: (D.XD, D.xd w) :: (D.OD, D.oOD) :: TE := .head _
      have m2 : (D.XD, D.xd w) ∈ (D.P, oP2) :: (D.XD, D.xd w) :: (D.OD, D.oOD) :: TE := .tail _ (.head _)
      have m3 : (D.OD, D.oOD) ∈ (D.P, oP2) :: (D.XD, D.xd w) :: (D.OD, D.oOD) :: TE := .tail _ (.tail _ (.head _))
      have inT : ∀ q ∈ TE, (q.1, q.2) ∈ (D.P, oP2) :: (D.XD, D.xd w) :: (D.OD, D.oOD) :: TE := fun q hq => .tail _ (.tail _ (.tail _ hq))
      have far : ∀ (a : Addr) (o : Obj), (a, o) ∈ (D.P, oP2) :: (D.XD, D.xd w) :: (D.OD, D.oOD) :: TE → tagO o ≠ 3 → (∀ (zs : List RZ) k, listOf (vz zs).toArray k ≠ o) → (∀ q ∈ TC, @Ne Nat q.1 a) → ∀ q ∈ TE, @Ne Nat q.1 a := by
        intro a o ha ht hl hc q hq
        have hq' := inT q hq
        have t3' : tagO q.2 = 3 → @Ne Nat q.1 a := fun e => ne_obj N₈ hq' ha fun e' => ht (by rw [← e']; exact e)
        rw [hTE] at hq
        rcases List.mem_cons.mp hq with rfl | hq
        · exact t3' rfl
        rcases List.mem_cons.mp hq with rfl | hq
        · exact ne_obj N₈ hq' ha (hl _ _)
        rcases List.mem_cons.mp hq with rfl | hq
        · exact ne_obj N₈ hq' ha (hl _ _)
        rcases List.mem_cons.mp hq with rfl | hq
        · exact t3' rfl
        rcases List.mem_append.mp hq with hq | hq
        · exact t3' (hml q hq)
        rcases List.mem_append.mp hq with hq | hq
        · exact t3' (tag_tz hq)
        · exact hc q hq
      have tOO := tag_dict od
      have eP : ∀ q ∈ TE, @Ne Nat q.1 D.P := far _ _ m1 (by rw [tag_pool hP2]; decide) (pool_not hP2) cP
      have eXD : ∀ q ∈ TE, @Ne Nat q.1 D.XD := far _ _ m2 (by show ¬ (2 = 3); decide) (fun _ _ e => absurd (show tagO (D.xd w) = 1 by rw [← e]; rfl) (by show ¬ (2 = 1); decide)) cXD
      have eOD : ∀ q ∈ TE, @Ne Nat q.1 D.OD := far _ _ m3 (by rw [tOO]; decide) (fun _ _ e => absurd tOO (by rw [← e]; show ¬ (1 = 2); decide)) cOD
      clear N₆ N₇ hTE far inT m1 m2 m3 t1 t2 t3 t4 t5 t6 t7 hCL2 hSE2 hMA2 cP cXD cOD
      have hX2 := u7 _ hX'
      have hCL2 := u7 _ hCL
      have hS2 := u7 _ hS'
      refine let_on (n := 3) N₈ (Sep.cons (List.forall_mem_cons.mpr ⟨Ne.symm hPX, List.forall_mem_cons.mpr ⟨Ne.symm hPO, eP⟩⟩) (Sep.cons (List.forall_mem_cons.mpr ⟨Ne.symm hXO, eXD⟩) (Sep.cons eOD Sep.zero))) ?_
      clear N₈
      intro l8 N8 S8
      (try dsimp only)
      have st : Stop := ⟨⟩
      k_steps
      refine Halt.mk (mergeV (fun v => (v = .ref CT ∧ 0 < countI D.mns 2 + countI D.mns 1 + countI D.mns 3) ∨ (v = .none ∧ ¬ 0 < countI D.mns 2 + countI D.mns 1 + countI D.mns 3)) (by assumption) (by assumption) ?g1 ?g2)
      case g1 =>
        clear st fin
        have hI : IntsAre [.int (countI D.mns 2) c2, .int (countI D.mns 1) c1, .int (countI D.mns 3) c3] [countI D.mns 2, countI D.mns 1, countI D.mns 3] := .cons _ _ (.cons _ _ (.cons _ _ .nil))
        k_steps
        · have h9 : 0 < [countI D.mns 2, countI D.mns 1, countI D.mns 3].sum := by assumption
          simp only [List.sum_cons, List.sum_nil] at h9
          exact MidV.intro (by assumption) (by assumption) (fun _ h => h) (.inl ⟨rfl, by omega⟩)
        · have h9 : ¬ 0 < [countI D.mns 2, countI D.mns 1, countI D.mns 3].sum := by assumption
          simp only [List.sum_cons, List.sum_nil] at h9
          exact MidV.intro (by assumption) (by assumption) (fun _ h => h) (.inr ⟨rfl, by omega⟩)
      case g2 =>
        intro v h₄ tk₄ hv F₈ N₈
        clear N8
        subst hdl
        have hrg : rz D.zs = rz fz := by rw [hrz]; exact ranges_same hid.out.can hid.out.cov hperm hsort hid.out.nd
        have hZ2 : ∀ q ∈ tz D.zs, q ∈ TE := fun q hq => u7 q (hZ' q hq)
        (try dsimp only)
        k_steps
        · rename News g L' _ _ => N10
          rename Fr g L' _ _ => F10
          rename PoolO D.S _ => hP9
          rename Obj.IsDictOf (strKind prog w) _ _ => hd9
          refine Halt.mk (told_eq N10 (mem_in u1 ⟨5, rfl⟩) (mem_at 1 rfl) (mem_in u2 ⟨5, rfl⟩) (mem_in u3 ⟨5, rfl⟩) (fun q hq => mem_in (hZ2 q hq) ⟨5, rfl⟩) (fun q hq => mem_in (u6 q hq) ⟨5, rfl⟩) hrg (marks_eqAt N10 (fun q hq => mem_in (u5 q hq) ⟨5, rfl⟩) (mem_in u4 ⟨5, rfl⟩) hid.out.e0 hid.out.e1 hid.out.e2 hmk hv (by exact Nat.le_of_ble_eq_true rfl)) (by exact Nat.le_of_ble_eq_true rfl) (by exact Nat.le_of_ble_eq_true rfl) (by exact Nat.le_of_ble_eq_true rfl) ?_)
          exact fin _ _ _ _ _ (acked_ok hid.out hP9 hd9) rfl rfl rfl rfl rfl F10 N10 (fun q hq => mem_in (u7 _ (sT q hq)) ⟨5, rfl⟩) (by k_mem) (by k_mem) (by k_mem)
        · rename News g L' _ _ => N10
          rename Fr g L' _ _ => F10
          rename PoolO D.S _ => hP9
          refine Halt.mk (told_eq N10 (mem_in u1 ⟨4, rfl⟩) (mem_at 0 rfl) (mem_in u2 ⟨4, rfl⟩) (mem_in u3 ⟨4, rfl⟩) (fun q hq => mem_in (hZ2 q hq) ⟨4, rfl⟩) (fun q hq => mem_in (u6 q hq) ⟨4, rfl⟩) hrg (marks_eqAt N10 (fun q hq => mem_in (u5 q hq) ⟨4, rfl⟩) (mem_in u4 ⟨4, rfl⟩) hid.out.e0 hid.out.e1 hid.out.e2 hmk hv (by exact Nat.le_of_ble_eq_true rfl)) (by exact Nat.le_of_ble_eq_true rfl) (by exact Nat.le_of_ble_eq_true rfl) (by exact Nat.le_of_ble_eq_true rfl) ?_)
          exact fin _ _ _ _ _ (hid.out.again (oOD' := D.oOD) (now' := D.now) (t' := D.tnow) hP9 od (Int.le_refl _)) rfl rfl rfl rfl rfl F10 N10 (fun q hq => mem_in (u7 _ (sT q hq)) ⟨4, rfl⟩) (by k_mem) (by k_mem) (by k_mem)
end

-- nolocal
-- needs: teq dpairs take
/-! five objects that a walk turns, and what lies apart from them -/
structure Five (a b c d e : Addr) : Prop where
  ab : @Ne Nat b a
  ac : @Ne Nat c a
  ad : @Ne Nat d a
  ae : @Ne Nat e a
  bc : @Ne Nat c b
  bd : @Ne Nat d b
  be : @Ne Nat e b
  cd : @Ne Nat d c
  ce : @Ne Nat e c
  de : @Ne Nat e d
structure Far (a b c d e x : Addr) : Prop where
  a : @Ne Nat x a
  b : @Ne Nat x b
  c : @Ne Nat x c
  d : @Ne Nat x d
  e : @Ne Nat x e
theorem sep5 {a b c d e : Addr} {oa ob oc od oe : Obj} {T : List (Addr × Obj)} (h : Five a b c d e) (hT : ∀ q ∈ T, Far a b c d e q.1) : Sep 5 ((a, oa) :: (b, ob) :: (c, oc) :: (d, od) :: (e, oe) :: T) :=
  Sep.cons (List.forall_mem_cons.mpr ⟨h.ab, List.forall_mem_cons.mpr ⟨h.ac, List.forall_mem_cons.mpr ⟨h.ad, List.forall_mem_cons.mpr ⟨h.ae, fun q hq => (hT q hq).a⟩⟩⟩⟩)
    (Sep.cons (List.forall_mem_cons.mpr ⟨h.bc, List.forall_mem_cons.mpr ⟨h.bd, List.forall_mem_cons.mpr ⟨h.be, fun q hq => (hT q hq).b⟩⟩⟩)
      (Sep.cons (List.forall_mem_cons.mpr ⟨h.cd, List.forall_mem_cons.mpr ⟨h.ce, fun q hq => (hT q hq).c⟩⟩) (Sep.cons (List.forall_mem_cons.mpr ⟨h.de, fun q hq => (hT q hq).d⟩) (Sep.cons (fun q hq => (hT q hq).e) Sep.zero))))
theorem far_new {a b c d e x : Addr} {oa ob oc od oe : Obj} {T : List (Addr × Obj)} (h : ∀ q ∈ (a, oa) :: (b, ob) :: (c, oc) :: (d, od) :: (e, oe) :: T, @Ne Nat q.1 x) : Far a b c d e x :=
  ⟨Ne.symm (h (a, oa) (.head _)), Ne.symm (h (b, ob) (.tail _ (.head _))), Ne.symm (h (c, oc) (.tail _ (.tail _ (.head _)))), Ne.symm (h (d, od) (.tail _ (.tail _ (.tail _ (.head _))))), Ne.symm (h (e, oe) (.tail _ (.tail _ (.tail _ (.tail _ (.head _))))))⟩
theorem far_lt {a b c d e x : Addr} {oa ob oc od oe : Obj} {T : List (Addr × Obj)} (h : ∀ q ∈ (a, oa) :: (b, ob) :: (c, oc) :: (d, od) :: (e, oe) :: T, @LT.lt Nat _ q.1 x) : Far a b c d e x := far_new fun q hq => Nat.ne_of_lt (h q hq)
/-- lists of ranges and tuples are far from what is turned: by kind -/
theorem far_kind {h₀ h : Heap} {L a b c d e x : Addr} {oa ob oc od oe o : Obj} {T : List (Addr × Obj)} {all : List (Addr × Obj)} (N : News h₀ L h all) (hs : ∀ q ∈ (a, oa) :: (b, ob) :: (c, oc) :: (d, od) :: (e, oe) :: T, q ∈ all) (hx : (x, o) ∈ all)
    (ha : o ≠ oa) (tb : tagO ob = 2) (tc : tagO oc = 2) (td : tagO od = 2) (he : ∃ v, oe.data = .cell v) (ht : tagO o ≠ 2) (hd : ∃ its n, o.data = .seq its n) : Far a b c d e x where
  a := ne_obj N hx (hs (a, oa) (.head _)) ha
  b := ne_obj N hx (hs (b, ob) (.tail _ (.head _))) fun q => ht (q ▸ tb)
  c := ne_obj N hx (hs (c, oc) (.tail _ (.tail _ (.head _)))) fun q => ht (q ▸ tc)
  d := ne_obj N hx (hs (d, od) (.tail _ (.tail _ (.tail _ (.head _))))) fun q => ht (q ▸ td)
  e := ne_obj N hx (hs (e, oe) (.tail _ (.tail _ (.tail _ (.tail _ (.head _)))))) fun q => by
    obtain ⟨v, he⟩ := he
    obtain ⟨its, n, hd⟩ := hd
    rw [q, he] at hd
    cases hd
theorem merged_len {more : List (Int × Value)} : (merged [] more).length ≤ more.length := by
  have key : ∀ (more acc : List (Int × Value)), (merged acc more).length ≤ acc.length + more.length := by
    intro more
    induction more with
    | nil => exact fun acc => Nat.le_refl _
    | cons p r ih =>
      intro acc
      have h1 := ih (stored acc p.1 p.2)
      have h2 : (stored acc p.1 p.2).length ≤ acc.length + 1 := by
        unfold stored
        split
        · rw [List.length_map]; omega
        · rw [List.length_append]; exact Nat.le_refl _
      show (merged (stored acc p.1 p.2) r).length ≤ _
      rw [List.length_cons]
      omega
  have := key more []
  simpa using this
theorem sort_eq : ∀ {a b : List Int}, a.Perm b → a.Pairwise (· ≤ ·) → b.Pairwise (· ≤ ·) → a = b
  | [], b, h, _, _ => (List.nil_perm.mp h).symm
  | x :: a, [], h, _, _ => absurd h.length_eq (by simp)
  | x :: a, y :: b, h, sa, sb => by
    have ha := List.pairwise_cons.mp sa
    have hb := List.pairwise_cons.mp sb
    have e : x = y := by
      have h1 : y ≤ x := by
        rcases List.mem_cons.mp (h.mem_iff.mp (.head _)) with e | hm
        · exact Int.le_of_eq e.symm
        · exact hb.1 x hm
      have h2 : x ≤ y := by
        rcases List.mem_cons.mp (h.mem_iff.mpr (.head _)) with e | hm
        · exact Int.le_of_eq e.symm
        · exact ha.1 y hm
      exact Int.le_antisymm h2 h1
    subst e
    rw [sort_eq (List.perm_cons x |>.mp h) ha.2 hb.2]
theorem max_ex : ∀ (js : List Int), js ≠ [] → ∃ t, t ∈ js ∧ ∀ a ∈ js, a ≤ t
  | [], h => absurd rfl h
  | [x], _ => ⟨x, .head _, fun a ha => by rw [List.mem_singleton.mp ha]; exact Int.le_refl _⟩
  | x :: y :: r, _ => by
    obtain ⟨t, ht, hm⟩ := max_ex (y :: r) (by simp)
    by_cases hx : x ≤ t
    · exact ⟨t, .tail _ ht, List.forall_mem_cons.mpr ⟨hx, hm⟩⟩
    · exact ⟨x, .head _, List.forall_mem_cons.mpr ⟨Int.le_refl _, fun a ha => Int.le_trans (hm a ha) (by omega)⟩⟩
theorem top_is {z : Int × Int} {r : List (Int × Int)} {js : List Int} {t : Int} (hc : CanonR (z :: r)) (hv : ∀ x, covR (z :: r) x ↔ x ∈ js) (ht : t ∈ js) (hm : ∀ a ∈ js, a ≤ t) : z.2 = t := by
  have hc' := canon_cons.mp hc
  refine Int.le_antisymm (hm _ ((hv _).mp (cov_cons.mpr (.inl ⟨hc'.2.1, Int.le_refl _⟩)))) ?_
  rcases cov_cons.mp ((hv t).mpr ht) with q | ⟨c, hcm, q⟩
  · exact q.2
  · have := hc'.1 c hcm; have := hc'.2.1; omega
section
variable {prog : Program} {w : World} {A : Around} {E : Value → Shared → Prop} {s : Shared} {h₀ : Heap} {L : Addr} {m : Str → Option Value} {Q : Value → Shared → Prop} {news : List (Addr × Obj)}
theorem max_is {l : Addr} {vs : List Value} {ns : List Int} {k : Nat} {t : Int} (F : Fr h₀ L s.heap m) (N : News h₀ L s.heap news) (hl : (l, listOf vs.toArray k) ∈ news) (hi : IntsAre vs ns) (hh : A.handled = none) (ht : t ∈ ns) (hm : ∀ a ∈ ns, a ≤ t)
    (h : ∀ h' tk' u, Fr h₀ L h' m → News h₀ L h' news → Q (.int t u) { s with heap := h', toks := tk' }) : wpAny (model prog w) A (call (.builtin "max") [.ref l]) Q E s := by
  refine kso_max F N ⟨_, (N _ hl).1, rfl, _, rfl⟩ hi (List.length_pos_of_mem ht) hh fun h' M u tk F' N' hM hA => ?_
  have e : M = t := Int.le_antisymm (hm _ hM) (hA _ ht)
  subst e
  exact h h' tk u F' N'
theorem ints_ne {a b : Addr} {vs ws : List Value} {ns : List Int} {k j : Nat} (N : News h₀ L s.heap news) (ha : (a, listOf vs.toArray k) ∈ news) (hb : (b, listOf ws.toArray j) ∈ news) (hi : IntsAre vs ns) (hj : IntsAre ws ns) (hu : A.units < cLine) (h : Q (.bool true) s) :
    wpAny (model prog w) A (compareOp .Eq (.ref a) (.ref b)) Q E s := by
  refine SeqAt.eq_listAt (e := fun _ => true) ⟨_, (N _ ha).1, rfl, _, rfl⟩ ⟨_, (N _ hb).1, rfl, _, rfl⟩ (by simp [hi.length, hj.length]) hu (fun i h1 h2 => ?_) ?_
  · have g1 : i < vs.length := by simpa using h1
    have g2 : i < ws.length := by simpa using h2
    have g3 : i < ns.length := by rw [← hi.length]; exact g1
    obtain ⟨t1, e1⟩ := hi.get i ns[i] (List.getElem?_eq_getElem g3)
    obtain ⟨t2, e2⟩ := hj.get i ns[i] (List.getElem?_eq_getElem g3)
    have f1 : vs.toArray[i] = .int ns[i] t1 := by
      rw [List.getElem?_eq_getElem g1] at e1
      simpa using Option.some.inj e1
    have f2 : ws.toArray[i] = .int ns[i] t2 := by
      rw [List.getElem?_eq_getElem g2] at e2
      simpa using Option.some.inj e2
    rw [f1, f2]
    exact int_same
  · have e : (List.range vs.toArray.size).all (fun _ => true) = true := List.all_eq_true.mpr fun _ _ => rfl
    rw [e]; exact h
theorem ints_ne2 {a b : Addr} {vs ws : List Value} {ns : List Int} {k j : Nat} (N : News h₀ L s.heap news) (ha : (a, listOf vs.toArray k) ∈ news) (hb : (b, listOf ws.toArray j) ∈ news) (hi : IntsAre vs ns) (hj : IntsAre ws ns) (hu : A.units < cLine) (h : Q (.bool false) s) :
    wpAny (model prog w) A (compareOp .NotEq (.ref a) (.ref b)) Q E s := by
  refine SeqAt.RcNeAt.lists (e := fun _ => true) (items := vs.toArray) (items2 := ws.toArray) ⟨_, (N _ ha).1, rfl, _, rfl⟩ ⟨_, (N _ hb).1, rfl, _, rfl⟩ (by simp [hi.length, hj.length]) hu (fun i h1 h2 => ?_) prog w E Q ?_
  · have g1 : i < vs.length := by simpa using h1
    have g2 : i < ws.length := by simpa using h2
    have g3 : i < ns.length := by rw [← hi.length]; exact g1
    obtain ⟨t1, e1⟩ := hi.get i ns[i] (List.getElem?_eq_getElem g3)
    obtain ⟨t2, e2⟩ := hj.get i ns[i] (List.getElem?_eq_getElem g3)
    have f1 : vs.toArray[i] = .int ns[i] t1 := by
      rw [List.getElem?_eq_getElem g1] at e1
      simpa using Option.some.inj e1
    have f2 : ws.toArray[i] = .int ns[i] t2 := by
      rw [List.getElem?_eq_getElem g2] at e2
      simpa using Option.some.inj e2
    rw [f1, f2]
    exact int_same
  · have e : (List.range vs.toArray.size).all (fun _ => true) = true := List.all_eq_true.mpr fun _ _ => rfl
    rw [e]; exact h
end
theorem pairs_sub {pre T all : List (Addr × Obj)} {ps : List PZ} {x : PZ} (h : ∀ q ∈ pre ++ (pairsN ps ++ T), q ∈ all) (hx : (x.a, x.obj) ∈ all) : ∀ q ∈ pre ++ (pairsN (ps ++ [x]) ++ T), q ∈ all := by
  intro q hq
  rcases List.mem_append.mp hq with hq | hq
  · exact h q (List.mem_append_left _ hq)
  rcases List.mem_append.mp hq with hq | hq
  · rw [pairsN, List.map_append] at hq
    rcases List.mem_append.mp hq with hq | hq
    · exact h q (List.mem_append_right _ (List.mem_append_left _ hq))
    · rw [List.mem_singleton.mp hq]; exact hx
  · exact h q (List.mem_append_right _ (List.mem_append_right _ hq))
theorem pairs_off {I C D : Addr} {pre T : List (Addr × Obj)} {ps : List PZ} {x : PZ} (off : LCg.Off3 I C D (pre ++ (pairsN ps ++ T))) (hx : x.a ≠ I ∧ x.a ≠ C ∧ x.a ≠ D) : LCg.Off3 I C D (pre ++ (pairsN (ps ++ [x]) ++ T)) :=
  LCg.Off3.of fun q hq => by
    rcases List.mem_append.mp hq with hq | hq
    · exact off.mem q (List.mem_append_left _ hq)
    rcases List.mem_append.mp hq with hq | hq
    · rw [pairsN, List.map_append] at hq
      rcases List.mem_append.mp hq with hq | hq
      · exact off.mem q (List.mem_append_right _ (List.mem_append_left _ hq))
      · rw [List.mem_singleton.mp hq]; exact hx
    · exact off.mem q (List.mem_append_right _ (List.mem_append_right _ hq))
theorem nums_nodup {os : List OZ} {m2 : List Int} {nx : Int} {f : Int → Bool} (hn : (os.map fun o => o.n).Nodup) (hon : ∀ o ∈ os, o.n < nx) (hm : m2.Perm ((os.map fun o => o.n).filter f)) : (m2 ++ [nx + 7]).Nodup := by
  rw [List.nodup_append]
  refine ⟨hm.nodup_iff.mpr (hn.filter _), by simp, fun a ha b hb => ?_⟩
  rw [List.mem_singleton.mp hb]
  obtain ⟨o, ho, rfl⟩ := List.mem_map.mp (List.mem_filter.mp (hm.mem_iff.mp ha)).1
  have := hon o ho
  omega
theorem take_plain {os ps : List OZ} {m2 js ms : List Int} {nx : Int} (hon : ∀ o ∈ os, o.n < nx) (hm : m2.Perm ((os.map fun o => o.n).filter fun x => js.any fun y => y == x)) (ho : m2.Pairwise (· ≤ ·)) (hp : ms.Perm (m2 ++ [nx + 7])) (hs : ms.Pairwise (· ≤ ·))
    (hps : (ps.map fun o => o.n) = ms.filter fun x => os.any fun o => o.n == x) : (ps.map fun o => o.n) = m2 ∧ lessO os ms = lessO os js := by
  have hin : ∀ x ∈ m2, (∃ o ∈ os, o.n = x) ∧ x ∈ js := fun x hx => by
    obtain ⟨h1, h2⟩ := List.mem_filter.mp (hm.mem_iff.mp hx)
    obtain ⟨o, ho, e⟩ := List.mem_map.mp h1
    exact ⟨⟨o, ho, e⟩, any_mem.mp h2⟩
  have e : ms = m2 ++ [nx + 7] := sort_eq hp hs (by
    rw [List.pairwise_append]
    refine ⟨ho, by simp, fun a ha b hb => ?_⟩
    rw [List.mem_singleton.mp hb]
    obtain ⟨⟨o, ho, rfl⟩, _⟩ := hin a ha
    have := hon o ho
    omega)
  subst e
  constructor
  · rw [hps, List.filter_append]
    have h1 : (m2.filter fun x => os.any fun o => o.n == x) = m2 := List.filter_eq_self.mpr fun x hx => by
      obtain ⟨⟨o, ho, e⟩, _⟩ := hin x hx
      exact List.any_eq_true.mpr ⟨o, ho, beq_iff_eq.mpr e⟩
    have h2 : (os.any fun o => o.n == nx + 7) = false := by
      cases hb : os.any fun o => o.n == nx + 7 with
      | false => rfl
      | true =>
        obtain ⟨o, ho, e⟩ := List.any_eq_true.mp hb
        have := hon o ho
        have := beq_iff_eq.mp e
        omega
    rw [h1]
    simp [h2]
  · refine List.filter_congr fun o hom => ?_
    have : (m2 ++ [nx + 7]).contains o.n = js.contains o.n := by
      refine bool_eq ?_
      rw [List.contains_iff_mem, List.contains_iff_mem, List.mem_append, List.mem_singleton]
      constructor
      · rintro (h | h)
        · exact (hin _ h).2
        · have := hon o hom; omega
      · intro h
        exact .inl (hm.mem_iff.mpr (List.mem_filter.mpr ⟨List.mem_map_of_mem (f := fun o : OZ => o.n) hom, any_mem.mpr h⟩))
    rw [this]
section
variable {prog : Program} {w : World} {A : Around} {E : Value → Shared → Prop} {s : Shared} {h₀ : Heap} {L : Addr} {Q : Value → Shared → Prop} {news : List (Addr × Obj)}
theorem kf_of {vs : List Value} {ns : List Int} (hi : IntsAre vs ns) (k : Int) : kf_ints vs = true ∧ vs.any (isInt k) = ns.any fun y => y == k := by
  induction hi with
  | nil => exact ⟨rfl, rfl⟩
  | cons n t h ih => exact ⟨by first | (simp only [kf_ints, List.all_cons, ih.1, Bool.and_true]; done) | (have := ih.1; simp_all [kf_ints]), by rw [List.any_cons, List.any_cons, ih.2]; rfl⟩
theorem in_ints {D : Addr} {vs : List Value} {ns : List Int} {n : Nat} {k : Int} {t : Tok} (N : News h₀ L s.heap news) (hm : (D, listOf vs.toArray n) ∈ news) (hi : IntsAre vs ns) (h : Q (.bool (ns.any fun y => y == k)) s) : wpAny (model prog w) A (compareOp .In (.int k t) (.ref D)) Q E s :=
  kf_in N hm (by rw [List.toList_toArray]; exact (kf_of hi k).1) (by rw [List.toList_toArray]; exact (kf_of hi k).2) h
theorem notin_ints {D : Addr} {vs : List Value} {ns : List Int} {n : Nat} {k : Int} {t : Tok} (N : News h₀ L s.heap news) (hm : (D, listOf vs.toArray n) ∈ news) (hi : IntsAre vs ns) (h : Q (.bool (!(ns.any fun y => y == k))) s) : wpAny (model prog w) A (compareOp .NotIn (.int k t) (.ref D)) Q E s :=
  kf_notin N hm (by rw [List.toList_toArray]; exact (kf_of hi k).1) (by rw [List.toList_toArray, (kf_of hi k).2]) h
end

-- nolocal
-- needs: led2 five small
/-- ranges were told -/
noncomputable def Led.told (D : Led) (oP' oOD' oSD' oOO' : Obj) (OO' : Addr) (vLA' vTop' : Value) (top' : Option Int) (os' : List OZ) : Led :=
  { D with oP := oP', oOD := oOD', oSD := oSD', OO := OO', oOO := oOO', vLA := vLA', vTop := vTop', top := top', os := os' }
section
variable {prog : Program} {w : World} {k : Nat} {rest : List (Addr × Obj)}
theorem Led.Ok.told {D : Led} (O : D.Ok prog w k) {oP' oOD' oSD' oOO' : Obj} {OO' : Addr} {vLA' vTop' : Value} {t : Int} {js : List Int}
    (h1 : PoolO D.S oP') (h2 : oOD'.IsDictOf (strKind prog w) (odK (.str D.nm D.tnm2) (.ref D.SE) (.ref D.MA) (.int D.hi D.thi) (.int D.hiA D.thiA) D.vSince (.int D.un D.task) (.bool D.wn) (.ref OO') (.int D.nx D.tnx2) vTop' D.vLast (.int D.now D.tnow)))
    (h3 : oSD'.IsDictOf (intKind prog w) (sentK (lessO D.os js))) (h4 : oOO'.IsDictOf (intKind prog w) (outK (lessO D.os js))) (x1 : OI vLA' (some t)) (x2 : OI vTop' (some t)) (ht : t ≤ (k : Int) + 2) (lo : (OO' == sysModules) = false)
    (n1 : @Ne Nat D.XD OO') (n2 : @Ne Nat D.OD OO') (n3 : @Ne Nat D.SD OO') (n4 : ∀ q ∈ qz w D.os, @Ne Nat q.1 OO') :
    (D.told oP' oOD' oSD' oOO' OO' vLA' vTop' (some t) (lessO D.os js)).Ok prog w (k + 1) :=
  have hq : ∀ q ∈ qz w (lessO D.os js), q ∈ qz w D.os := fun q hq => by
    obtain ⟨o, ho, rfl⟩ := List.mem_map.mp hq
    exact List.mem_map_of_mem (List.mem_filter.mp ho).1
  { O with
    pool := h1, od := h2, sd := h3, oo := h4, loo := lo, xLA := x1, xTop := x2, lk := Nat.le_succ_of_le O.lk, nxk := Int.le_trans O.nxk (by omega)
    lo := Nat.le_trans (List.length_filter_le _ _) (Nat.le_succ_of_le O.lo), on := fun o ho => O.on o (List.mem_filter.mp ho).1
    tp := fun t' e => by cases e; show t ≤ ((k + 1 : Nat) : Int) + 1; omega
    u3 := n1, u5 := n2, u6 := n3, v1 := fun q h => O.v1 q (hq q h), v2 := fun q h => O.v2 q (hq q h), v3 := fun q h => O.v3 q (hq q h), v4 := fun q h => n4 q (hq q h) }
theorem told_in {D : Led} {oP' oOD' oSD' oOO' : Obj} {OO' : Addr} {vLA' vTop' : Value} {top' : Option Int} {js : List Int} {W' : List (Addr × Obj)}
    (hP : (D.P, oP') ∈ W') (hOD : (D.OD, oOD') ∈ W') (hX : (D.XD, (D.told oP' oOD' oSD' oOO' OO' vLA' vTop' top' (lessO D.os js)).xd w) ∈ W') (hS : (D.SD, oSD') ∈ W') (hO : (OO', oOO') ∈ W') (hT : ∀ q ∈ D.tl w rest, q ∈ W') :
    ∀ q ∈ (D.told oP' oOD' oSD' oOO' OO' vLA' vTop' top' (lessO D.os js)).fst w ++ ((D.told oP' oOD' oSD' oOO' OO' vLA' vTop' top' (lessO D.os js)).snd w ++ rest), q ∈ W' := by
  intro q hq
  have hq := led_of _ q hq
  rcases List.mem_append.mp hq with hq | hq
  · rcases List.mem_cons.mp hq with rfl | hq
    · exact hP
    rcases List.mem_cons.mp hq with rfl | hq
    · exact hOD
    rcases List.mem_cons.mp hq with rfl | hq
    · exact hX
    rcases List.mem_cons.mp hq with rfl | hq
    · exact hS
    rcases List.mem_cons.mp hq with rfl | hq
    · exact hO
    · exact absurd hq List.not_mem_nil
  · refine hT q ?_
    have sub : ∀ {α : Type} (f : OZ → α) (x : α), x ∈ (lessO D.os js).map f → x ∈ D.os.map f := fun f x hx => by
      obtain ⟨o, ho, rfl⟩ := List.mem_map.mp hx
      exact List.mem_map_of_mem (List.mem_filter.mp ho).1
    rcases List.mem_cons.mp hq with h | hq
    · exact h ▸ .head _
    rcases List.mem_cons.mp hq with h | hq
    · exact h ▸ .tail _ (.head _)
    rcases List.mem_cons.mp hq with h | hq
    · exact h ▸ .tail _ (.tail _ (.head _))
    rcases List.mem_cons.mp hq with h | hq
    · exact h ▸ .tail _ (.tail _ (.tail _ (.head _)))
    rcases List.mem_cons.mp hq with h | hq
    · exact h ▸ .tail _ (.tail _ (.tail _ (.tail _ (.head _))))
    rcases List.mem_cons.mp hq with h | hq
    · exact h ▸ .tail _ (.tail _ (.tail _ (.tail _ (.tail _ (.head _)))))
    refine .tail _ (.tail _ (.tail _ (.tail _ (.tail _ (.tail _ ?_)))))
    rcases List.mem_append.mp hq with hq | hq
    · exact List.mem_append_left _ hq
    refine List.mem_append_right _ ?_
    rcases List.mem_append.mp hq with hq | hq
    · exact List.mem_append_left _ (sub _ _ hq)
    refine List.mem_append_right _ ?_
    rcases List.mem_append.mp hq with hq | hq
    · exact List.mem_append_left _ (sub _ _ hq)
    refine List.mem_append_right _ ?_
    rcases List.mem_append.mp hq with hq | hq
    · exact List.mem_append_left _ (sub _ _ hq)
    · exact List.mem_append_right _ hq
end
theorem less_take {os : List OZ} {js : List Int} {i : Nat} {o : OZ} (h : os[i]? = some o) : lessO (os.take (i + 1)) js = lessO (os.take i) js ++ (if js.contains o.n then [] else [o]) := by
  unfold lessO
  rw [List.take_add_one, h, List.filter_append]
  cases hc : js.contains o.n
  · have e : (some o).toList.filter (fun o => !(js.contains o.n)) = [o] := by
      simp only [Option.toList_some, List.filter_cons, hc, Bool.not_false, if_true, List.filter_nil]
    rw [e]; rfl
  · have e : (some o).toList.filter (fun o => !(js.contains o.n)) = [] := by
      simp only [Option.toList_some, List.filter_cons, hc, Bool.not_true, Bool.false_eq_true, if_false, List.filter_nil]
    rw [e]; rfl
theorem any_contains {js : List Int} {x : Int} : (js.any fun y => y == x) = js.contains x := bool_eq (any_mem.trans List.contains_iff_mem.symm)
theorem maxO_le {o : Option Int} {n b : Int} (h1 : ∀ t, o = some t → t ≤ b) (h2 : n ≤ b) : maxO o n ≤ b := by
  cases o with
  | none => exact h2
  | some t =>
    have := h1 t rfl
    unfold maxO
    dsimp only
    split <;> assumption

-- nolocal
-- needs: led3 space
/-! the first state of all -/
theorem own_nodup : ([Str.ofString "name", Str.ofString "seen", Str.ofString "marks", Str.ofString "high", Str.ofString "high_at", Str.ofString "since", Str.ofString "asked", Str.ofString "at_once", Str.ofString "out", Str.ofString "next", Str.ofString "top", Str.ofString "last", Str.ofString "now"] : List Str).Nodup := by decide +kernel
theorem swaps_dict {ks : List (Option PySem.Expr)} {vs : List PySem.Expr} {q : Pos} {t : Option PySem.Expr} {l : Nat} {env : Env} : swapsWith (.Dict ks vs q) t l env = pure false := rfl
theorem led_apart {P S XD EC RL SD OD SE MA OO : Nat} (a1 : S ≠ P) (_ : P < XD) (_ : S < XD) (a4 : P < RL) (a5 : S < RL) (a6 : XD < SD) (a7 : SD < EC) (a8 : RL < EC) (a9 : EC < OD) (b1 : OD < SE) (b2 : SE < MA) (b3 : MA < OO) :
    (P ≠ S ∧ P ≠ EC ∧ P ≠ RL ∧ P ≠ SE ∧ P ≠ MA) ∧ (EC ≠ S ∧ EC ≠ RL ∧ EC ≠ SE ∧ EC ≠ MA) ∧ (SE ≠ S ∧ SE ≠ RL ∧ SE ≠ MA) ∧ (MA ≠ S ∧ MA ≠ RL) ∧ (XD ≠ OD ∧ XD ≠ SD ∧ XD ≠ OO ∧ OD ≠ SD ∧ OD ≠ OO ∧ SD ≠ OO) := by omega
section
variable {prog : Program} {w : World}
/-- a space and a law's dict, both new -/
noncomputable def Led.fresh (P S X XD EC RL SD OD SE MA OO : Addr) (oP oSD oOD oOO : Obj) (vs : List Value) (ns : List Int) (nS kE kR kS kM : Nat) (kx : Nat → Tok) (nm : Str) (tn t0 t1 t2 t3 t4 t5 t6 t7 t8 t9 : Tok) (AK : Addr) : Led :=
  { P := P, S := S, X := X, XD := XD, EC := EC, RL := RL, SD := SD, OD := OD, SE := SE, MA := MA, OO := OO, oP := oP, oSD := oSD, oOD := oOD, oOO := oOO, vs := vs, ses := [], mas := [], ns := ns, sns := [], mns := [], nS := nS, kS := kS, kM := kM, kE := kE, kR := kR, kx := kx,
    te0 := t2, te1 := t3, te2 := t4, tnm := tn, tnm2 := tn, tun := t1, task := t7, thi := t5, thiA := t6, tnx := t0, tnx2 := t8, tnow := t9, zs := [], os := [], e0 := 0, e1 := 0, e2 := 0, un := 0, hi := -1, hiA := 0, nx := 0, now := 1000, wn := false, nm := nm,
    ls := none, lt := none, fu := none, top := none, last := none, vLA := .none, vAK := .ref AK, vLET := .none, vLT := .none, vLS := .none, vLTm := .none, vFU := .none, vHN := .bool false, vGone := .bool false, vSince := .none, vTop := .none, vLast := .none }
theorem Led.Ok.fresh {P S X XD EC RL SD OD SE MA OO : Addr} {oP oSD oOD oOO : Obj} {vs : List Value} {ns : List Int} {nS kE kR kS kM : Nat} {kx : Nat → Tok} {nm : Str} {tn t0 t1 t2 t3 t4 t5 t6 t7 t8 t9 : Tok} {AK : Addr}
    (hP : PoolO S oP) (hi : IntsAre vs ns) (hl : ns.length ≤ 63) (hnm : nm = Str.ofString "application" ∨ nm = Str.ofString "initial")
    (hD : oOD.IsDictOf (strKind prog w) (odK (.str nm tn) (.ref SE) (.ref MA) (.int (-1) t5) (.int 0 t6) .none (.int 0 t7) (.bool false) (.ref OO) (.int 0 t8) .none .none (.int 1000 t9))) (hS : oSD.IsDictOf (intKind prog w) []) (hO : oOO.IsDictOf (intKind prog w) [])
    (l1 : (OD == sysModules) = false) (l2 : (SD == sysModules) = false) (l3 : (OO == sysModules) = false)
    (a1 : @Ne Nat S P) (a2 : @LT.lt Nat _ P XD) (a3 : @LT.lt Nat _ S XD) (a4 : @LT.lt Nat _ P RL) (a5 : @LT.lt Nat _ S RL) (a6 : @LT.lt Nat _ XD SD) (a7 : @LT.lt Nat _ SD EC) (a8 : @LT.lt Nat _ RL EC) (a9 : @LT.lt Nat _ EC OD) (b1 : @LT.lt Nat _ OD SE) (b2 : @LT.lt Nat _ SE MA) (b3 : @LT.lt Nat _ MA OO) :
    (Led.fresh P S X XD EC RL SD OD SE MA OO oP oSD oOD oOO vs ns nS kE kR kS kM kx nm tn t0 t1 t2 t3 t4 t5 t6 t7 t8 t9 AK).Ok prog w 0 := by
  obtain ⟨⟨p1, p2, p3, p4, p5⟩, ⟨q1, q2, q3, q4⟩, ⟨r1, r2, r3⟩, ⟨s1, s2⟩, u1, u2, u3, u4, u5, u6⟩ := led_apart a1 a2 a3 a4 a5 a6 a7 a8 a9 b1 b2 b3
  exact {
    pool := hP, iv := hi, ln := hl, is := .nil, im := .nil, od := hD, sd := hS, oo := hO, lod := l1, lsd := l2, loo := l3, nm := hnm, xLA := rfl, xTop := rfl, xLET := rfl, xLast := rfl, xLS := rfl, xLT := rfl, xFU := rfl, xSi := rfl, els := rfl, elt := rfl
    ltn := by show (0 : Int) ≤ 1000; decide
    e0 := rfl, e1 := rfl, e2 := rfl, lm := rfl, lk := Nat.le_refl _, lz := Nat.le_refl _, nd := List.nodup_nil, can := ⟨.nil, (fun _ h => absurd h List.not_mem_nil)⟩, cov := fun x => ⟨(fun ⟨_, h, _⟩ => absurd h List.not_mem_nil), (fun h => absurd h List.not_mem_nil)⟩, nx0 := Int.le_refl _, nxk := Int.le_refl _, lo := Nat.le_refl _
    on := (fun _ h => absurd h List.not_mem_nil), tp := (fun _ h => nomatch h), p1 := p1, p2 := p2, p3 := p3, p4 := p4, p5 := p5, q1 := q1, q2 := q2, q3 := q3, q4 := q4, r1 := r1, r2 := r2, r3 := r3, s1 := s1, s2 := s2, u1 := u1, u2 := u2, u3 := u3, u4 := u4, u5 := u5, u6 := u6
    v1 := (fun _ h => absurd h List.not_mem_nil), v2 := (fun _ h => absurd h List.not_mem_nil), v3 := (fun _ h => absurd h List.not_mem_nil), v4 := (fun _ h => absurd h List.not_mem_nil) }
theorem fresh_in {P S X XD EC RL SD OD SE MA OO : Addr} {oP oSD oOD oOO : Obj} {vs : List Value} {ns : List Int} {nS kE kR kS kM : Nat} {kx : Nat → Tok} {nm : Str} {tn t0 t1 t2 t3 t4 t5 t6 t7 t8 t9 : Tok} {AK : Addr} {W' : List (Addr × Obj)}
    (h0 : (P, oP) ∈ W') (h1 : (S, listOf vs.toArray nS) ∈ W') (h2 : (X, instObj 220 XD) ∈ W') (h3 : (XD, xdO w kx (.str nm tn) (.int 0 t0) (.ref SD) .none (.ref AK) .none .none (.ref RL) .none .none .none (.int 0 t1) (.bool false) (.bool false) (.ref EC) (.bool false)) ∈ W') (h4 : (OD, oOD) ∈ W')
    (h5 : (EC, listOf #[.int 0 t2, .int 0 t3, .int 0 t4] kE) ∈ W') (h6 : (RL, listOf #[] kR) ∈ W') (h7 : (SE, listOf #[] kS) ∈ W') (h8 : (MA, listOf #[] kM) ∈ W') (h9 : (SD, oSD) ∈ W') (h10 : (OO, oOO) ∈ W') :
    ∀ q ∈ (Led.fresh P S X XD EC RL SD OD SE MA OO oP oSD oOD oOO vs ns nS kE kR kS kM kx nm tn t0 t1 t2 t3 t4 t5 t6 t7 t8 t9 AK).fst w ++ ((Led.fresh P S X XD EC RL SD OD SE MA OO oP oSD oOD oOO vs ns nS kE kR kS kM kx nm tn t0 t1 t2 t3 t4 t5 t6 t7 t8 t9 AK).snd w ++ []), q ∈ W' := by
  intro q hq
  rcases List.mem_append.mp hq with hq | hq
  · rcases List.mem_cons.mp hq with h | hq
    · exact h ▸ h0
    rcases List.mem_cons.mp hq with h | hq
    · exact h ▸ h1
    rcases List.mem_cons.mp hq with h | hq
    · exact h ▸ h2
    rcases List.mem_cons.mp hq with h | hq
    · exact h ▸ h3
    rcases List.mem_cons.mp hq with h | hq
    · exact h ▸ h4
    rcases List.mem_cons.mp hq with h | hq
    · exact h ▸ h5
    rcases List.mem_cons.mp hq with h | hq
    · exact h ▸ h6
    rcases List.mem_cons.mp hq with h | hq
    · exact h ▸ h7
    rcases List.mem_cons.mp hq with h | hq
    · exact h ▸ h8
    · exact absurd hq List.not_mem_nil
  · rw [List.append_nil] at hq
    rcases List.mem_cons.mp hq with h | hq
    · exact h ▸ h9
    rcases List.mem_cons.mp hq with h | hq
    · exact h ▸ h10
    · exact absurd hq List.not_mem_nil
theorem fresh_all {P S X XD EC RL SD OD SE MA OO : Addr} {oP oSD oOD oOO : Obj} {vs : List Value} {ns : List Int} {nS kE kR kS kM : Nat} {kx : Nat → Tok} {nm : Str} {tn t0 t1 t2 t3 t4 t5 t6 t7 t8 t9 : Tok} {AK : Addr} {W' : List (Addr × Obj)}
    (hP : PoolO S oP) (hi : IntsAre vs ns) (hl : ns.length ≤ 24) (hnm : nm = Str.ofString "application" ∨ nm = Str.ofString "initial")
    (hD : oOD.IsDictOf (strKind prog w) (odK (.str nm tn) (.ref SE) (.ref MA) (.int (-1) t5) (.int 0 t6) .none (.int 0 t7) (.bool false) (.ref OO) (.int 0 t8) .none .none (.int 1000 t9))) (hS : oSD.IsDictOf (intKind prog w) []) (hO : oOO.IsDictOf (intKind prog w) [])
    (l1 : (OD == sysModules) = false) (l2 : (SD == sysModules) = false) (l3 : (OO == sysModules) = false)
    (a1 : @Ne Nat S P) (a2 : @LT.lt Nat _ P XD) (a3 : @LT.lt Nat _ S XD) (a4 : @LT.lt Nat _ P RL) (a5 : @LT.lt Nat _ S RL) (a6 : @LT.lt Nat _ XD SD) (a7 : @LT.lt Nat _ SD EC) (a8 : @LT.lt Nat _ RL EC) (a9 : @LT.lt Nat _ EC OD) (b1 : @LT.lt Nat _ OD SE) (b2 : @LT.lt Nat _ SE MA) (b3 : @LT.lt Nat _ MA OO)
    (h0 : (P, oP) ∈ W') (h1 : (S, listOf vs.toArray nS) ∈ W') (h2 : (X, instObj 220 XD) ∈ W') (h3 : (XD, xdO w kx (.str nm tn) (.int 0 t0) (.ref SD) .none (.ref AK) .none .none (.ref RL) .none .none .none (.int 0 t1) (.bool false) (.bool false) (.ref EC) (.bool false)) ∈ W') (h4 : (OD, oOD) ∈ W')
    (h5 : (EC, listOf #[.int 0 t2, .int 0 t3, .int 0 t4] kE) ∈ W') (h6 : (RL, listOf #[] kR) ∈ W') (h7 : (SE, listOf #[] kS) ∈ W') (h8 : (MA, listOf #[] kM) ∈ W') (h9 : (SD, oSD) ∈ W') (h10 : (OO, oOO) ∈ W') :
    ∃ D0 : Led, D0.Ok prog w 0 ∧ (∀ q ∈ D0.fst w ++ (D0.snd w ++ []), q ∈ W') ∧ D0.ns.length ≤ 24 ∧ D0.P = P ∧ D0.X = X ∧ D0.OD = OD ∧ D0.S = S :=
  ⟨_, Led.Ok.fresh (X := X) (nS := nS) (kE := kE) (kR := kR) (kS := kS) (kM := kM) (kx := kx) (t0 := t0) (t1 := t1) (t2 := t2) (t3 := t3) (t4 := t4) (AK := AK) hP hi (Nat.le_trans hl (by decide)) hnm hD hS hO l1 l2 l3 a1 a2 a3 a4 a5 a6 a7 a8 a9 b1 b2 b3, fresh_in h0 h1 h2 h3 h4 h5 h6 h7 h8 h9 h10, hl, rfl, rfl, rfl, rfl⟩
/-- a number was drawn -/
noncomputable def Led.drew (D : Led) (oP' : Obj) : Led := { D with oP := oP' }
theorem Led.Ok.drew {D : Led} {k : Nat} (O : D.Ok prog w k) {oP' : Obj} (h : PoolO D.S oP') : (D.drew oP').Ok prog w k := { O with pool := h }
end

-- needs: led3 five teq dpairs ackby small take comes
section
variable {prog : Program} {w : World} {A : Around} {E : Value → Shared → Prop} {s : Shared} {h₀ : Heap} {L : Addr} {m mg mb : Str → Option Value}
  {p : Program} {loose : List Str} {mean : ExcName → Option Value} {Q : Value → Shared → Prop} {rest : List (Addr × Obj)}
theorem words_told_1 : True := by
  k_with_none
  k_with "k_enter" => (refine' code_defM ?k1ₓ ?k2ₓ ?k3ₓ ?k5ₓ ?k6ₓ ?k7ₓ ?k8ₓ ?k9ₓ ?kBₓ ?_ ?c2ₓ ?c3ₓ ?c4ₓ ?c5ₓ; (case k1ₓ => k_asm); (case k2ₓ => k_asm); (case k3ₓ => k_asm); (case k5ₓ => k_asm); (case k6ₓ => k_is); (case k7ₓ => k_is); (case k8ₓ => exact Nat.le_of_ble_eq_true rfl); (case k9ₓ => exact rfl); (case c5ₓ => decide); (case kBₓ => exact locs rfl); (case c2ₓ => exact rfl); (case c3ₓ => exact rfl); (case c4ₓ => exact rfl); k_whole; intro g'ₓ L'ₓ h'ₓ FG'ₓ F'ₓ N'ₓ X'ₓ T'ₓ; (try dsimp only [List.map, List.zip, List.zipWith] at F'ₓ); (try dsimp only); (try k_fold))
  k_with "k_mem" => first | with_reducible assumption | with_reducible exact List.mem_cons_self | (with_reducible apply List.mem_cons_of_mem; k_mem)
  k_with "k_all" => first | assumption | exact allLt_off (by assumption)
  k_with "size_fits" => first | assumption | (simp only [Array.size_push, List.size_toArray, List.length_append, List.length_cons, List.length_nil, vz_length, PySem.sizeLine_eq]; omega)
  k_with "binaryOp Add ref ref" => (k_here; (with_reducible show wpAny _ _ (binaryOp _ (Value.ref _) (Value.ref _)) _ _ _); k_dflt (refine' addL ?Fₓ ?Nₓ ?aₓ ?bₓ ?zₓ ?_; (case Fₓ => k_asm); (case Nₓ => k_asm); (case aₓ => k_mem); (case bₓ => k_mem); (case zₓ => (simp only [List.length_cons, List.length_nil, vz_length, sizeLine_eq]; omega))); intro D'ₓ h'ₓ F'ₓ N'ₓ l1ₓ; (try k_lt l1ₓ); (try k_sweep))
  k_with "k_sub" => ((try simp only [List.cons_append, List.nil_append]); (repeat ((with_reducible refine List.forall_mem_cons.mpr ⟨?_, ?_⟩); (next => (first | ((repeat (first | with_reducible exact List.mem_cons_self | with_reducible apply List.mem_cons_of_mem)); done) | (repeat (first | exact List.mem_cons_self | apply List.mem_cons_of_mem)))))); intro qₓ hqₓ; first | with_reducible exact absurd hqₓ List.not_mem_nil | (repeat (first | with_reducible exact hqₓ | with_reducible exact List.mem_append_left _ hqₓ | with_reducible exact List.mem_append_right _ hqₓ | with_reducible apply List.mem_cons_of_mem)))
  k_with "SrcLP" => (k_here; k_dflt (refine LCp.SrcLP.ledger (by rfl) (by k_asm) (by k_asm) (by k_mem) (by size_fits) ?_); intro g'ₓ; refine Halt.out ?_)
  k_with "CompSrc" => (k_here; k_dflt (refine LCg.CompSrc.ledger (by rfl) (by k_asm) (by k_asm) (by k_mem) (by size_fits) ?_); intro g'ₓ; refine Halt.out ?_)
  k_with "CompSrcT" => (k_here; k_dflt (refine LCt.CompSrcT.ledger (by rfl) (by k_asm) (by k_asm) (by k_mem) (by size_fits) ?_); intro g'ₓ; refine Halt.out ?_)
  k_with "CompEnd" => (refine Halt.out ?_)
  k_with "lsm_bools" => assumption
  k_with "eval Name" => (k_here; k_dflt (refine' nameX_L ?Fₓ ?vₓ ?_ ?aₓ ?bₓ; (case Fₓ => k_asm); (case aₓ => rfl); (case bₓ => rfl); (case vₓ => first | exact rfl | assumption); k_whole))
  k_with "eval Name" => (k_here; (with_reducible show wpAny _ _ (eval (Expr.Name _ _) (envOf _ _ _ _ _)) _ _ _); k_dflt (refine' ld ?k1ₓ ?k2ₓ ?_; (case k1ₓ => k_asm); (case k2ₓ => first | exact rfl | assumption); k_whole))
  k_with "k_ne" => (first | assumption | (apply Ne.symm; assumption) | exact Nat.ne_of_lt (by assumption) | exact Nat.ne_of_gt (by assumption))
  k_with "call builtin:len" => (k_here; (with_reducible show wpAny _ _ (call (Value.builtin "len") [Value.ref _]) _ _ _); k_dflt (refine' lenL ?Nₓ ?aₓ ?zₓ ?_; (case Nₓ => k_asm); (case aₓ => k_mem); (case zₓ => (simp only [vz_length]; omega))); (try simp only [vz_length]))
  k_with "setItem ref int" => (k_here; k_dflt (refine' kda_set (knd := PySem.intKind _ _) ?Fₓ ?Nₓ ?Uₓ ?dₓ (intKind_is _ _ _ _) ?zₓ ?_; (case Fₓ => k_asm); (case Nₓ => k_asm); (case Uₓ => k_updF); (case dₓ => assumption); (case zₓ => assumption)); intro h'ₓ o'ₓ F'ₓ N'ₓ hd'ₓ; (try k_sweep))
  k_with "call ref" => (k_here; (with_reducible show wpAny _ _ (call (Value.ref 238) _) _ _ _); k_dflt (refine' to_AL rfl ?dₓ ?uₓ (draw_at ?Fₓ ?Nₓ ?Xₓ ?Tₓ ?Uₓ ?oₓ ?hPₓ ?hSₓ ?hiₓ ?hlₓ ?psₓ ?hmₓ ?_); (case dₓ => exact Nat.le_of_ble_eq_true rfl); (case uₓ => exact Nat.le_of_ble_eq_true rfl); (case Fₓ => k_asm); (case Nₓ => k_asm); (case Xₓ => k_asm); (case Tₓ => k_asm); (case Uₓ => k_updF); (case oₓ => assumption); (case hPₓ => k_mem); (case hSₓ => k_mem); (case hiₓ => assumption); (case hlₓ => assumption); (case psₓ => k_ne); (case hmₓ => first | decide | assumption)); intro v'ₓ t'ₓ o'ₓ h'ₓ tk'ₓ hv0'ₓ hv1'ₓ oP'ₓ F'ₓ N'ₓ; (try dsimp only at N'ₓ); (try k_sweep))
  k_with "call ref" => (k_here; (with_reducible show wpAny _ _ (call (Value.ref 53) _) _ _ _); k_dflt (refine' to_AL rfl ?dₓ ?uₓ (add_at ?Fₓ ?Nₓ ?Xₓ ?Tₓ ?hLₓ ?hzₓ ?hlenₓ ?_); (case dₓ => exact Nat.le_of_ble_eq_true rfl); (case uₓ => exact Nat.le_of_ble_eq_true rfl); (case Fₓ => k_asm); (case Nₓ => k_asm); (case Xₓ => k_asm); (case Tₓ => k_asm); (case hLₓ => k_mem); (case hzₓ => k_sub); (case hlenₓ => first | assumption | omega)); intro RL' z' rs' k' h' tk' F' N' n1' n2' n3' er' es' el'; (repeat (replace n1' := List.forall_mem_cons.mp n1'; (have hn' := And.left n1'); replace n1' := And.right n1'; try dsimp only at hn')); (repeat (replace n2' := List.forall_mem_cons.mp n2'; (have hn' := And.left n2'); replace n2' := And.right n2'; try dsimp only at hn')); (try dsimp only at n3'); (try k_sweep))
  k_with "call ref" => (k_here; (with_reducible show wpAny _ _ (call (Value.ref 58) _) _ _ _); k_dflt (refine' to_AL rfl ?dₓ ?uₓ (has_at ?Fₓ ?Nₓ ?Xₓ ?Tₓ ?hLₓ ?hzₓ ?hlenₓ ?_); (case dₓ => exact Nat.le_of_ble_eq_true rfl); (case uₓ => exact Nat.le_of_ble_eq_true rfl); (case Fₓ => k_asm); (case Nₓ => k_asm); (case Xₓ => k_asm); (case Tₓ => k_asm); (case hLₓ => k_mem); (case hzₓ => k_sub); (case hlenₓ => first | assumption | omega)); intro h'ₓ tk'ₓ F'ₓ N'ₓ; (try k_sweep))
  k_with "call ref" => (k_here; (with_reducible show wpAny _ _ (call (Value.ref 41) _) _ _ _); k_dflt (refine' to_AL rfl ?dₓ ?uₓ (anyel_at ?Fₓ ?Nₓ ?Xₓ ?Tₓ ?hLₓ ?hzₓ ?oₓ ?hlₓ ?_); (case dₓ => exact Nat.le_of_ble_eq_true rfl); (case uₓ => exact Nat.le_of_ble_eq_true rfl); (case Fₓ => k_asm); (case Nₓ => k_asm); (case Xₓ => k_asm); (case Tₓ => k_asm); (case hLₓ => k_mem); (case hzₓ => (intro qₓ hqₓ; first | (refine mem_in ((‹∀ qₓ ∈ tf _, qₓ ∈ _›) qₓ hqₓ) ?_; first | exact ⟨1, rfl⟩ | exact ⟨2, rfl⟩ | exact ⟨3, rfl⟩ | exact ⟨4, rfl⟩ | exact ⟨5, rfl⟩ | exact ⟨6, rfl⟩ | exact ⟨7, rfl⟩ | exact ⟨8, rfl⟩ | exact ⟨9, rfl⟩ | exact ⟨10, rfl⟩ | exact ⟨11, rfl⟩ | exact ⟨12, rfl⟩ | exact ⟨13, rfl⟩ | exact ⟨14, rfl⟩ | exact ⟨15, rfl⟩) | (repeat (first | with_reducible exact (‹∀ qₓ ∈ tf _, qₓ ∈ _›) qₓ hqₓ | with_reducible apply List.mem_cons_of_mem)))); (case oₓ => assumption); (case hlₓ => assumption)); intro h'ₓ tk'ₓ F'ₓ N'ₓ; (try k_sweep))
  k_with "call ref" => (k_here; (with_reducible show wpAny _ _ (call (Value.ref 46) _) _ _ _); k_dflt (refine' to_AL rfl ?dₓ ?uₓ (anyfl_at ?Fₓ ?Nₓ ?Xₓ ?Tₓ ?hLₓ ?hzₓ ?oₓ ?hlₓ ?_); (case dₓ => exact Nat.le_of_ble_eq_true rfl); (case uₓ => exact Nat.le_of_ble_eq_true rfl); (case Fₓ => k_asm); (case Nₓ => k_asm); (case Xₓ => k_asm); (case Tₓ => k_asm); (case hLₓ => k_mem); (case hzₓ => (intro qₓ hqₓ; first | (refine mem_in ((‹∀ qₓ ∈ tf _, qₓ ∈ _›) qₓ hqₓ) ?_; first | exact ⟨1, rfl⟩ | exact ⟨2, rfl⟩ | exact ⟨3, rfl⟩ | exact ⟨4, rfl⟩ | exact ⟨5, rfl⟩ | exact ⟨6, rfl⟩ | exact ⟨7, rfl⟩ | exact ⟨8, rfl⟩ | exact ⟨9, rfl⟩ | exact ⟨10, rfl⟩ | exact ⟨11, rfl⟩ | exact ⟨12, rfl⟩ | exact ⟨13, rfl⟩ | exact ⟨14, rfl⟩ | exact ⟨15, rfl⟩) | (repeat (first | with_reducible exact (‹∀ qₓ ∈ tf _, qₓ ∈ _›) qₓ hqₓ | with_reducible apply List.mem_cons_of_mem)))); (case oₓ => assumption); (case hlₓ => assumption)); intro h'ₓ tk'ₓ F'ₓ N'ₓ; (try k_sweep))
  k_with "call ref" => (k_here; (with_reducible show wpAny _ _ (call (Value.ref 203) _) _ _ _); k_dflt (refine' to_AL rfl ?dₓ ?uₓ (octs_at ?Fₓ ?Nₓ ?Xₓ ?Tₓ ?h1ₓ ?h2ₓ ?h3ₓ ?h4ₓ ?h5ₓ ?h6ₓ ?h7ₓ ?h8ₓ ?_); (case dₓ => exact Nat.le_of_ble_eq_true rfl); (case uₓ => exact Nat.le_of_ble_eq_true rfl); (case Fₓ => k_asm); (case Nₓ => k_asm); (case Xₓ => k_asm); (case Tₓ => k_asm); (case h1ₓ => k_mem); (case h2ₓ => k_mem); (case h3ₓ => k_mem); (case h4ₓ => assumption); (case h5ₓ => assumption); (case h6ₓ => first | assumption | exact fun q hq => .tail _ ((‹∀ q ∈ pz _, q ∈ _›) q hq) | exact fun q hq => .tail _ (.tail _ ((‹∀ q ∈ pz _, q ∈ _›) q hq))); (case h7ₓ => first | assumption | exact fun q hq => .tail _ ((‹∀ q ∈ qz _ _, q ∈ _›) q hq) | exact fun q hq => .tail _ (.tail _ ((‹∀ q ∈ qz _ _, q ∈ _›) q hq))); (case h8ₓ => assumption)); intro h'ₓ tk'ₓ t'ₓ F'ₓ N'ₓ)
  k_with "call ref" => (k_here; (with_reducible show wpAny _ _ (call (Value.ref 198) _) _ _ _); k_dflt (refine' to_AL rfl ?dₓ ?uₓ (elic_at ?Fₓ ?Nₓ ?Xₓ ?Tₓ ?h1ₓ ?h2ₓ ?h3ₓ ?h4ₓ ?h5ₓ ?h6ₓ ?h7ₓ ?h8ₓ ?_); (case dₓ => exact Nat.le_of_ble_eq_true rfl); (case uₓ => exact Nat.le_of_ble_eq_true rfl); (case Fₓ => k_asm); (case Nₓ => k_asm); (case Xₓ => k_asm); (case Tₓ => k_asm); (case h1ₓ => k_mem); (case h2ₓ => k_mem); (case h3ₓ => k_mem); (case h4ₓ => assumption); (case h5ₓ => assumption); (case h6ₓ => first | assumption | exact fun q hq => .tail _ ((‹∀ q ∈ pz _, q ∈ _›) q hq) | exact fun q hq => .tail _ (.tail _ ((‹∀ q ∈ pz _, q ∈ _›) q hq))); (case h7ₓ => first | assumption | exact fun q hq => .tail _ ((‹∀ q ∈ qz _ _, q ∈ _›) q hq) | exact fun q hq => .tail _ (.tail _ ((‹∀ q ∈ qz _ _, q ∈ _›) q hq))); (case h8ₓ => assumption)); intro h'ₓ tk'ₓ F'ₓ N'ₓ)
  k_with "call ref" => (k_here; (with_reducible show wpAny _ _ (call (Value.ref 210) _) _ _ _); k_dflt (refine' to_AL rfl ?dₓ ?uₓ (rows_at ?Fₓ ?Nₓ ?Xₓ ?Tₓ ?h1ₓ ?h2ₓ ?h3ₓ ?h4ₓ ?h5ₓ ?h6ₓ ?h7ₓ ?h8ₓ ?_); (case dₓ => exact Nat.le_of_ble_eq_true rfl); (case uₓ => exact Nat.le_of_ble_eq_true rfl); (case Fₓ => k_asm); (case Nₓ => k_asm); (case Xₓ => k_asm); (case Tₓ => k_asm); (case h1ₓ => k_mem); (case h2ₓ => k_mem); (case h3ₓ => k_mem); (case h4ₓ => assumption); (case h5ₓ => assumption); (case h6ₓ => first | assumption | exact fun q hq => .tail _ ((‹∀ q ∈ pz _, q ∈ _›) q hq) | exact fun q hq => .tail _ (.tail _ ((‹∀ q ∈ pz _, q ∈ _›) q hq))); (case h7ₓ => first | assumption | exact fun q hq => .tail _ ((‹∀ q ∈ qz _ _, q ∈ _›) q hq) | exact fun q hq => .tail _ (.tail _ ((‹∀ q ∈ qz _ _, q ∈ _›) q hq))); (case h8ₓ => assumption)); intro FD'ₓ oFD'ₓ fs'ₓ h'ₓ tk'ₓ hFD'ₓ lFD'ₓ eFD'ₓ F'ₓ N'ₓ; have N2'ₓ := newsSub N'ₓ rows_sub2)
  k_with "k_lt_off" => skip
  k_with "k_ne" => (first | assumption | (apply Ne.symm; assumption))
  k_with "k_mem" => (first | with_reducible assumption | exact mem_at 0 rfl | exact mem_at 1 rfl | exact mem_at 2 rfl | exact mem_at 3 rfl | exact mem_at 4 rfl | exact mem_at 5 rfl | exact mem_at 6 rfl | exact mem_at 7 rfl | exact mem_at 8 rfl | exact mem_at 9 rfl | exact mem_at 10 rfl | exact mem_at 11 rfl | exact mem_at 12 rfl | exact mem_at 13 rfl | exact mem_at 14 rfl | (refine mem_in (by with_reducible assumption) ?_; first | exact ⟨1, rfl⟩ | exact ⟨2, rfl⟩ | exact ⟨3, rfl⟩ | exact ⟨4, rfl⟩ | exact ⟨5, rfl⟩ | exact ⟨6, rfl⟩ | exact ⟨7, rfl⟩ | exact ⟨8, rfl⟩ | exact ⟨9, rfl⟩ | exact ⟨10, rfl⟩ | exact ⟨11, rfl⟩ | exact ⟨12, rfl⟩ | exact ⟨13, rfl⟩ | exact ⟨14, rfl⟩ | exact ⟨15, rfl⟩))
  k_with "k_updF" => (first | exact updF_at 0 (by assumption) rfl rfl | exact updF_at 1 (by assumption) rfl rfl | exact updF_at 2 (by assumption) rfl rfl | exact updF_at 3 (by assumption) rfl rfl | exact updF_at 4 (by assumption) rfl rfl | exact updF_at 5 (by assumption) rfl rfl | exact updF_at 6 (by assumption) rfl rfl | exact updF_at 7 (by assumption) rfl rfl | exact updF_at 8 (by assumption) rfl rfl | exact updF_at 9 (by assumption) rfl rfl | exact updF_at 10 (by assumption) rfl rfl | exact updF_at 11 (by assumption) rfl rfl | exact updF_at 12 (by assumption) rfl rfl)
  k_with "k_upd" => (first | exact upd_at 0 (by assumption) rfl rfl | exact upd_at 1 (by assumption) rfl rfl | exact upd_at 2 (by assumption) rfl rfl | exact upd_at 3 (by assumption) rfl rfl | exact upd_at 4 (by assumption) rfl rfl | exact upd_at 5 (by assumption) rfl rfl | exact upd_at 6 (by assumption) rfl rfl | exact upd_at 7 (by assumption) rfl rfl | exact upd_at 8 (by assumption) rfl rfl | exact upd_at 9 (by assumption) rfl rfl | exact upd_at 10 (by assumption) rfl rfl | exact upd_at 11 (by assumption) rfl rfl | exact upd_at 12 (by assumption) rfl rfl)
  k_with "k_sweep" => (rename News _ _ _ _ => N9ₓ; first | (have hS9ₓ := sep_have N9ₓ (by with_reducible assumption); clear hS9ₓ) | (refine let_new2 N9ₓ (by assumption) (by assumption) (by assumption) ?_; clear N9ₓ; intro l9ₓ N9ₓ S9ₓ) | (refine let_new N9ₓ (by assumption) (by assumption) ?_; clear N9ₓ; intro l9ₓ N9ₓ S9ₓ) | (refine let_set N9ₓ (by assumption) rfl ?_; clear N9ₓ; intro l9ₓ N9ₓ S9ₓ))
  k_with "k_sub" => ((repeat ((with_reducible refine List.forall_mem_cons.mpr ⟨?_, ?_⟩); (next => k_mem))); intro qₓ hqₓ; first | with_reducible exact absurd hqₓ List.not_mem_nil | with_reducible exact hqₓ | exact mem_off 1 rfl hqₓ | exact mem_off 2 rfl hqₓ | exact mem_off 3 rfl hqₓ | exact mem_off 4 rfl hqₓ | exact mem_off 5 rfl hqₓ | exact mem_off 6 rfl hqₓ | exact mem_off 7 rfl hqₓ | exact mem_off 8 rfl hqₓ | exact mem_off 9 rfl hqₓ | exact mem_off 10 rfl hqₓ | exact mem_off 11 rfl hqₓ | exact mem_off 12 rfl hqₓ | exact mem_off 13 rfl hqₓ | exact mem_off 14 rfl hqₓ | exact mem_off 15 rfl hqₓ)
  k_with "exec Assign cons ListComp" => (refine Halt.out ?_)
  k_with "eval ListComp" => (refine Halt.out ?_)
  k_with "pyIter_ref" => (refine Halt.out ?_)
  k_with "call ref" => ((have hst'ₓ : Stop := by assumption); clear hst'ₓ; refine Halt.out ?_)
  k_with "compareOp NotEq bool bool" => (k_here; k_dflt (refine' ne_bool_same ?_))
  k_with "call builtin:max" => (k_here; k_dflt (refine' max_is ?Fₓ ?Nₓ ?lₓ ?iₓ rfl ?tₓ ?mₓ ?_; (case Fₓ => k_asm); (case Nₓ => k_asm); (case lₓ => k_mem); (case iₓ => assumption); (case tₓ => assumption); (case mₓ => assumption)); intro h'ₓ tk'ₓ u'ₓ F'ₓ N'ₓ; (try k_sweep))
  k_with "call builtin:sorted" => (refine Halt.out ?_)
  k_with "compareOp NotEq ref ref" => (refine Halt.out ?_)
  k_with "compareOp Eq ref ref" => (refine Halt.out ?_)
  k_with "eval IfExp" => ((have hst'ₓ : Stop := by assumption); clear hst'ₓ; refine Halt.out ?_)
  k_with "compareOp In int ref" => (k_here; k_dflt (refine' in_ints ?Nₓ ?mₓ ?iₓ ?_; (case Nₓ => k_asm); (case mₓ => k_mem); (case iₓ => assumption)))
  k_with "compareOp NotIn int ref" => (k_here; k_dflt (refine' notin_ints ?Nₓ ?mₓ ?iₓ ?_; (case Nₓ => k_asm); (case mₓ => k_mem); (case iₓ => assumption)))
  k_with "setItem ref str int" => (k_here; (with_reducible show wpAny _ _ (setItem (Value.ref _) (Value.str _ _) _) _ _ _); k_dflt (refine' own_set ?Fₓ ?Nₓ ?Uₓ ?dₓ ?zₓ ?eₓ ?_; (case Fₓ => k_asm); (case Nₓ => k_asm); (case Uₓ => k_updF); (case dₓ => assumption); (case zₓ => exact rfl); (case eₓ => first | with_reducible exact put_top | with_reducible exact put_out | exact put_top | exact put_out)); intro h'ₓ o'ₓ tk'ₓ F'ₓ N'ₓ hd'ₓ; (try k_sweep))
  k_with "setItem ref str bool" => (k_here; (with_reducible show wpAny _ _ (setItem (Value.ref _) (Value.str _ _) _) _ _ _); k_dflt (refine' own_set ?Fₓ ?Nₓ ?Uₓ ?dₓ ?zₓ ?eₓ ?_; (case Fₓ => k_asm); (case Nₓ => k_asm); (case Uₓ => k_updF); (case dₓ => assumption); (case zₓ => exact rfl); (case eₓ => first | with_reducible exact put_top | with_reducible exact put_out | exact put_top | exact put_out)); intro h'ₓ o'ₓ tk'ₓ F'ₓ N'ₓ hd'ₓ; (try k_sweep))
  k_with "setItem ref str none" => (k_here; (with_reducible show wpAny _ _ (setItem (Value.ref _) (Value.str _ _) _) _ _ _); k_dflt (refine' own_set ?Fₓ ?Nₓ ?Uₓ ?dₓ ?zₓ ?eₓ ?_; (case Fₓ => k_asm); (case Nₓ => k_asm); (case Uₓ => k_updF); (case dₓ => assumption); (case zₓ => exact rfl); (case eₓ => first | with_reducible exact put_top | with_reducible exact put_out | exact put_top | exact put_out)); intro h'ₓ o'ₓ tk'ₓ F'ₓ N'ₓ hd'ₓ; (try k_sweep))
  k_with "setItem ref str ref" => (k_here; (with_reducible show wpAny _ _ (setItem (Value.ref _) (Value.str _ _) _) _ _ _); k_dflt (refine' own_set ?Fₓ ?Nₓ ?Uₓ ?dₓ ?zₓ ?eₓ ?_; (case Fₓ => k_asm); (case Nₓ => k_asm); (case Uₓ => k_updF); (case dₓ => assumption); (case zₓ => exact rfl); (case eₓ => first | with_reducible exact put_top | with_reducible exact put_out | exact put_top | exact put_out)); intro h'ₓ o'ₓ tk'ₓ F'ₓ N'ₓ hd'ₓ; (try k_sweep))
  k_with "setItem" => (k_here; (with_reducible show wpAny _ _ (setItem (Value.ref _) (Value.str _ _) _) _ _ _); k_dflt (refine' own_set ?Fₓ ?Nₓ ?Uₓ ?dₓ ?zₓ ?eₓ ?_; (case Fₓ => k_asm); (case Nₓ => k_asm); (case Uₓ => k_updF); (case dₓ => assumption); (case zₓ => exact rfl); (case eₓ => first | with_reducible exact put_top | with_reducible exact put_out | exact put_top | exact put_out)); intro h'ₓ o'ₓ tk'ₓ F'ₓ N'ₓ hd'ₓ; (try k_sweep))
  k_with "subscriptTail Name" => (k_here; (with_reducible show wpAny _ _ (subscriptTail _ _ (Value.ref _) (Value.int _ _)) _ _ _); k_dflt (refine' kda_item (knd := PySem.intKind _ _) ?Nₓ ?pₓ ?dₓ (intKind_is _ _ _ _) ?lₓ ?_; (case Nₓ => k_asm); (case pₓ => k_mem); (case dₓ => assumption); (case lₓ => assumption)))
  k_with "subscriptTail" => (k_here; (with_reducible show wpAny _ _ (subscriptTail _ _ (Value.ref _) (Value.int _ _)) _ _ _); k_dflt (refine' kda_item (knd := PySem.intKind _ _) ?Nₓ ?pₓ ?dₓ (intKind_is _ _ _ _) ?lₓ ?_; (case Nₓ => k_asm); (case pₓ => k_mem); (case dₓ => assumption); (case lₓ => assumption)))
  k_with "subscriptTail Subscript" => walk_at "last subscriptTail"
  k_with "call type:dict" => (refine Halt.out ?_)
  k_with "subscriptTail Name" => (k_here; (with_reducible show wpAny _ _ (subscriptTail _ _ (Value.ref _) (Value.str _ _)) _ _ _); k_dflt (refine' kda_item (knd := PySem.strKind _ _) ?Nₓ ?pₓ ?dₓ (strKind_is _ _ _ _) ?lₓ ?_; (case Nₓ => k_asm); (case pₓ => k_mem); (case dₓ => assumption); (case lₓ => rfl)); (try dsimp only))
  k_with "subscriptTail" => (k_here; (with_reducible show wpAny _ _ (subscriptTail _ _ (Value.ref _) (Value.str _ _)) _ _ _); k_dflt (refine' kda_item (knd := PySem.strKind _ _) ?Nₓ ?pₓ ?dₓ (strKind_is _ _ _ _) ?lₓ ?_; (case Nₓ => k_asm); (case pₓ => k_mem); (case dₓ => assumption); (case lₓ => rfl)); (try dsimp only))
  trivial
theorem told_at {D : Led} {k : Nat}
    (F : Fr h₀ L s.heap m) (X₀ : (heap w.params).In h₀) (T : Top p loose mean mg mb h₀) (O : D.Ok prog w k) (hk : k ≤ 29)
    (N : News h₀ L s.heap (D.fst w ++ (D.snd w ++ rest))) (hr : ∀ q ∈ rest, tagO q.2 = 4)
    (h : ∀ (D' : Led) h' tk', D'.Ok prog w (k + 1) → D'.P = D.P → D'.X = D.X → D'.OD = D.OD → Fr h₀ L h' m → News h₀ L h' (D'.fst w ++ (D'.snd w ++ rest)) → Q (.bool true) { s with heap := h', toks := tk' }) :
    wpAny (model prog w) (AL 330) (call (.ref 269) [.ref D.P, .ref D.X, .ref D.OD]) Q (fun _ _ => False) s := by
  have N₁ := newsSub N (led_to D)
  have hW : ∀ q ∈ D.ex w ++ D.tl w rest, q ∈ D.fst w ++ (D.snd w ++ rest) := led_to D
  have ds := O.dis2 N₁ hr
  refine enterC (binds := [(Str.ofString "pool", .ref D.P), (Str.ofString "space", .ref D.X), (Str.ofString "own", .ref D.OD)]) (W := D.ex w ++ D.tl w rest) F N X₀ T hW (by k_dflt k_is) (by k_dflt k_is) (by decide) (BindsTo.of_eq rfl) rfl (by decide +kernel) ?_ rfl rfl rfl
  intro g L' h₁ tk cells hg F' N' Y l1 X' T'
  have fin : ∀ (D' : Led) W' h' tk' m', D'.Ok prog w (k + 1) → D'.P = D.P → D'.X = D.X → D'.OD = D.OD → Fr g L' h' m' → News g L' h' W' → (∀ q ∈ D'.fst w ++ (D'.snd w ++ rest), q ∈ W') → Q (.bool true) { s with heap := h', toks := tk' } :=
    fun D' W' h' tk' m' x1 x2 x3 x4 F' N' hs => h D' h' tk' x1 x2 x3 x4 (backF F N hW hg F') (newsSub (backN F N hW hg N') hs)
  clear h hW N₁ N X₀ T F hg hr
  k_cells Y
  have D'ₓ := True.intro; have F'ₓ := True.intro; have FD'ₓ := True.intro; have FG'ₓ := True.intro; have L'ₓ := True.intro; have N'ₓ := True.intro; have N9ₓ := True.intro; have S9ₓ := True.intro; have T'ₓ := True.intro; have X'ₓ := True.intro; have eFD'ₓ := True.intro; have fs'ₓ := True.intro; have g'ₓ := True.intro; have h'ₓ := True.intro; have hFD'ₓ := True.intro; have hd'ₓ := True.intro; have hqₓ := True.intro; have hv0'ₓ := True.intro; have hv1'ₓ := True.intro; have l1ₓ := True.intro; have l9ₓ := True.intro; have lFD'ₓ := True.intro; have o'ₓ := True.intro; have oFD'ₓ := True.intro; have oP'ₓ := True.intro; have qₓ := True.intro; have t'ₓ := True.intro; have tk'ₓ := True.intro; have u'ₓ := True.intro; have v'ₓ := True.intro
  rename_i oc1 oc2 oc3 d1 d2 d3
  clear D'ₓ F'ₓ FD'ₓ FG'ₓ L'ₓ N'ₓ N9ₓ S9ₓ T'ₓ X'ₓ eFD'ₓ fs'ₓ g'ₓ h'ₓ hFD'ₓ hd'ₓ hqₓ hv0'ₓ hv1'ₓ l1ₓ l9ₓ lFD'ₓ o'ₓ oFD'ₓ oP'ₓ qₓ t'ₓ tk'ₓ u'ₓ v'ₓ
  have e1 : oc1.data = .cell none := d1
  have e2 : oc2.data = .cell (some (.ref D.OD)) := d2
  have e3 : oc3.data = .cell (some (.ref D.P)) := d3
  have FF : Fr g L' h₁ (fun y => if y = Str.ofString "space" then some (.ref D.X) else none) := F'
  clear d1 d2 d3 F'
  (try simp only [List.cons_append, List.nil_append] at N')
  obtain ⟨TB, hTB⟩ : ∃ TB, TB = (L' + 1 + 1, oc2) :: (L' + 1, oc3) :: (D.OO, D.oOO) :: D.tl w rest := ⟨_, rfl⟩
  have bO : (L' + 1 + 1, oc2) ∈ TB := hTB ▸ .head _
  have bP : (L' + 1, oc3) ∈ TB := hTB ▸ .tail _ (.head _)
  have bOO : (D.OO, D.oOO) ∈ TB := hTB ▸ .tail _ (.tail _ (.head _))
  have bT : ∀ q ∈ D.tl w rest, q ∈ TB := fun q hq => hTB ▸ .tail _ (.tail _ (.tail _ hq))
  have bS : (D.S, listOf D.vs.toArray D.nS) ∈ TB := bT _ (.head _)
  have bX : (D.X, instObj 220 D.XD) ∈ TB := bT _ (.tail _ (.head _))
  have lt : ∀ q ∈ D.ex w ++ D.tl w rest, @LT.lt Nat _ q.1 L' := l1
  have bC : ∀ q ∈ TB, @Ne Nat q.1 (L' + 1 + 1 + 1) := by
    rw [hTB]
    exact List.forall_mem_cons.mpr ⟨Nat.ne_of_lt (Nat.lt_succ_self _), List.forall_mem_cons.mpr ⟨Nat.ne_of_lt (Nat.lt_succ_of_lt (Nat.lt_succ_self _)), List.forall_mem_cons.mpr ⟨Nat.ne_of_lt (Nat.lt_of_lt_of_le (l1 (D.OO, D.oOO) (.tail _ (.tail _ (.tail _ (.tail _ (.head _)))))) (Nat.le_add_right L' 3)), fun q hq => Nat.ne_of_lt (Nat.lt_of_lt_of_le (l1 q (.tail _ (.tail _ (.tail _ (.tail _ (.tail _ hq)))))) (Nat.le_add_right L' 3))⟩⟩⟩
  have cut : ∀ (a : Addr), @LT.lt Nat _ a L' → @Ne Nat D.OO a → (∀ q ∈ D.tl w rest, @Ne Nat q.1 a) → ∀ q ∈ TB, @Ne Nat q.1 a := fun a ha hb hc => by
    rw [hTB]
    exact List.forall_mem_cons.mpr ⟨Nat.ne_of_gt (Nat.lt_of_lt_of_le ha (Nat.le_add_right L' 2)), List.forall_mem_cons.mpr ⟨Nat.ne_of_gt (Nat.lt_succ_of_lt ha), List.forall_mem_cons.mpr ⟨hb, hc⟩⟩⟩
  have lP := l1 (D.P, D.oP) (.head _)
  have lOD := l1 (D.OD, D.oOD) (.tail _ (.head _))
  have lXD := l1 (D.XD, D.xd w) (.tail _ (.tail _ (.head _)))
  have lSD := l1 (D.SD, D.oSD) (.tail _ (.tail _ (.tail _ (.head _))))
  have kP := cut D.P lP (Ne.symm ds.a4) ds.tP
  have kOD := cut D.OD lOD (Ne.symm ds.b3) ds.tOD
  have kXD := cut D.XD lXD (Ne.symm ds.c2) ds.tXD
  have kSD := cut D.SD lSD (Ne.symm ds.d1) ds.tSD
  have cP : @Ne Nat (L' + 1 + 1 + 1) D.P := Nat.ne_of_gt (Nat.lt_of_lt_of_le lP (Nat.le_add_right L' 3))
  have cOD : @Ne Nat (L' + 1 + 1 + 1) D.OD := Nat.ne_of_gt (Nat.lt_of_lt_of_le lOD (Nat.le_add_right L' 3))
  have cXD : @Ne Nat (L' + 1 + 1 + 1) D.XD := Nat.ne_of_gt (Nat.lt_of_lt_of_le lXD (Nat.le_add_right L' 3))
  have cSD : @Ne Nat (L' + 1 + 1 + 1) D.SD := Nat.ne_of_gt (Nat.lt_of_lt_of_le lSD (Nat.le_add_right L' 3))
  have five : Five D.P D.OD D.XD D.SD (L' + 1 + 1 + 1) := { ab := Ne.symm ds.a1, ac := Ne.symm ds.a2, ad := Ne.symm ds.a3, ae := cP, bc := Ne.symm ds.b1, bd := Ne.symm ds.b2, be := cOD, cd := Ne.symm ds.c1, ce := cXD, de := cSD }
  have farB : ∀ q ∈ TB, Far D.P D.OD D.XD D.SD (L' + 1 + 1 + 1) q.1 := fun q hq => ⟨kP q hq, kOD q hq, kXD q hq, kSD q hq, bC q hq⟩
  have NN : News g L' h₁ ((D.P, D.oP) :: (D.OD, D.oOD) :: (D.XD, D.xd w) :: (D.SD, D.oSD) :: (L' + 1 + 1 + 1, oc1) :: TB) := newsSub N' (by
    rw [hTB]
    refine List.forall_mem_cons.mpr ⟨.tail _ (.tail _ (.tail _ (.head _))), List.forall_mem_cons.mpr ⟨.tail _ (.tail _ (.tail _ (.tail _ (.head _)))), List.forall_mem_cons.mpr ⟨.tail _ (.tail _ (.tail _ (.tail _ (.tail _ (.head _))))), List.forall_mem_cons.mpr ⟨.tail _ (.tail _ (.tail _ (.tail _ (.tail _ (.tail _ (.head _)))))), List.forall_mem_cons.mpr ⟨.head _, List.forall_mem_cons.mpr ⟨.tail _ (.head _), List.forall_mem_cons.mpr ⟨.tail _ (.tail _ (.head _)), List.forall_mem_cons.mpr ⟨.tail _ (.tail _ (.tail _ (.tail _ (.tail _ (.tail _ (.tail _ (.head _))))))), fun q hq => .tail _ (.tail _ (.tail _ (.tail _ (.tail _ (.tail _ (.tail _ (.tail _ hq)))))))⟩⟩⟩⟩⟩⟩⟩⟩)
  have sP : @Ne Nat D.S D.P := ds.tP _ (.head _)
  clear cut lP lOD lXD lSD kP kOD kXD kSD cP cOD cXD cSD bC l1 hTB N' lt
  have oP' : PoolO D.S D.oP := O.pool
  have iv : IntsAre D.vs D.ns := O.iv
  have ln : D.ns.length ≤ 63 := O.ln
  obtain ⟨vT, hvT, od⟩ : ∃ vT, OI vT D.top ∧ D.oOD.IsDictOf (strKind prog w) (odK (.str D.nm D.tnm2) (.ref D.SE) (.ref D.MA) (.int D.hi D.thi) (.int D.hiA D.thiA) D.vSince (.int D.un D.task) (.bool D.wn) (.ref D.OO) (.int D.nx D.tnx2) vT D.vLast (.int D.now D.tnow)) := ⟨_, O.xTop, O.od⟩
  have lod : (D.OD == sysModules) = false := O.lod
  have hnx0 : 1 ≤ D.nx + 2 := by have := O.nx0; omega
  have hid : Hid (Led.Ok prog w k D) := ⟨O⟩
  clear O ds
  refine let_on (n := 5) NN (sep5 five farB) ?_
  clear NN
  intro l9 N9 S9
  (try dsimp only)
  k_unmd
  k_fold
  k_steps
  refine Halt.mk (wpAny_Assign_Name ?_ (by with_unfolding_all rfl))
  k_steps
  refine Halt.mk (comp_U (h₀ := g) (L := L') (m := (fun y => if y = Str.ofString "space" then some (.ref D.X) else none)) (cl := [(Str.ofString "pool", L' + 1), (Str.ofString "own", L' + 1 + 1)]) (x := Str.ofString "turn") rfl (by decide) rfl (by decide) rfl ?_)
  k_steps
  rename News g L' _ _ => N₂
  rename Fr g L' _ _ => F₂
  rename IsRange _ _ _ _ _ _ _ _ => R₂
  rename Int => v
  have hv4 : v = 0 ∨ v = 1 ∨ v = 2 ∨ v = 3 := by omega
  have hsm : Builtin.Range.small 0 (1 + v) 1 = true := by rcases hv4 with rfl | rfl | rfl | rfl <;> decide
  have hrs : Builtin.Range.rangeSize 0 (1 + v) 1 = (((1 + v).toNat : Nat) : Int) := by rcases hv4 with rfl | rfl | rfl | rfl <;> rfl
  have hn4 : 1 ≤ (1 + v).toNat ∧ (1 + v).toNat ≤ 4 := by omega
  obtain ⟨oP2, hP2, N₃⟩ : ∃ oP2, PoolO D.S oP2 ∧ News g L' _ ((D.P, oP2) :: (D.OD, D.oOD) :: (D.XD, D.xd w) :: (D.SD, D.oSD) :: (L' + 1 + 1 + 1, oc1) :: TB) := ⟨_, by assumption, newsSub N₂ (by k_sub)⟩
  refine Halt.mk (compU_range rfl F₂ N₃ R₂ hsm hrs (by rw [sizeLine_eq]; omega) ?_)
  clear N₂ F₂ R₂ N₃ hsm hrs hv4
  intro s₂ hs₂
  obtain ⟨g', rfl⟩ := hs₂
  generalize (1 + v).toNat = n at hn4
  refine invU (fun i ys nw => ∃ oP js, PoolO D.S oP ∧ nw = (D.P, oP) :: (D.OD, D.oOD) :: (D.XD, D.xd w) :: (D.SD, D.oSD) :: (L' + 1 + 1 + 1, oc1) :: TB ∧ IntsAre ys js ∧ js.length = i ∧ ∀ j ∈ js, 0 ≤ j ∧ j < D.nx + 2) ⟨oP2, [], hP2, rfl, .nil, rfl, fun _ h => nomatch h⟩ ?turn ?done
  case turn =>
    intro i ys nw v I oI C oC D9 m₂ h tk E' hi hJ hv hC hx F₃ N₃ off ne
    obtain ⟨oP3, js, hP3, rfl, hjs, hjl, hjb⟩ := hJ
    refine let_on (n := 8) N₃ (Sep.cons (List.forall_mem_cons.mpr ⟨Ne.symm ne.1, List.forall_mem_cons.mpr ⟨Ne.symm ne.2.1, (off3_sym off).1⟩⟩) (Sep.cons (List.forall_mem_cons.mpr ⟨Ne.symm ne.2.2, (off3_sym off).2.1⟩) (Sep.cons (off3_sym off).2.2 (sep5 five farB)))) ?_
    clear N₃ fin
    intro l8 N8 S8
    k_unmd
    k_fold
    k_steps
    rename Int => vv
    rename PoolO D.S _ => hP4
    rename Obj => oP4
    refine ⟨LCg.CompEnd.intro (by assumption) (by assumption) ((D.P, oP4) :: (D.OD, D.oOD) :: (D.XD, D.xd w) :: (D.SD, D.oSD) :: (L' + 1 + 1 + 1, oc1) :: TB) (by k_sub) off trivial ⟨oP4, js ++ [vv], hP4, rfl, hjs.append (.cons _ _ .nil), by rw [List.length_append, hjl]; rfl, fun j hj => ?_⟩⟩
    rcases List.mem_append.mp hj with hj | hj
    · exact hjb j hj
    · rw [List.mem_singleton.mp hj]; exact ⟨by assumption, by assumption⟩
  case done =>
    intro ys nw hJ
    obtain ⟨oP3, js, hP3, rfl, hjs, hjl, hjb⟩ := hJ
    intro SM h' tk' F₃ N₃ o1
    refine let_on (n := 6) N₃ (Sep.cons (off1_all o1) (sep5 five farB)) ?_
    clear N₃
    intro l8 N8 S8
    k_unmd
    try k_fold
    k_steps
    rename Obj => oc4
    have d4 : oc4.data = .cell (some (.ref SM)) := by assumption
    rename Fr g L' _ _ => F₄
    obtain ⟨TB2, hTB2, N₄⟩ : ∃ TB2, TB2 = (SM, listOf ys.toArray ys.length) :: TB ∧ News g L' _ ((D.P, oP3) :: (D.OD, D.oOD) :: (D.XD, D.xd w) :: (D.SD, D.oSD) :: (L' + 1 + 1 + 1, oc4) :: TB2) := ⟨_, rfl, newsSub (by assumption) (by k_sub)⟩
    have farB2 : ∀ q ∈ TB2, Far D.P D.OD D.XD D.SD (L' + 1 + 1 + 1) q.1 := hTB2 ▸ List.forall_mem_cons.mpr ⟨far_new (off1_all o1), farB⟩
    have bSM : (SM, listOf ys.toArray ys.length) ∈ TB2 := hTB2 ▸ .head _
    have b2 : ∀ q ∈ TB, q ∈ TB2 := fun q hq => hTB2 ▸ .tail _ hq
    have bO2 := b2 _ bO
    have bP2 := b2 _ bP
    have bS2 := b2 _ bS
    have bX2 := b2 _ bX
    obtain ⟨top, ht, htm⟩ := max_ex js (fun e => by rw [e] at hjl; simp at hjl; omega)
    have hj4 : js.length ≤ 4 := by omega
    have hyl : ys.length ≤ 4 := by rw [hjs.length]; exact hj4
    clear hTB2 farB o1 F₃ hjl hn4 bO bP bS bX
    refine Halt.mk (comp_U (h₀ := g) (L := L') (m := (fun y => if y = Str.ofString "space" then some (.ref D.X) else none)) (cl := []) (x := Str.ofString "one") rfl (by decide) rfl (by decide) rfl ?_)
    refine let_on (n := 5) N₄ (sep5 five farB2) ?_
    clear N₄
    intro l7 N7 S7
    k_steps
    refine Halt.mk (compU_list rfl F₄ N7 (.inr ⟨_, .tail _ (.tail _ (.tail _ (.tail _ (.tail _ bSM)))), rfl, _, rfl⟩) (by rw [List.size_toArray, sizeLine_eq]; omega) ?_)
    intro s₂ hs₂
    obtain ⟨g'', rfl⟩ := hs₂
    refine invU (fun i zs nw => ∃ ps : List PZ, (ps.map fun p => p.k) = js.take i ∧ zs = pairsV ps ∧ nw = (D.P, oP3) :: (D.OD, D.oOD) :: (D.XD, D.xd w) :: (D.SD, D.oSD) :: (L' + 1 + 1 + 1, oc4) :: (pairsN ps ++ TB2)) ⟨[], rfl, rfl, rfl⟩ ?turn ?done
    case turn =>
      intro i zs nw v I oI C oC DL m₂ h tk E' hi hJ hv hC hx F₅ N₅ off ne
      obtain ⟨ps, hps, rfl, rfl⟩ := hJ
      have hj : i < js.length := by rw [← hjs.length]; simpa using hi
      obtain ⟨t8, hv8⟩ := hjs.get i (js[i]) (List.getElem?_eq_getElem hj)
      obtain rfl : v = .int (js[i]) t8 := by
        have h1 : ys[i]? = some v := by simpa using hv
        rw [hv8] at h1
        exact (Option.some.inj h1).symm
      have hjn : js[i]? = some (js[i]) := List.getElem?_eq_getElem hj
      generalize js[i] = one at hjn hx
      refine let_on (n := 0) N₅ Sep.zero ?_
      clear N₅ fin F₄ N7 hv8 hv hj hi
      intro l6 N6 S6
      k_unmd
      k_fold
      k_steps
      rename Addr => T9
      have lt9 : ∀ p ∈ l6, @LT.lt Nat _ p.1 T9 := by assumption
      refine ⟨LCg.CompEnd.intro (by assumption) (by assumption) ((D.P, oP3) :: (D.OD, D.oOD) :: (D.XD, D.xd w) :: (D.SD, D.oSD) :: (L' + 1 + 1 + 1, oc4) :: (pairsN (ps ++ [⟨T9, one, t8, .bool true⟩]) ++ TB2))
        (pairs_sub (pre := [(I, oI), (C, oC), (DL, LCg.lst (pairsV ps)), (D.P, oP3), (D.OD, D.oOD), (D.XD, D.xd w), (D.SD, D.oSD), (L' + 1 + 1 + 1, oc4)]) (fun q hq => .tail _ hq) (.head _))
        (pairs_off (pre := [(D.P, oP3), (D.OD, D.oOD), (D.XD, D.xd w), (D.SD, D.oSD), (L' + 1 + 1 + 1, oc4)]) off ⟨Nat.ne_of_gt (lt9 (I, oI) (.head _)), Nat.ne_of_gt (lt9 (C, oC) (.tail _ (.head _))), Nat.ne_of_gt (lt9 (DL, LCg.lst (pairsV ps)) (.tail _ (.tail _ (.head _))))⟩)
        (.inr ⟨_, .tail _ (.tail _ (.tail _ (.tail _ (.tail _ (List.mem_append_right _ bSM))))), rfl, _, rfl⟩) ⟨ps ++ [⟨T9, one, t8, .bool true⟩], ?_, ?_, rfl⟩⟩
      · rw [List.map_append, hps]
        exact (take_one hjn).symm
      · simp [pairsV]
    case done =>
      intro zs nw hJ
      obtain ⟨ps, hps, rfl, rfl⟩ := hJ
      intro PL h' tk' F₅ N₅ o1
      have hpk : (pairsK ps).map (·.1) = js := by
        rw [List.size_toArray, hjs.length, List.take_length] at hps
        rw [← hps, pairsK, List.map_map]; rfl
      have hpl : ps.length ≤ 4 := by
        have := congrArg List.length hpk
        simp only [pairsK, List.length_map] at this
        omega
      have hm4 : (merged [] (pairsK ps)).length ≤ 4 := Nat.le_trans merged_len (by rw [pairsK, List.length_map]; exact hpl)
      clear hps F₄ N7
      k_unmd
      try k_fold
      k_steps
      refine Halt.mk (dict_pairs rfl F₅ N₅ (Top.nolimit (by assumption)) (.head _) (fun q hq => .tail _ (.tail _ (.tail _ (.tail _ (.tail _ (.tail _ (List.mem_append_left _ hq))))))) (by omega) ?_)
      intro DD oDD h₆ tk₆ F₆ N₆ l₆ lo₆ hd₆
      clear F₅ N₅ l₆
      have st : Stop := ⟨⟩
      k_steps
      refine Halt.mk (to_AL rfl (Nat.le_of_ble_eq_true rfl) (Nat.le_of_ble_eq_true rfl) (lawr_at F₆ N₆ (by assumption) (by assumption) (.head _) (.inr ⟨lo₆, _, hd₆, rfl⟩) (by rw [List.length_map]; omega) ?_))
      clear F₆ N₆
      intro FL fz kF h₇ tk₇ ms hperm hsort hrz hfl F₇ N₇
      have hcc := lawR_of hperm hsort (keysNodup_of_isDictOf hd₆)
      rw [← hrz] at hcc
      obtain ⟨hcan, hcov⟩ := hcc
      have hcov : ∀ x, covR (rz fz) x ↔ x ∈ js := fun x => (hcov x).trans (merged_keys.trans (by rw [hpk]))
      obtain ⟨z, zr, rfl⟩ : ∃ z zr, fz = z :: zr := by
        cases fz with
        | nil => obtain ⟨r, hr, _⟩ := (hcov top).mpr ht; exact absurd hr List.not_mem_nil
        | cons z zr => exact ⟨z, zr, rfl⟩
      have hzt : z.hi = top := top_is (z := z.rng) hcan hcov ht htm
      have hzl : (z :: zr).length ≤ 60 := Nat.le_trans hfl (by rw [List.length_map]; omega)
      obtain ⟨za, zlo, zhi, zt, zu⟩ := z
      obtain rfl : zhi = top := hzt
      have tOD : tagO D.oOD = 2 := tag_dict od
      have tSD : tagO D.oSD = 2 := tag_dict hid.out.sd
      obtain ⟨TB3, hTB3⟩ : ∃ TB3, TB3 = (FL, listOf (vz (⟨za, zlo, zhi, zt, zu⟩ :: zr)).toArray kF) :: (tz (⟨za, zlo, zhi, zt, zu⟩ :: zr) ++ TB2) := ⟨_, rfl⟩
      have hs7 := fun q (hq : q ∈ [(D.P, oP3), (D.OD, D.oOD), (D.XD, D.xd w), (D.SD, D.oSD), (L' + 1 + 1 + 1, oc4)]) => List.Mem.tail (FL, listOf (vz (⟨za, zlo, zhi, zt, zu⟩ :: zr)).toArray kF) (List.mem_append_right (tz (⟨za, zlo, zhi, zt, zu⟩ :: zr)) (List.Mem.tail (DD, oDD) (List.Mem.tail (PL, LCg.lst (pairsV ps)) (List.mem_append_left (pairsN ps ++ TB2) hq))))
      have farB3 : ∀ q ∈ TB3, Far D.P D.OD D.XD D.SD (L' + 1 + 1 + 1) q.1 := by
        rw [hTB3]
        refine List.forall_mem_cons.mpr ⟨far_kind N₇ hs7 (.head _) (pool_not hP3 _ _) tOD rfl tSD ⟨_, d4⟩ (by show ¬ (1 = 2); decide) ⟨_, _, rfl⟩, fun q hq => ?_⟩
        rcases List.mem_append.mp hq with hq | hq
        · have ht3 := tag_tz hq
          refine far_kind (o := q.2) N₇ hs7 (.tail _ (List.mem_append_left _ hq)) (fun e => ?_) tOD rfl tSD ⟨_, d4⟩ (by rw [ht3]; decide) ?_
          · rw [e, tag_pool hP3] at ht3; exact absurd ht3 (by decide)
          · obtain ⟨z9, _, rfl⟩ := List.mem_map.mp hq
            exact ⟨_, _, rfl⟩
        · exact farB2 q hq
      have N₈ : News g L' h₇ ((D.P, oP3) :: (D.OD, D.oOD) :: (D.XD, D.xd w) :: (D.SD, D.oSD) :: (L' + 1 + 1 + 1, oc4) :: TB3) := fun q hq => by
        rcases List.mem_append.mp (show q ∈ [(D.P, oP3), (D.OD, D.oOD), (D.XD, D.xd w), (D.SD, D.oSD), (L' + 1 + 1 + 1, oc4)] ++ TB3 from hq) with hq | hq
        · exact N₇ q (hs7 q hq)
        · rw [hTB3] at hq
          rcases List.mem_cons.mp hq with rfl | hq
          · exact N₇ _ (.head _)
          rcases List.mem_append.mp hq with hq | hq
          · exact N₇ q (.tail _ (List.mem_append_left _ hq))
          · exact N₇ q (.tail _ (List.mem_append_right _ (.tail _ (.tail _ (.tail _ (.tail _ (.tail _ (.tail _ (.tail _ (List.mem_append_right _ hq))))))))))
      have bFL : (FL, listOf (vz (⟨za, zlo, zhi, zt, zu⟩ :: zr)).toArray kF) ∈ TB3 := hTB3 ▸ .head _
      have btz : ∀ q ∈ tz (⟨za, zlo, zhi, zt, zu⟩ :: zr), q ∈ TB3 := fun q hq => hTB3 ▸ .tail _ (List.mem_append_left _ hq)
      have b3 : ∀ q ∈ TB2, q ∈ TB3 := fun q hq => hTB3 ▸ .tail _ (List.mem_append_right _ hq)
      have bSM3 := b3 _ bSM
      have bO3 := b3 _ bO2
      have bP3 := b3 _ bP2
      have bS3 := b3 _ bS2
      have bX3 := b3 _ bX2
      have bOO3 := b3 _ (b2 _ bOO)
      have bT3 := fun q hq => b3 q (b2 q (bT q hq))
      clear N₇ hs7 hTB3 hperm hsort hrz hfl hd₆ lo₆ hm4 hpl hpk b3 b2 bT bOO bSM bO2 bP2 bS2 bX2 farB2
      refine let_on (n := 5) N₈ (sep5 five farB3) ?_
      clear N₈
      intro l6 N6 S6
      k_steps
      rename News g L' _ _ => N₉
      rename Fr g L' _ _ => F₉
      refine Halt.mk (to_AL rfl (Nat.le_of_ble_eq_true rfl) (Nat.le_of_ble_eq_true rfl) (beyond_at F₉ N₉ (by assumption) (by assumption) (mem_in bX3 ⟨5, rfl⟩) (mem_at 2 rfl) (mem_in bFL ⟨5, rfl⟩) (mem_in (btz _ (.head _)) ⟨5, rfl⟩) (by rw [vz_length]; omega) ?_))
      clear F₉ N₉
      intro h₈ tk₈ F₈ N₈
      refine let_on (n := 5) N₈ (sep5 five farB3) ?_
      clear N₈
      intro l6 N6 S6
      k_steps
      rename News g L' _ _ => N₉
      rename Fr g L' _ _ => F₉
      refine Halt.mk (to_AL rfl (Nat.le_of_ble_eq_true rfl) (Nat.le_of_ble_eq_true rfl) (ackby_at F₉ N₉ (by assumption) (by assumption) (mem_in bX3 ⟨5, rfl⟩) (mem_at 2 rfl) (mem_at 3 rfl) hid.out.sd hid.out.lsd (mem_in bFL ⟨5, rfl⟩) (fun q hq => mem_in (btz q hq) ⟨5, rfl⟩) (by omega) (by have := hid.out.lo; omega) ?_))
      clear F₉ N₉
      intro NU vs2 m2 cN h₉ tk₉ hI2 hp2 ho2 F₉ N₉ hnNU
      have hpm : m2.Perm ((D.os.map fun o => o.n).filter fun x => js.any fun y => y == x) := by
        have e : ((D.os.map fun o => o.n).filter fun x => js.any fun y => y == x) = (D.os.map fun o => o.n).filter (hasR (rz (⟨za, zlo, zhi, zt, zu⟩ :: zr))) := List.filter_congr fun x _ => bool_eq (any_mem.trans ((hcov x).symm.trans hasR_cov.symm))
        rw [e]; exact hp2
      obtain ⟨TB4, hTB4, N₁₀⟩ : ∃ TB4, TB4 = (NU, listOf vs2.toArray cN) :: TB3 ∧ News g L' _ ((D.P, oP3) :: (D.OD, D.oOD) :: (D.XD, D.xd w) :: (D.SD, D.oSD) :: (L' + 1 + 1 + 1, oc4) :: TB4) := ⟨_, rfl, newsSub N₉ (by k_sub)⟩
      have farB4 : ∀ q ∈ TB4, Far D.P D.OD D.XD D.SD (L' + 1 + 1 + 1) q.1 := hTB4 ▸ List.forall_mem_cons.mpr ⟨far_new (oa := oP3) (ob := D.oOD) (oc := D.xd w) (od := D.oSD) (oe := oc4) (T := TB3) hnNU, farB3⟩
      have bNU : (NU, listOf vs2.toArray cN) ∈ TB4 := hTB4 ▸ .head _
      have b4 : ∀ q ∈ TB3, q ∈ TB4 := fun q hq => hTB4 ▸ .tail _ hq
      have bSM4 := b4 _ bSM3
      have bO4 := b4 _ bO3
      have bP4 := b4 _ bP3
      have bS4 := b4 _ bS3
      have bX4 := b4 _ bX3
      have bOO4 := b4 _ bOO3
      have bT4 := fun q hq => b4 q (bT3 q hq)
      clear N₉ hnNU hp2 hTB4 farB3 b4 bSM3 bO3 bP3 bS3 bX3 bOO3 bT3 bFL btz hcan hcov hzl
      refine let_on (n := 5) N₁₀ (sep5 five farB4) ?_
      clear N₁₀
      intro l6 N6 S6
      k_steps
      rename Fr g L' _ _ => F₁₀
      obtain ⟨mm, hmm, F₁₁⟩ : ∃ mm, mm = _ ∧ Fr g L' _ mm := ⟨_, rfl, F₁₀⟩
      have qs : mm (Str.ofString "space") = some (.ref D.X) := hmm ▸ rfl
      have qn : mm (Str.ofString "numbers") = some (.ref NU) := hmm ▸ rfl
      clear hmm F₁₀
      refine Halt.mk (comp_T (h₀ := g) (L := L') (m := mm) (cl := [(Str.ofString "some", L' + 1 + 1 + 1)]) (x := Str.ofString "one") rfl (by decide) rfl (by decide) rfl ?_)
      k_steps
      rename News g L' _ _ => N₁₂
      rename Fr g L' _ _ => F₁₂
      have hon : (outK D.os).map (·.1) = D.os.map fun o => o.n := by simp [outK, Function.comp_def]
      have hol : D.os.length ≤ 30 := Nat.le_trans hid.out.lo (by omega)
      refine Halt.mk (compT_keys (knd := intKind prog w) rfl F₁₂ N₁₂ (mem_in bOO4 ⟨5, rfl⟩) hid.out.oo hid.out.loo (by rw [outK, List.length_map, sizeLine_eq]; omega) ?_)
      intro s₂ hs₂
      obtain ⟨g3, rfl⟩ := hs₂
      refine invT (fun i zs nw => nw = (D.P, oP3) :: (D.OD, D.oOD) :: (D.XD, D.xd w) :: (D.SD, D.oSD) :: (L' + 1 + 1 + 1, oc4) :: TB4 ∧ IntsAre zs (((D.os.map fun o => o.n).take i).filter fun x => js.any fun y => y == x)) ⟨rfl, .nil⟩ ?turn ?done
      case turn =>
        intro i zs nw v I oI C oC DL m₂ h tk E' hi hJ hv hC hx F₅ N₅ off ne
        obtain ⟨rfl, hzs⟩ := hJ
        obtain ⟨key, y9, hkv, hkn⟩ := hv
        obtain ⟨tn, rfl⟩ := Value.isInt_shape hkn
        have hkn' : (D.os.map fun o => o.n)[i]? = some key := by rw [← hon, List.getElem?_map, hkv]; rfl
        refine let_on (n := 0) N₅ Sep.zero ?_
        clear N₅ fin F₁₂ N₁₂ hkv hkn
        intro l6 N6 S6
        k_unmd
        k_fold
        k_steps
        · refine ⟨LCg.CompEnd.intro (by assumption) (by assumption) _ (fun _ h => h) off (.tail _ (.tail _ (.tail _ (.tail _ (.tail _ bOO4))))) ⟨rfl, ?_⟩⟩
          rw [← take_filter (f := fun x => js.any fun y => y == x) hkn' (by assumption)]
          exact hzs.append (.cons _ _ .nil)
        · refine ⟨LCg.CompEnd.intro (by assumption) (by assumption) _ (fun _ h => h) off (.tail _ (.tail _ (.tail _ (.tail _ (.tail _ bOO4))))) ⟨rfl, ?_⟩⟩
          rw [← take_filter0 (f := fun x => js.any fun y => y == x) hkn' (by assumption)]
          exact hzs
      case done =>
        intro zs nw hJ
        obtain ⟨rfl, hzs⟩ := hJ
        rw [show (outK D.os).length = (D.os.map fun o => o.n).length by simp [outK], List.take_length] at hzs
        intro DL h' tk' F₅ N₅ o1
        clear F₁₂ N₁₂
        k_unmd
        try k_fold
        k_steps
        refine Halt.mk (kso_sorted F₅ N₅ ⟨_, (N₅ _ (.head _)).1, rfl, _, rfl⟩ hzs (Nat.lt_of_le_of_lt (List.length_filter_le _ _) (by rw [List.length_map]; omega)) ?_)
        intro D2 vs3 m3 c3 h₆ F₆ N₆ _ i3 _ p3 o3 _
        obtain rfl : m3 = m2 := sort_eq (p3.trans hpm.symm) o3 ho2
        clear F₅ N₅ hzs o1
        k_steps
        refine Halt.mk (ints_ne2 N₆ (.tail _ (.tail _ (.tail _ (.tail _ (.tail _ (.tail _ (.tail _ bNU))))))) (.head _) hI2 i3 (by exact Nat.le_of_ble_eq_true rfl) ?_)
        refine let_on (n := 5) (newsSub (news' := (D.P, oP3) :: (D.OD, D.oOD) :: (D.XD, D.xd w) :: (D.SD, D.oSD) :: (L' + 1 + 1 + 1, oc4) :: TB4) N₆ (fun q hq => .tail _ (.tail _ hq))) (sep5 five farB4) ?_
        clear N₆ i3 p3 o3
        intro l6 N6 S6
        k_steps
        rename News g L' _ _ => N₇
        rename Fr g L' _ _ => F₇
        refine Halt.mk (to_AL rfl (Nat.le_of_ble_eq_true rfl) (Nat.le_of_ble_eq_true rfl) (largest_at F₇ N₇ (by assumption) (by assumption) (mem_in bX4 ⟨5, rfl⟩) (mem_at 2 rfl) (updF_at 2 S6 rfl rfl) (farB4 _ bX4).c hid.out.xLA ?_))
        clear F₇ N₇
        intro vLA2 h₈ tk₈ hLA2 F₈ N₈
        obtain ⟨oX2, hoX2, N₉⟩ : ∃ oX2, oX2 = xdO w D.kx (.str D.nm D.tnm) (.int D.nx D.tnx) (.ref D.SD) vLA2 D.vAK D.vLET D.vLT (.ref D.RL) D.vLS D.vLTm D.vFU (.int D.un D.tun) (.bool D.wn) D.vHN (.ref D.EC) D.vGone ∧ News g L' h₈ ((D.P, oP3) :: (D.OD, D.oOD) :: (D.XD, oX2) :: (D.SD, D.oSD) :: (L' + 1 + 1 + 1, oc4) :: TB4) := ⟨_, rfl, N₈⟩
        clear N₈ N6 S6
        refine let_on (n := 5) N₉ (sep5 five farB4) ?_
        clear N₉
        intro l6 N6 S6
        k_steps
        rename News g L' _ _ => N₇
        rename Fr g L' _ _ => F₇
        refine Halt.mk (mergeV (fun v => OI v (some (maxO D.top zhi))) F₇ N₇ ?g1 ?g2)
        case g1 =>
          clear fin st
          obtain ⟨tp, htp⟩ : ∃ tp, tp = D.top := ⟨_, rfl⟩
          rw [← htp] at hvT ⊢
          cases tp with
          | none =>
            cases hvT
            k_steps
            exact MidV.intro (by assumption) (by assumption) (fun _ h => h) ⟨_, rfl⟩
          | some tp =>
            obtain ⟨u, rfl⟩ := hvT
            k_steps
            exact MidV.intro (by assumption) (by assumption) (fun _ h => h) ⟨_, rfl⟩
        case g2 =>
          clear F₇ N₇
          intro vT2 h₉ tk₉ hvT2 F₉ N₉
          subst hoX2
          have hv2 : vs2.length ≤ 100 := by rw [hI2.length, hpm.length_eq]; exact Nat.le_trans (List.length_filter_le _ _) (by rw [List.length_map]; omega)
          have hml : m3.length < 60 := by rw [hpm.length_eq]; exact Nat.lt_of_le_of_lt (List.length_filter_le _ _) (by rw [List.length_map]; omega)
          k_steps
          rename News g L' _ _ => N₇
          rename Fr g L' _ _ => F₇
          rename Obj => oOD2
          rename Sep _ _ => S₇
          rename Obj.IsDictOf (strKind prog w) _ _ => od2
          have hnd : (D.os.map fun o => o.n).Nodup := by
            have e : (sentK D.os).map (·.1) = D.os.map fun o => o.n := by simp [sentK, Function.comp_def]
            rw [← e]; exact keysNodup_of_isDictOf hid.out.sd
          refine Halt.mk (to_AL rfl (Nat.le_of_ble_eq_true rfl) (Nat.le_of_ble_eq_true rfl) (take_at F₇ N₇ (by assumption) (by assumption) (mem_in bX4 ⟨7, rfl⟩) (mem_at 4 rfl) (mem_at 5 rfl) (updF_at 5 S₇ rfl rfl) hid.out.sd hid.out.lsd (by omega) (mem_at 0 rfl) (hI2.append (.cons _ _ .nil)) (by rw [List.length_append, List.length_singleton]; omega) (nums_nodup hnd hid.out.on hpm) (farB4 _ bX4).d (Ne.symm five.cd) (sep_ne S₇ 5 0 rfl rfl rfl rfl) ?_))
          clear F₇ N₇
          intro TP oS ps2 cP m9 h₁₀ tk₁₀ hdS hpp hoo hps2 hpo F₁₀ N₁₀ hnTP
          obtain ⟨hpn, hless⟩ := take_plain hid.out.on hpm ho2 hpp hoo hps2
          rw [hless] at hdS
          obtain ⟨TB5, hTB5, N₁₁⟩ : ∃ TB5, TB5 = (TP, listOf (ps2.map fun o => Value.ref o.pa).toArray cP) :: TB4 ∧ News g L' h₁₀ ((D.P, oP3) :: (D.OD, oOD2) :: (D.XD, xdO w D.kx (.str D.nm D.tnm) (.int D.nx D.tnx) (.ref D.SD) vLA2 D.vAK D.vLET D.vLT (.ref D.RL) D.vLS D.vLTm D.vFU (.int D.un D.tun) (.bool D.wn) D.vHN (.ref D.EC) D.vGone) :: (D.SD, oS) :: (L' + 1 + 1 + 1, oc4) :: TB5) := ⟨_, rfl, newsSub N₁₀ (by k_sub)⟩
          have farB5 : ∀ q ∈ TB5, Far D.P D.OD D.XD D.SD (L' + 1 + 1 + 1) q.1 := hTB5 ▸ List.forall_mem_cons.mpr ⟨far_new (oa := oP3) (ob := oOD2) (oc := xdO w D.kx (.str D.nm D.tnm) (.int D.nx D.tnx) (.ref D.SD) vLA2 D.vAK D.vLET D.vLT (.ref D.RL) D.vLS D.vLTm D.vFU (.int D.un D.tun) (.bool D.wn) D.vHN (.ref D.EC) D.vGone) (od := D.oSD) (oe := oc4) (T := TB4) (fun q hq => hnTP q (mem_off 2 rfl hq)), farB4⟩
          have bTP : (TP, listOf (ps2.map fun o => Value.ref o.pa).toArray cP) ∈ TB5 := hTB5 ▸ .head _
          have b5 : ∀ q ∈ TB4, q ∈ TB5 := fun q hq => hTB5 ▸ .tail _ hq
          have bNU5 := b5 _ bNU
          have bSM5 := b5 _ bSM4
          have bO5 := b5 _ bO4
          have bX5 := b5 _ bX4
          have bOO5 := b5 _ bOO4
          have bT5 := fun q hq => b5 q (bT4 q hq)
          clear N₁₀ hnTP hTB5 hpp hoo hps2 hless farB4 b5 bNU bSM4 bO4 bX4 bOO4 bT4 bP4 bS4
          refine let_on (n := 5) N₁₁ (sep5 five farB5) ?_
          clear N₁₁
          intro l6 N6 S6
          k_steps
          rename Fr g L' _ _ => F₁₂
          obtain ⟨m5, hm5, F₁₃⟩ : ∃ m5, m5 = _ ∧ Fr g L' _ m5 := ⟨_, rfl, F₁₂⟩
          have qn5 : m5 (Str.ofString "numbers") = some (.ref NU) := hm5 ▸ qn
          have qt5 : m5 (Str.ofString "told") = some (.ref TP) := hm5 ▸ rfl
          clear hm5 F₁₂ qs qn
          have hoo : D.oOO.IsDictOf (intKind prog w) (outK D.os) := hid.out.oo
          have hnk := keysNodup_of_isDictOf hoo
          refine Halt.mk (comp_T (h₀ := g) (L := L') (m := m5) (cl := [(Str.ofString "some", L' + 1 + 1 + 1), (Str.ofString "own", L' + 1 + 1)]) (x := Str.ofString "one") rfl (by decide) rfl (by decide) rfl ?_)
          k_steps
          rename News g L' _ _ => N₁₂
          rename Fr g L' _ _ => F₁₂
          refine Halt.mk (compT_keys (knd := intKind prog w) rfl F₁₂ N₁₂ (mem_in bOO5 ⟨5, rfl⟩) hoo hid.out.loo (by rw [outK, List.length_map, sizeLine_eq]; omega) ?_)
          clear N₁₂
          intro s₂ hs₂
          obtain ⟨g5, rfl⟩ := hs₂
          obtain ⟨oX2, hoX2⟩ : ∃ oX2, oX2 = xdO w D.kx (.str D.nm D.tnm) (.int D.nx D.tnx) (.ref D.SD) vLA2 D.vAK D.vLET D.vLT (.ref D.RL) D.vLS D.vLTm D.vFU (.int D.un D.tun) (.bool D.wn) D.vHN (.ref D.EC) D.vGone := ⟨_, rfl⟩
          refine invT (fun i zs nw => ∃ pq : List PZ, pairsK pq = outK (lessO (D.os.take i) js) ∧ zs = pairsV pq ∧ nw = (D.P, oP3) :: (D.OD, oOD2) :: (D.XD, oX2) :: (D.SD, oS) :: (L' + 1 + 1 + 1, oc4) :: (pairsN pq ++ TB5)) ⟨[], rfl, rfl, by rw [hoX2]; rfl⟩ ?turn ?done
          case turn =>
            intro i zs nw v I oI C oC DL m₂ h tk E' hi hJ hv hC hx F₅ N₅ off ne
            obtain ⟨pq, hpq, rfl, rfl⟩ := hJ
            obtain ⟨key, y9, hkv, hkn⟩ := hv
            obtain ⟨tn, rfl⟩ := Value.isInt_shape hkn
            obtain ⟨o, ho, hov⟩ := Option.map_eq_some_iff.mp (show (D.os[i]?).map (fun o : OZ => (o.n, Value.ref o.ta)) = _ by rw [← List.getElem?_map]; exact hkv)
            cases hov
            have hval : valueAt (outK D.os) o.n = some (.ref o.ta) := valueAt_mem hnk (List.mem_map_of_mem (f := fun o : OZ => (o.n, Value.ref o.ta)) (List.mem_of_getElem? ho))
            have bSM6 : (SM, listOf ys.toArray ys.length) ∈ pairsN pq ++ TB5 := List.mem_append_right _ bSM5
            have bO6 : (L' + 1 + 1, oc2) ∈ pairsN pq ++ TB5 := List.mem_append_right _ bO5
            have bOO6 : (D.OO, D.oOO) ∈ pairsN pq ++ TB5 := List.mem_append_right _ bOO5
            refine let_on (n := 0) N₅ Sep.zero ?_
            clear N₅ fin F₁₂ hkv hkn hnk
            intro l6 N6 S6
            k_unmd
            k_fold
            k_steps
            · have hc : (js.any fun y => y == o.n) = true := by assumption
              refine ⟨LCg.CompEnd.intro (by assumption) (by assumption) ((D.P, oP3) :: (D.OD, oOD2) :: (D.XD, oX2) :: (D.SD, oS) :: (L' + 1 + 1 + 1, oc4) :: (pairsN pq ++ TB5)) (fun q hq => hq) off (.tail _ (.tail _ (.tail _ (.tail _ (.tail _ bOO6))))) ⟨pq, ?_, rfl, rfl⟩⟩
              rw [less_take ho, ← any_contains, hc, if_pos rfl, List.append_nil]
              exact hpq
            · have hc : (js.any fun y => y == o.n) = false := by assumption
              rename Addr => T9
              have lt9 : ∀ p ∈ l6, @LT.lt Nat _ p.1 T9 := by assumption
              refine ⟨LCg.CompEnd.intro (by assumption) (by assumption) ((D.P, oP3) :: (D.OD, oOD2) :: (D.XD, oX2) :: (D.SD, oS) :: (L' + 1 + 1 + 1, oc4) :: (pairsN (pq ++ [⟨T9, o.n, tn, .ref o.ta⟩]) ++ TB5))
                (pairs_sub (pre := [(I, oI), (C, oC), (DL, LCg.lst (pairsV pq)), (D.P, oP3), (D.OD, oOD2), (D.XD, oX2), (D.SD, oS), (L' + 1 + 1 + 1, oc4)]) (fun q hq => .tail _ hq) (.head _))
                (pairs_off (pre := [(D.P, oP3), (D.OD, oOD2), (D.XD, oX2), (D.SD, oS), (L' + 1 + 1 + 1, oc4)]) off ⟨Nat.ne_of_gt (lt9 (I, oI) (.head _)), Nat.ne_of_gt (lt9 (C, oC) (.tail _ (.head _))), Nat.ne_of_gt (lt9 (DL, LCg.lst (pairsV pq)) (.tail _ (.tail _ (.head _))))⟩)
                (.tail _ (.tail _ (.tail _ (.tail _ (.tail _ (List.mem_append_right _ bOO5)))))) ⟨pq ++ [⟨T9, o.n, tn, .ref o.ta⟩], ?_, ?_, rfl⟩⟩
              · rw [less_take ho, ← any_contains, hc, pairsK, List.map_append, outK, List.map_append]
                exact congrArg (· ++ _) hpq
              · simp [pairsV]
          case done =>
            intro zs nw hJ
            obtain ⟨pq, hpq, rfl, rfl⟩ := hJ
            rw [show (outK D.os).length = D.os.length by simp [outK], List.take_length] at hpq
            intro PL h' tk' F₅ N₅ o1
            clear F₁₂ o1
            k_unmd
            try k_fold
            k_steps
            have hpl : pq.length ≤ 1000 := by
              have h9 := congrArg List.length hpq
              simp only [pairsK, outK, List.length_map] at h9
              rw [h9]
              exact Nat.le_trans (List.length_filter_le _ _) (by omega)
            refine Halt.mk (dict_pairs rfl F₅ N₅ (Top.nolimit (by assumption)) (.head _) (fun q hq => .tail _ (.tail _ (.tail _ (.tail _ (.tail _ (.tail _ (List.mem_append_left _ hq))))))) hpl ?_)
            intro DD oDD h₆ tk₆ F₆ N₆ l₆ lo₆ hd₆
            rw [hpq, merged_nil_of_nodup _ (by
              have e : (outK (lessO D.os js)).map (·.1) = (lessO D.os js).map fun o => o.n := by simp [outK, Function.comp_def]
              rw [e]
              exact hnd.sublist (List.Sublist.map _ List.filter_sublist))] at hd₆
            obtain ⟨TB6, hTB6, N₇⟩ : ∃ TB6, TB6 = (DD, oDD) :: TB5 ∧ News g L' h₆ ((D.P, oP3) :: (D.OD, oOD2) :: (D.XD, oX2) :: (D.SD, oS) :: (L' + 1 + 1 + 1, oc4) :: TB6) := ⟨_, rfl, newsSub N₆ (List.forall_mem_cons.mpr ⟨.tail _ (.tail _ (.head _)), List.forall_mem_cons.mpr ⟨.tail _ (.tail _ (.tail _ (.head _))), List.forall_mem_cons.mpr ⟨.tail _ (.tail _ (.tail _ (.tail _ (.head _)))), List.forall_mem_cons.mpr ⟨.tail _ (.tail _ (.tail _ (.tail _ (.tail _ (.head _))))), List.forall_mem_cons.mpr ⟨.tail _ (.tail _ (.tail _ (.tail _ (.tail _ (.tail _ (.head _)))))), List.forall_mem_cons.mpr ⟨.head _, fun q hq => .tail _ (.tail _ (.tail _ (.tail _ (.tail _ (.tail _ (.tail _ (List.mem_append_right _ hq)))))))⟩⟩⟩⟩⟩⟩)⟩
            have fDD : Far D.P D.OD D.XD D.SD (L' + 1 + 1 + 1) DD := far_lt (oa := oP3) (ob := oOD2) (oc := oX2) (od := oS) (oe := oc4) (T := pairsN pq ++ TB5) (fun q hq => l₆ q (.tail _ hq))
            have bq5 : ∀ q ∈ qz w D.os, q ∈ TB5 := fun q hq => bT5 q (.tail _ (.tail _ (.tail _ (.tail _ (.tail _ (.tail _ (List.mem_append_right _ (List.mem_append_right _ (List.mem_append_left _ hq)))))))))
            have nqz : ∀ q ∈ qz w D.os, @Ne Nat q.1 DD := fun q hq => Nat.ne_of_lt (l₆ q (.tail _ (.tail _ (.tail _ (.tail _ (.tail _ (.tail _ (List.mem_append_right _ (bq5 q hq)))))))))
            have farB6 : ∀ q ∈ TB6, Far D.P D.OD D.XD D.SD (L' + 1 + 1 + 1) q.1 := hTB6 ▸ List.forall_mem_cons.mpr ⟨fDD, farB5⟩
            have bDD : (DD, oDD) ∈ TB6 := hTB6 ▸ .head _
            have b6 : ∀ q ∈ TB5, q ∈ TB6 := fun q hq => hTB6 ▸ .tail _ hq
            have bNU6 := b6 _ bNU5
            have bTP6 := b6 _ bTP
            have bO6 := b6 _ bO5
            have bT6 := fun q hq => b6 q (bT5 q hq)
            have bpz : ∀ q ∈ pz D.os, q ∈ TB6 := fun q hq => bT6 q (.tail _ (.tail _ (.tail _ (.tail _ (.tail _ (.tail _ (List.mem_append_right _ (List.mem_append_left _ hq))))))))
            have bqz : ∀ q ∈ qz w D.os, q ∈ TB6 := fun q hq => b6 q (bq5 q hq)
            have hI3 : IntsAre vs2 (ps2.map fun o => o.n) := hpn ▸ hI2
            clear F₅ N₅ N₆ l₆ hTB6 farB5 b6 bq5 bNU5 bTP bO5 bT5 bOO5 bSM5 bX5 hpq hpl
            refine let_on (n := 5) N₇ (sep5 five farB6) ?_
            clear N₇
            intro l6 N6 S6
            k_steps
            rename News g L' _ _ => N₇
            rename Fr g L' _ _ => F₇
            rename Obj.IsDictOf (strKind prog w) _ _ => od3
            rename Obj => oOD3
            refine Halt.mk (comp_U (h₀ := g) (L := L') (m := m5) (cl := []) (x := Str.ofString "packet") rfl (by decide) rfl (by decide) rfl ?_)
            k_steps
            rename News g L' _ _ => N₈
            rename Fr g L' _ _ => F₈
            have N₉ := newsSub (news' := (D.P, oP3) :: (D.OD, oOD3) :: (D.XD, oX2) :: (D.SD, oS) :: (L' + 1 + 1 + 1, oc4) :: TB6) N₈ (by k_sub)
            refine Halt.mk (compU_list rfl F₈ N₉ (.inr ⟨_, .tail _ (.tail _ (.tail _ (.tail _ (.tail _ bTP6)))), rfl, _, rfl⟩) (by
              have h9 : (ps2.map fun o => o.n).length = m3.length := congrArg List.length hpn
              rw [List.length_map] at h9
              rw [List.size_toArray, List.length_map, sizeLine_eq]
              omega) ?_)
            clear F₈ N₈ N₉
            intro s₂ hs₂
            obtain ⟨g6, rfl⟩ := hs₂
            refine invU (fun i zs nw => nw = (D.P, oP3) :: (D.OD, oOD3) :: (D.XD, oX2) :: (D.SD, oS) :: (L' + 1 + 1 + 1, oc4) :: TB6 ∧ IntsAre zs ((ps2.take i).map fun o => o.n)) ⟨rfl, .nil⟩ ?turn ?done
            case turn =>
              intro i zs nw v I oI C oC DL m₂ h tk E' hi hJ hv hC hx F₅ N₅ off ne
              obtain ⟨rfl, hzs⟩ := hJ
              have hv' : (ps2.map fun o => Value.ref o.pa)[i]? = some v := by simpa using hv
              rw [List.getElem?_map] at hv'
              obtain ⟨o, ho, rfl⟩ := Option.map_eq_some_iff.mp hv'
              have hom := hpo o (List.mem_of_getElem? ho)
              have hpz := bpz _ (pz_mem hom)
              have hqz := bqz _ (qz_mem (w := w) hom)
              refine let_on (n := 0) N₅ Sep.zero ?_
              clear N₅ fin hv hv'
              intro l6 N6 S6
              k_unmd
              k_fold
              k_steps
              refine ⟨LCg.CompEnd.intro (by assumption) (by assumption) ((D.P, oP3) :: (D.OD, oOD3) :: (D.XD, oX2) :: (D.SD, oS) :: (L' + 1 + 1 + 1, oc4) :: TB6) (fun q hq => hq) off (.inr ⟨_, .tail _ (.tail _ (.tail _ (.tail _ (.tail _ bTP6)))), rfl, _, rfl⟩) ⟨rfl, ?_⟩⟩
              rw [take_one ho, List.map_append]
              exact hzs.append (.cons _ _ .nil)
            case done =>
              intro zs nw hJ
              obtain ⟨rfl, hzs⟩ := hJ
              intro ZL h' tk' F₅ N₅ o1
              rw [List.size_toArray, List.length_map, List.take_length] at hzs
              clear o1
              k_unmd
              try k_fold
              k_steps
              refine Halt.mk (ints_ne N₅ (.head _) (.tail _ (.tail _ (.tail _ (.tail _ (.tail _ (.tail _ bNU6)))))) hzs hI3 (by exact Nat.le_of_ble_eq_true rfl) ?_)
              subst hoX2
              have hle : maxO D.top zhi ≤ (k : Int) + 2 := maxO_le (fun t h => by have := hid.out.tp t h; omega) (by have := (hjb zhi ht).2; have := hid.out.nxk; omega)
              exact fin (D.told oP3 oOD3 oS oDD DD vLA2 vT2 (some (maxO D.top zhi)) (lessO D.os js)) _ _ _ _ (hid.out.told hP3 od3 hdS hd₆ hLA2 hvT2 hle lo₆ (Ne.symm fDD.c) (Ne.symm fDD.b) (Ne.symm fDD.d) nqz) rfl rfl rfl F₅ N₅
                (told_in (.tail _ (.head _)) (.tail _ (.tail _ (.head _))) (.tail _ (.tail _ (.tail _ (.head _)))) (.tail _ (.tail _ (.tail _ (.tail _ (.head _))))) (.tail _ (.tail _ (.tail _ (.tail _ (.tail _ (.tail _ bDD)))))) (fun q hq => .tail _ (.tail _ (.tail _ (.tail _ (.tail _ (.tail _ (bT6 q hq))))))))
end

-- needs: led0 alike forget rows small
noncomputable def partsOf : Stmt → Option (List Stmt × Scope)
  | .FunctionDef _ _ b _ _ _ sc _ _ _ => some (b, sc)
  | _ => none
section
variable {prog : Program} {w : World} {A : Around} {E : Value → Shared → Prop} {s : Shared} {h₀ : Heap} {L : Addr} {m mg mb : Str → Option Value}
  {p : Program} {loose : List Str} {mean : ExcName → Option Value} {Q : Flow → Shared → Prop}
theorem words_lend_1 : True := by
  k_with_none
  k_with "k_enter" => (refine' code_defM ?k1ₓ ?k2ₓ ?k3ₓ ?k5ₓ ?k6ₓ ?k7ₓ ?k8ₓ ?k9ₓ ?kBₓ ?_ ?c2ₓ ?c3ₓ ?c4ₓ ?c5ₓ; (case k1ₓ => k_asm); (case k2ₓ => k_asm); (case k3ₓ => k_asm); (case k5ₓ => k_asm); (case k6ₓ => k_is); (case k7ₓ => k_is); (case k8ₓ => exact Nat.le_of_ble_eq_true rfl); (case k9ₓ => exact rfl); (case c5ₓ => decide); (case kBₓ => exact locs rfl); (case c2ₓ => exact rfl); (case c3ₓ => exact rfl); (case c4ₓ => exact rfl); k_whole; intro g'ₓ L'ₓ h'ₓ FG'ₓ F'ₓ N'ₓ X'ₓ T'ₓ; (try dsimp only [List.map, List.zip, List.zipWith] at F'ₓ); (try dsimp only); (try k_fold))
  k_with "k_mem" => first | with_reducible assumption | with_reducible exact List.mem_cons_self | (with_reducible apply List.mem_cons_of_mem; k_mem)
  k_with "k_all" => first | assumption | exact allLt_off (by assumption)
  k_with "size_fits" => first | assumption | (simp only [Array.size_push, List.size_toArray, List.length_append, List.length_cons, List.length_nil, vz_length, PySem.sizeLine_eq]; omega)
  k_with "binaryOp Add ref ref" => (k_here; (with_reducible show wpAny _ _ (binaryOp _ (Value.ref _) (Value.ref _)) _ _ _); k_dflt (refine' addL ?Fₓ ?Nₓ ?aₓ ?bₓ ?zₓ ?_; (case Fₓ => k_asm); (case Nₓ => k_asm); (case aₓ => k_mem); (case bₓ => k_mem); (case zₓ => (simp only [List.length_cons, List.length_nil, vz_length, sizeLine_eq]; omega))); intro D'ₓ h'ₓ F'ₓ N'ₓ l1ₓ; (try k_lt l1ₓ); (try k_sweep))
  k_with "k_sub" => ((try simp only [List.cons_append, List.nil_append]); (repeat ((with_reducible refine List.forall_mem_cons.mpr ⟨?_, ?_⟩); (next => (first | ((repeat (first | with_reducible exact List.mem_cons_self | with_reducible apply List.mem_cons_of_mem)); done) | (repeat (first | exact List.mem_cons_self | apply List.mem_cons_of_mem)))))); intro qₓ hqₓ; first | with_reducible exact absurd hqₓ List.not_mem_nil | (repeat (first | with_reducible exact hqₓ | with_reducible exact List.mem_append_left _ hqₓ | with_reducible exact List.mem_append_right _ hqₓ | with_reducible apply List.mem_cons_of_mem)))
  k_with "SrcLP" => (k_here; k_dflt (refine LCp.SrcLP.ledger (by rfl) (by k_asm) (by k_asm) (by k_mem) (by size_fits) ?_); intro g'ₓ; refine Halt.out ?_)
  k_with "CompSrc" => (k_here; k_dflt (refine LCg.CompSrc.ledger (by rfl) (by k_asm) (by k_asm) (by k_mem) (by size_fits) ?_); intro g'ₓ; refine Halt.out ?_)
  k_with "CompSrcT" => (k_here; k_dflt (refine LCt.CompSrcT.ledger (by rfl) (by k_asm) (by k_asm) (by k_mem) (by size_fits) ?_); intro g'ₓ; refine Halt.out ?_)
  k_with "CompEnd" => (refine Halt.out ?_)
  k_with "lsm_bools" => assumption
  k_with "eval Name" => (k_here; k_dflt (refine' nameX_L ?Fₓ ?vₓ ?_ ?aₓ ?bₓ; (case Fₓ => k_asm); (case aₓ => rfl); (case bₓ => rfl); (case vₓ => first | exact rfl | assumption); k_whole))
  k_with "eval Name" => (k_here; (with_reducible show wpAny _ _ (eval (Expr.Name _ _) (envOf _ _ _ _ _)) _ _ _); k_dflt (refine' ld ?k1ₓ ?k2ₓ ?_; (case k1ₓ => k_asm); (case k2ₓ => first | exact rfl | assumption); k_whole))
  k_with "k_ne" => (first | assumption | (apply Ne.symm; assumption) | exact Nat.ne_of_lt (by assumption) | exact Nat.ne_of_gt (by assumption))
  k_with "call builtin:len" => (k_here; (with_reducible show wpAny _ _ (call (Value.builtin "len") [Value.ref _]) _ _ _); k_dflt (refine' lenL ?Nₓ ?aₓ ?zₓ ?_; (case Nₓ => k_asm); (case aₓ => k_mem); (case zₓ => (simp only [vz_length]; omega))); (try simp only [vz_length]))
  k_with "setItem ref int" => (k_here; k_dflt (refine' kda_set (knd := PySem.intKind _ _) ?Fₓ ?Nₓ ?Uₓ ?dₓ (intKind_is _ _ _ _) ?zₓ ?_; (case Fₓ => k_asm); (case Nₓ => k_asm); (case Uₓ => k_updF); (case dₓ => assumption); (case zₓ => assumption)); intro h'ₓ o'ₓ F'ₓ N'ₓ hd'ₓ; (try k_sweep))
  k_with "call ref" => (k_here; (with_reducible show wpAny _ _ (call (Value.ref 238) _) _ _ _); k_dflt (refine' to_AL rfl ?dₓ ?uₓ (draw_at ?Fₓ ?Nₓ ?Xₓ ?Tₓ ?Uₓ ?oₓ ?hPₓ ?hSₓ ?hiₓ ?hlₓ ?psₓ ?hmₓ ?_); (case dₓ => exact Nat.le_of_ble_eq_true rfl); (case uₓ => exact Nat.le_of_ble_eq_true rfl); (case Fₓ => k_asm); (case Nₓ => k_asm); (case Xₓ => k_asm); (case Tₓ => k_asm); (case Uₓ => k_updF); (case oₓ => assumption); (case hPₓ => k_mem); (case hSₓ => k_mem); (case hiₓ => assumption); (case hlₓ => assumption); (case psₓ => k_ne); (case hmₓ => first | decide | assumption)); intro v'ₓ t'ₓ o'ₓ h'ₓ tk'ₓ hv0'ₓ hv1'ₓ oP'ₓ F'ₓ N'ₓ; (try dsimp only at N'ₓ); (try k_sweep))
  k_with "call ref" => (k_here; (with_reducible show wpAny _ _ (call (Value.ref 53) _) _ _ _); k_dflt (refine' to_AL rfl ?dₓ ?uₓ (add_at ?Fₓ ?Nₓ ?Xₓ ?Tₓ ?hLₓ ?hzₓ ?hlenₓ ?_); (case dₓ => exact Nat.le_of_ble_eq_true rfl); (case uₓ => exact Nat.le_of_ble_eq_true rfl); (case Fₓ => k_asm); (case Nₓ => k_asm); (case Xₓ => k_asm); (case Tₓ => k_asm); (case hLₓ => k_mem); (case hzₓ => k_sub); (case hlenₓ => first | assumption | omega)); intro RL' z' rs' k' h' tk' F' N' n1' n2' n3' er' es' el'; (repeat (replace n1' := List.forall_mem_cons.mp n1'; (have hn' := And.left n1'); replace n1' := And.right n1'; try dsimp only at hn')); (repeat (replace n2' := List.forall_mem_cons.mp n2'; (have hn' := And.left n2'); replace n2' := And.right n2'; try dsimp only at hn')); (try dsimp only at n3'); (try k_sweep))
  k_with "call ref" => (k_here; (with_reducible show wpAny _ _ (call (Value.ref 58) _) _ _ _); k_dflt (refine' to_AL rfl ?dₓ ?uₓ (has_at ?Fₓ ?Nₓ ?Xₓ ?Tₓ ?hLₓ ?hzₓ ?hlenₓ ?_); (case dₓ => exact Nat.le_of_ble_eq_true rfl); (case uₓ => exact Nat.le_of_ble_eq_true rfl); (case Fₓ => k_asm); (case Nₓ => k_asm); (case Xₓ => k_asm); (case Tₓ => k_asm); (case hLₓ => k_mem); (case hzₓ => k_sub); (case hlenₓ => first | assumption | omega)); intro h'ₓ tk'ₓ F'ₓ N'ₓ; (try k_sweep))
  k_with "call ref" => (k_here; (with_reducible show wpAny _ _ (call (Value.ref 41) _) _ _ _); k_dflt (refine' to_AL rfl ?dₓ ?uₓ (anyel_at ?Fₓ ?Nₓ ?Xₓ ?Tₓ ?hLₓ ?hzₓ ?oₓ ?hlₓ ?_); (case dₓ => exact Nat.le_of_ble_eq_true rfl); (case uₓ => exact Nat.le_of_ble_eq_true rfl); (case Fₓ => k_asm); (case Nₓ => k_asm); (case Xₓ => k_asm); (case Tₓ => k_asm); (case hLₓ => k_mem); (case hzₓ => (intro qₓ hqₓ; first | (refine mem_in ((‹∀ qₓ ∈ tf _, qₓ ∈ _›) qₓ hqₓ) ?_; first | exact ⟨1, rfl⟩ | exact ⟨2, rfl⟩ | exact ⟨3, rfl⟩ | exact ⟨4, rfl⟩ | exact ⟨5, rfl⟩ | exact ⟨6, rfl⟩ | exact ⟨7, rfl⟩ | exact ⟨8, rfl⟩ | exact ⟨9, rfl⟩ | exact ⟨10, rfl⟩ | exact ⟨11, rfl⟩ | exact ⟨12, rfl⟩ | exact ⟨13, rfl⟩ | exact ⟨14, rfl⟩ | exact ⟨15, rfl⟩) | (repeat (first | with_reducible exact (‹∀ qₓ ∈ tf _, qₓ ∈ _›) qₓ hqₓ | with_reducible apply List.mem_cons_of_mem)))); (case oₓ => assumption); (case hlₓ => assumption)); intro h'ₓ tk'ₓ F'ₓ N'ₓ; (try k_sweep))
  k_with "call ref" => (k_here; (with_reducible show wpAny _ _ (call (Value.ref 46) _) _ _ _); k_dflt (refine' to_AL rfl ?dₓ ?uₓ (anyfl_at ?Fₓ ?Nₓ ?Xₓ ?Tₓ ?hLₓ ?hzₓ ?oₓ ?hlₓ ?_); (case dₓ => exact Nat.le_of_ble_eq_true rfl); (case uₓ => exact Nat.le_of_ble_eq_true rfl); (case Fₓ => k_asm); (case Nₓ => k_asm); (case Xₓ => k_asm); (case Tₓ => k_asm); (case hLₓ => k_mem); (case hzₓ => (intro qₓ hqₓ; first | (refine mem_in ((‹∀ qₓ ∈ tf _, qₓ ∈ _›) qₓ hqₓ) ?_; first | exact ⟨1, rfl⟩ | exact ⟨2, rfl⟩ | exact ⟨3, rfl⟩ | exact ⟨4, rfl⟩ | exact ⟨5, rfl⟩ | exact ⟨6, rfl⟩ | exact ⟨7, rfl⟩ | exact ⟨8, rfl⟩ | exact ⟨9, rfl⟩ | exact ⟨10, rfl⟩ | exact ⟨11, rfl⟩ | exact ⟨12, rfl⟩ | exact ⟨13, rfl⟩ | exact ⟨14, rfl⟩ | exact ⟨15, rfl⟩) | (repeat (first | with_reducible exact (‹∀ qₓ ∈ tf _, qₓ ∈ _›) qₓ hqₓ | with_reducible apply List.mem_cons_of_mem)))); (case oₓ => assumption); (case hlₓ => assumption)); intro h'ₓ tk'ₓ F'ₓ N'ₓ; (try k_sweep))
  k_with "call ref" => (k_here; (with_reducible show wpAny _ _ (call (Value.ref 203) _) _ _ _); k_dflt (refine' to_AL rfl ?dₓ ?uₓ (octs_at ?Fₓ ?Nₓ ?Xₓ ?Tₓ ?h1ₓ ?h2ₓ ?h3ₓ ?h4ₓ ?h5ₓ ?h6ₓ ?h7ₓ ?h8ₓ ?_); (case dₓ => exact Nat.le_of_ble_eq_true rfl); (case uₓ => exact Nat.le_of_ble_eq_true rfl); (case Fₓ => k_asm); (case Nₓ => k_asm); (case Xₓ => k_asm); (case Tₓ => k_asm); (case h1ₓ => k_mem); (case h2ₓ => k_mem); (case h3ₓ => k_mem); (case h4ₓ => assumption); (case h5ₓ => assumption); (case h6ₓ => first | assumption | exact fun q hq => .tail _ ((‹∀ q ∈ pz _, q ∈ _›) q hq) | exact fun q hq => .tail _ (.tail _ ((‹∀ q ∈ pz _, q ∈ _›) q hq))); (case h7ₓ => first | assumption | exact fun q hq => .tail _ ((‹∀ q ∈ qz _ _, q ∈ _›) q hq) | exact fun q hq => .tail _ (.tail _ ((‹∀ q ∈ qz _ _, q ∈ _›) q hq))); (case h8ₓ => assumption)); intro h'ₓ tk'ₓ t'ₓ F'ₓ N'ₓ)
  k_with "call ref" => (k_here; (with_reducible show wpAny _ _ (call (Value.ref 198) _) _ _ _); k_dflt (refine' to_AL rfl ?dₓ ?uₓ (elic_at ?Fₓ ?Nₓ ?Xₓ ?Tₓ ?h1ₓ ?h2ₓ ?h3ₓ ?h4ₓ ?h5ₓ ?h6ₓ ?h7ₓ ?h8ₓ ?_); (case dₓ => exact Nat.le_of_ble_eq_true rfl); (case uₓ => exact Nat.le_of_ble_eq_true rfl); (case Fₓ => k_asm); (case Nₓ => k_asm); (case Xₓ => k_asm); (case Tₓ => k_asm); (case h1ₓ => k_mem); (case h2ₓ => k_mem); (case h3ₓ => k_mem); (case h4ₓ => assumption); (case h5ₓ => assumption); (case h6ₓ => first | assumption | exact fun q hq => .tail _ ((‹∀ q ∈ pz _, q ∈ _›) q hq) | exact fun q hq => .tail _ (.tail _ ((‹∀ q ∈ pz _, q ∈ _›) q hq))); (case h7ₓ => first | assumption | exact fun q hq => .tail _ ((‹∀ q ∈ qz _ _, q ∈ _›) q hq) | exact fun q hq => .tail _ (.tail _ ((‹∀ q ∈ qz _ _, q ∈ _›) q hq))); (case h8ₓ => assumption)); intro h'ₓ tk'ₓ F'ₓ N'ₓ)
  k_with "call ref" => (k_here; (with_reducible show wpAny _ _ (call (Value.ref 210) _) _ _ _); k_dflt (refine' to_AL rfl ?dₓ ?uₓ (rows_at ?Fₓ ?Nₓ ?Xₓ ?Tₓ ?h1ₓ ?h2ₓ ?h3ₓ ?h4ₓ ?h5ₓ ?h6ₓ ?h7ₓ ?h8ₓ ?_); (case dₓ => exact Nat.le_of_ble_eq_true rfl); (case uₓ => exact Nat.le_of_ble_eq_true rfl); (case Fₓ => k_asm); (case Nₓ => k_asm); (case Xₓ => k_asm); (case Tₓ => k_asm); (case h1ₓ => k_mem); (case h2ₓ => k_mem); (case h3ₓ => k_mem); (case h4ₓ => assumption); (case h5ₓ => assumption); (case h6ₓ => first | assumption | exact fun q hq => .tail _ ((‹∀ q ∈ pz _, q ∈ _›) q hq) | exact fun q hq => .tail _ (.tail _ ((‹∀ q ∈ pz _, q ∈ _›) q hq))); (case h7ₓ => first | assumption | exact fun q hq => .tail _ ((‹∀ q ∈ qz _ _, q ∈ _›) q hq) | exact fun q hq => .tail _ (.tail _ ((‹∀ q ∈ qz _ _, q ∈ _›) q hq))); (case h8ₓ => assumption)); intro FD'ₓ oFD'ₓ fs'ₓ h'ₓ tk'ₓ hFD'ₓ lFD'ₓ eFD'ₓ F'ₓ N'ₓ; have N2'ₓ := newsSub N'ₓ rows_sub2)
  k_with "k_lt_off" => skip
  k_with "k_ne" => (first | assumption | (apply Ne.symm; assumption))
  k_with "k_mem" => (first | with_reducible assumption | exact mem_at 0 rfl | exact mem_at 1 rfl | exact mem_at 2 rfl | exact mem_at 3 rfl | exact mem_at 4 rfl | exact mem_at 5 rfl | exact mem_at 6 rfl | exact mem_at 7 rfl | exact mem_at 8 rfl | exact mem_at 9 rfl | exact mem_at 10 rfl | exact mem_at 11 rfl | exact mem_at 12 rfl | exact mem_at 13 rfl | exact mem_at 14 rfl | (refine mem_in (by with_reducible assumption) ?_; first | exact ⟨1, rfl⟩ | exact ⟨2, rfl⟩ | exact ⟨3, rfl⟩ | exact ⟨4, rfl⟩ | exact ⟨5, rfl⟩ | exact ⟨6, rfl⟩ | exact ⟨7, rfl⟩ | exact ⟨8, rfl⟩ | exact ⟨9, rfl⟩ | exact ⟨10, rfl⟩ | exact ⟨11, rfl⟩ | exact ⟨12, rfl⟩ | exact ⟨13, rfl⟩ | exact ⟨14, rfl⟩ | exact ⟨15, rfl⟩))
  k_with "k_updF" => (first | exact updF_at 0 (by assumption) rfl rfl | exact updF_at 1 (by assumption) rfl rfl | exact updF_at 2 (by assumption) rfl rfl | exact updF_at 3 (by assumption) rfl rfl | exact updF_at 4 (by assumption) rfl rfl | exact updF_at 5 (by assumption) rfl rfl | exact updF_at 6 (by assumption) rfl rfl | exact updF_at 7 (by assumption) rfl rfl | exact updF_at 8 (by assumption) rfl rfl | exact updF_at 9 (by assumption) rfl rfl | exact updF_at 10 (by assumption) rfl rfl | exact updF_at 11 (by assumption) rfl rfl | exact updF_at 12 (by assumption) rfl rfl)
  k_with "k_upd" => (first | exact upd_at 0 (by assumption) rfl rfl | exact upd_at 1 (by assumption) rfl rfl | exact upd_at 2 (by assumption) rfl rfl | exact upd_at 3 (by assumption) rfl rfl | exact upd_at 4 (by assumption) rfl rfl | exact upd_at 5 (by assumption) rfl rfl | exact upd_at 6 (by assumption) rfl rfl | exact upd_at 7 (by assumption) rfl rfl | exact upd_at 8 (by assumption) rfl rfl | exact upd_at 9 (by assumption) rfl rfl | exact upd_at 10 (by assumption) rfl rfl | exact upd_at 11 (by assumption) rfl rfl | exact upd_at 12 (by assumption) rfl rfl)
  k_with "k_sweep" => (rename News _ _ _ _ => N9ₓ; first | (have hS9ₓ := sep_have N9ₓ (by with_reducible assumption); clear hS9ₓ) | (refine let_new2 N9ₓ (by assumption) (by assumption) (by assumption) ?_; clear N9ₓ; intro l9ₓ N9ₓ S9ₓ) | (refine let_new N9ₓ (by assumption) (by assumption) ?_; clear N9ₓ; intro l9ₓ N9ₓ S9ₓ) | (refine let_set N9ₓ (by assumption) rfl ?_; clear N9ₓ; intro l9ₓ N9ₓ S9ₓ))
  k_with "k_sub" => ((repeat ((with_reducible refine List.forall_mem_cons.mpr ⟨?_, ?_⟩); (next => k_mem))); intro qₓ hqₓ; first | with_reducible exact absurd hqₓ List.not_mem_nil | with_reducible exact hqₓ | exact mem_off 1 rfl hqₓ | exact mem_off 2 rfl hqₓ | exact mem_off 3 rfl hqₓ | exact mem_off 4 rfl hqₓ | exact mem_off 5 rfl hqₓ | exact mem_off 6 rfl hqₓ | exact mem_off 7 rfl hqₓ | exact mem_off 8 rfl hqₓ | exact mem_off 9 rfl hqₓ | exact mem_off 10 rfl hqₓ | exact mem_off 11 rfl hqₓ | exact mem_off 12 rfl hqₓ | exact mem_off 13 rfl hqₓ | exact mem_off 14 rfl hqₓ | exact mem_off 15 rfl hqₓ)
  k_with "subscriptTail Name" => (k_here; (with_reducible show wpAny _ _ (subscriptTail _ _ (Value.ref _) (Value.str _ _)) _ _ _); k_dflt (refine' kda_item (knd := PySem.strKind _ _) ?Nₓ ?pₓ ?dₓ (strKind_is _ _ _ _) ?lₓ ?_; (case Nₓ => k_asm); (case pₓ => k_mem); (case dₓ => assumption); (case lₓ => rfl)); (try dsimp only))
  k_with "subscriptTail" => (k_here; (with_reducible show wpAny _ _ (subscriptTail _ _ (Value.ref _) (Value.str _ _)) _ _ _); k_dflt (refine' kda_item (knd := PySem.strKind _ _) ?Nₓ ?pₓ ?dₓ (strKind_is _ _ _ _) ?lₓ ?_; (case Nₓ => k_asm); (case pₓ => k_mem); (case dₓ => assumption); (case lₓ => rfl)); (try dsimp only))
  k_with "getMethod ref" => (k_here; (with_reducible show wpAny _ _ (getMethod (Value.ref _) (Str.ofString "values") _) _ _ _); k_dflt (refine' kdl_method (knd := PySem.intKind _ _) PySem.F.slot_dict_values PySem.F.type_dict_values ?Nₓ ?pₓ ?dₓ ?_; (case Nₓ => k_asm); (case pₓ => k_mem); (case dₓ => assumption)))
  k_with "call builtin:dict.values" => (k_here; k_dflt (refine' kdl_view_values (knd := PySem.intKind _ _) ?Fₓ ?Nₓ ?pₓ ?dₓ ?lₓ ?_; (case Fₓ => k_asm); (case Nₓ => k_asm); (case pₓ => k_mem); (case dₓ => assumption); (case lₓ => assumption)); intro D'ₓ h'ₓ F'ₓ N'ₓ l1ₓ)
  k_with "call builtin:sum" => (k_here; k_dflt (refine' LCg.sum_ints ?Fₓ ?Nₓ rfl ?lₓ ?iₓ ?_; (case Fₓ => k_asm); (case Nₓ => k_asm); (case lₓ => exact ⟨_, ((by k_asm : News _ _ _ _) _ (.head _)).1, rfl, _, rfl⟩); (case iₓ => assumption)); intro h'ₓ tk'ₓ t'ₓ F'ₓ N'ₓ)
  k_with "eval ListComp" => (refine Halt.out ?_)
  k_with "pyIter_ref" => (refine Halt.out ?_)
  k_with "compareOp Eq ref ref" => (refine Halt.out ?_)
  k_with "call ref" => ((have hst'ₓ : Halt True := by assumption); clear hst'ₓ; refine Halt.out ?_)
  trivial
theorem maxO_eq {o : Option Int} {n : Int} (h : ∀ t, o = some t → t ≤ n) : maxO o n = n := by
  cases o with
  | none => rfl
  | some t =>
    have := h t rfl
    unfold maxO
    dsimp only
    split <;> omega
theorem law_end {b : List Stmt} {sc : Scope} {fa : Addr} {cd : Value} {D : Led} {k : Nat} (hb : partsOf (topFn 29) = some (b, sc))
    (F : Fr h₀ L s.heap m) (N : News h₀ L s.heap (D.fst w ++ (D.snd w ++ []))) (X₀ : (heap w.params).In h₀) (T : Top p loose mean mg mb h₀) (O : D.Ok prog w k) (hk : k ≤ 30)
    (u1 : m (Str.ofString "pool") = some (.ref D.P)) (u4 : m (Str.ofString "space") = some (.ref D.X)) (u5 : m (Str.ofString "own") = some (.ref D.OD))
    (h : ∀ h' tk' m', Fr h₀ L h' m' → Q (.ret (.bool true)) { s with heap := h', toks := tk' }) :
    wpAny (model prog w) ((AL 320).deeper (envOf (Str.ofString "law") sc L fa cd)) (execs (b.drop 6) (envOf (Str.ofString "law") sc L fa cd)) Q (fun _ _ => False) s := by
  delta topFn PySem.Challenge.pw_nz0346_01 at hb
  simp only [partsOf, nthS, Option.some.injEq, Prod.mk.injEq] at hb
  obtain ⟨rfl, rfl⟩ := hb
  simp only [List.drop]
  have X' := X₀
  have T' := T
  have N₂ : News h₀ L s.heap (D.ex w ++ D.tl w []) := newsSub N (led_to D)
  have ds := O.dis2 N₂ (fun _ h => absurd h List.not_mem_nil)
  obtain ⟨TT, hTT⟩ : ∃ TT, TT = (D.P, D.oP) :: (D.OD, D.oOD) :: (D.SD, D.oSD) :: (D.OO, D.oOO) :: D.tl w [] := ⟨_, rfl⟩
  have N₃ : News h₀ L s.heap ((D.XD, D.xd w) :: TT) := newsSub N₂ (by
    rw [hTT]
    exact List.forall_mem_cons.mpr ⟨.tail _ (.tail _ (.head _)), List.forall_mem_cons.mpr ⟨.head _, List.forall_mem_cons.mpr ⟨.tail _ (.head _), List.forall_mem_cons.mpr ⟨.tail _ (.tail _ (.tail _ (.head _))), List.forall_mem_cons.mpr ⟨.tail _ (.tail _ (.tail _ (.tail _ (.head _)))), fun q hq => .tail _ (.tail _ (.tail _ (.tail _ (.tail _ hq))))⟩⟩⟩⟩⟩)
  have tX : ∀ q ∈ TT, @Ne Nat q.1 D.XD := hTT ▸ List.forall_mem_cons.mpr ⟨ds.a2, List.forall_mem_cons.mpr ⟨ds.b1, List.forall_mem_cons.mpr ⟨Ne.symm ds.c1, List.forall_mem_cons.mpr ⟨Ne.symm ds.c2, ds.tXD⟩⟩⟩⟩
  have bOD : (D.OD, D.oOD) ∈ TT := hTT ▸ .tail _ (.head _)
  have bSD : (D.SD, D.oSD) ∈ TT := hTT ▸ .tail _ (.tail _ (.head _))
  have bOO : (D.OO, D.oOO) ∈ TT := hTT ▸ .tail _ (.tail _ (.tail _ (.head _)))
  have btl : ∀ q ∈ D.tl w [], q ∈ TT := fun q hq => hTT ▸ .tail _ (.tail _ (.tail _ (.tail _ hq)))
  have bX : (D.X, instObj 220 D.XD) ∈ TT := btl _ (.tail _ (.head _))
  have bpz : ∀ q ∈ pz D.os, q ∈ TT := fun q hq => btl q (.tail _ (.tail _ (.tail _ (.tail _ (.tail _ (.tail _ (List.mem_append_right _ (List.mem_append_left _ hq))))))))
  have bqz : ∀ q ∈ qz w D.os, q ∈ TT := fun q hq => btl q (.tail _ (.tail _ (.tail _ (.tail _ (.tail _ (.tail _ (List.mem_append_right _ (List.mem_append_right _ (List.mem_append_left _ hq)))))))))
  have bwz : ∀ q ∈ wz D.os, q ∈ TT := fun q hq => btl q (.tail _ (.tail _ (.tail _ (.tail _ (.tail _ (.tail _ (List.mem_append_right _ (List.mem_append_right _ (List.mem_append_right _ (List.mem_append_left _ hq))))))))))
  clear X₀ T N N₂ ds hTT btl u1
  refine let_on (n := 1) N₃ (Sep.cons tX Sep.zero) ?_
  clear N₃
  intro l9 N9 S9
  have stt : Halt True := ⟨trivial⟩
  k_steps
  rename News h₀ L _ _ => N₄
  rename Fr h₀ L _ _ => F₄
  refine Halt.mk (to_AL rfl (Nat.le_of_ble_eq_true rfl) (Nat.le_of_ble_eq_true rfl) (largest_at F₄ N₄ X' T' (mem_in bX ⟨1, rfl⟩) (mem_at 0 rfl) (updF_at 0 S9 rfl rfl) (tX _ bX) O.xLA ?_))
  clear F₄ N₄
  intro vA h₁ tk₁ hA F₁ N₁
  rw [maxO_eq (fun t ht => by have := O.tp t ht; omega)] at hA
  obtain ⟨ta, rfl⟩ := hA
  refine let_on (n := 1) (show News h₀ L h₁ ((D.XD, xdO w D.kx (.str D.nm D.tnm) (.int D.nx D.tnx) (.ref D.SD) (.int 90 ta) D.vAK D.vLET D.vLT (.ref D.RL) D.vLS D.vLTm D.vFU (.int D.un D.tun) (.bool D.wn) D.vHN (.ref D.EC) D.vGone) :: TT) from N₁) (Sep.cons tX Sep.zero) ?_
  clear N₁ S9
  intro l9 N9 S9
  k_steps
  rename News h₀ L _ _ => N₄
  rename Fr h₀ L _ _ => F₄
  refine Halt.mk (to_AL rfl (Nat.le_of_ble_eq_true rfl) (Nat.le_of_ble_eq_true rfl) (largest_at (top := some 90) F₄ N₄ X' T' (mem_in bX ⟨1, rfl⟩) (mem_at 0 rfl) (updF_at 0 S9 rfl rfl) (tX _ bX) ⟨_, rfl⟩ ?_))
  clear F₄ N₄
  intro vA h₂ tk₂ hA F₂ N₂
  obtain ⟨tb, rfl⟩ : ∃ tb, vA = .int 90 tb := hA
  refine let_on (n := 1) (show News h₀ L h₂ ((D.XD, xdO w D.kx (.str D.nm D.tnm) (.int D.nx D.tnx) (.ref D.SD) (.int 90 tb) D.vAK D.vLET D.vLT (.ref D.RL) D.vLS D.vLTm D.vFU (.int D.un D.tun) (.bool D.wn) D.vHN (.ref D.EC) D.vGone) :: TT) from N₂) (Sep.cons tX Sep.zero) ?_
  clear N₂ S9
  intro l9 N9 S9
  have od := O.od
  have lod : (D.OD == sysModules) = false := O.lod
  have oo := O.oo
  have loo := O.loo
  k_steps
  have hol : D.os.length ≤ 30 := Nat.le_trans O.lo hk
  refine Halt.mk (comp_T (h₀ := h₀) (L := L) (m := m) (cl := []) (x := Str.ofString "row") rfl (by decide) rfl (by decide) rfl ?_)
  k_steps
  rename News h₀ L _ _ => N₄
  rename Fr h₀ L _ _ => F₄
  refine Halt.mk (compT_values rfl F₄ N₄ (mem_at 0 rfl) (mem_in bOO ⟨2, rfl⟩) oo (by rw [outK, List.length_map, sizeLine_eq]; omega) ?_)
  clear N₄
  intro s₂ hs₂
  obtain ⟨g', rfl⟩ := hs₂
  refine invT (fun i ys nw => nw = _ ∧ ys = ((D.os.take i).filter fun o => o.ct).map fun o => Value.int o.sz (o.k 10)) ⟨rfl, rfl⟩ ?turn ?done
  case turn =>
    intro i ys nw v I oI C oC DL m₂ h9 tk E' hi hJ hv hC hx F₃ N₃ off ne
    obtain ⟨rfl, rfl⟩ := hJ
    obtain ⟨key, hv⟩ := hv
    obtain ⟨o, ho, hov⟩ := Option.map_eq_some_iff.mp (by rw [outK, List.getElem?_map] at hv; exact hv)
    cases hov
    have hwo := bwz _ (wz_mem (List.mem_of_getElem? ho))
    clear h F₄ stt
    refine let_on (n := 0) N₃ Sep.zero ?_
    clear N₃
    intro l6 N6 S6
    k_unmd
    (try k_fold)
    k_steps
    · refine ⟨LCg.CompEnd.intro (by assumption) (by assumption) _ (fun _ h => h) off (.tail _ (.tail _ bOO)) ⟨rfl, ?_⟩⟩
      rw [← take_filter (f := fun o : OZ => o.ct) ho (by assumption), List.map_append]; rfl
    · refine ⟨LCg.CompEnd.intro (by assumption) (by assumption) _ (fun _ h => h) off (.tail _ (.tail _ bOO)) ⟨rfl, ?_⟩⟩
      rw [← take_filter0 (f := fun o : OZ => o.ct) ho (by assumption)]
  case done =>
    intro ys nw hJ
    obtain ⟨rfl, rfl⟩ := hJ
    rw [show (outK D.os).length = D.os.length by simp [outK], List.take_length]
    intro DL h' tk' F₃ N₃ o1
    have hI : IntsAre ((D.os.filter fun o => o.ct).map fun o => Value.int o.sz (o.k 10)) ((D.os.filter fun o => o.ct).map fun o => o.sz) := ints_map
    clear F₄ o1
    k_unmd
    (try k_fold)
    k_steps
    rename News h₀ L _ _ => N₄
    have N₅ : News h₀ L _ ((D.XD, xdO w D.kx (.str D.nm D.tnm) (.int D.nx D.tnx) (.ref D.SD) (.int 90 tb) D.vAK D.vLET D.vLT (.ref D.RL) D.vLS D.vLTm D.vFU (.int D.un D.tun) (.bool D.wn) D.vHN (.ref D.EC) D.vGone) :: TT) := newsSub N₄ (List.forall_mem_cons.mpr ⟨.tail _ (.tail _ (.head _)), fun q hq => .tail _ (.tail _ (.tail _ hq))⟩)
    rename Fr h₀ L _ _ => F₅
    refine Halt.mk (to_AL rfl (Nat.le_of_ble_eq_true rfl) (Nat.le_of_ble_eq_true rfl) (forget_at F₅ N₅ X' T' (.tail _ bX) (.head _) (.tail _ bSD) O.sd O.lsd (fun q hq => .tail _ (bpz q hq)) (fun q hq => .tail _ (bqz q hq)) (by omega) (UpdF.head tX) (tX _ bX) (tX _ bSD) (fun q hq => tX _ (bpz q hq)) (fun q hq => tX _ (bqz q hq)) ?_))
    clear F₅ N₅ N₄
    intro SD2 oSD2 vR2 vU2 vW2 vH2 vG2 vL2 vT2 h₃ tk₃ t₃ hS2 lo2 F₆ N₆
    k_steps
    · rename News h₀ L _ _ => N₇
      rename Fr h₀ L _ _ => F₇
      refine Halt.mk (to_AL rfl (Nat.le_of_ble_eq_true rfl) (Nat.le_of_ble_eq_true rfl) (rows_at (os := []) F₇ N₇ X' T' (.tail _ (.tail _ bX)) (.tail _ (.head _)) (.head _) hS2 lo2 (fun _ h => absurd h List.not_mem_nil) (fun _ h => absurd h List.not_mem_nil) (Nat.zero_le _) ?_))
      clear F₇ N₇
      intro FD oFD fs h₄ tk₄ hFD lFD eFD F₈ N₈
      obtain rfl : fs = [] := List.map_eq_nil_iff.mp eFD
      clear stt
      k_steps
      rename News h₀ L _ _ => N₉
      refine Halt.mk (keq_pairs (knd := PySem.intKind prog w) (ka := []) (kb := []) (r := true) N₉ (.tail _ (.head _)) (.head _) hFD (by assumption) lFD (by assumption) rfl (by exact Nat.le_of_ble_eq_true rfl) .nil ?_)
      k_steps
      exact h _ _ _ (by assumption)
    · exact absurd rfl (by assumption)
end

-- needs: lend led0
section
variable {prog : Program} {w : World} {A : Around} {E : Value → Shared → Prop} {s : Shared} {h₀ : Heap} {L : Addr} {m mg mb : Str → Option Value}
  {p : Program} {loose : List Str} {mean : ExcName → Option Value} {TL : List (Addr × Obj)}
theorem words_own_1 : True := by
  k_with_none
  k_with "k_enter" => (refine' code_defM ?k1ₓ ?k2ₓ ?k3ₓ ?k5ₓ ?k6ₓ ?k7ₓ ?k8ₓ ?k9ₓ ?kBₓ ?_ ?c2ₓ ?c3ₓ ?c4ₓ ?c5ₓ; (case k1ₓ => k_asm); (case k2ₓ => k_asm); (case k3ₓ => k_asm); (case k5ₓ => k_asm); (case k6ₓ => k_is); (case k7ₓ => k_is); (case k8ₓ => exact Nat.le_of_ble_eq_true rfl); (case k9ₓ => exact rfl); (case c5ₓ => decide); (case kBₓ => exact locs rfl); (case c2ₓ => exact rfl); (case c3ₓ => exact rfl); (case c4ₓ => exact rfl); k_whole; intro g'ₓ L'ₓ h'ₓ FG'ₓ F'ₓ N'ₓ X'ₓ T'ₓ; (try dsimp only [List.map, List.zip, List.zipWith] at F'ₓ); (try dsimp only); (try k_fold))
  k_with "k_mem" => first | with_reducible assumption | with_reducible exact List.mem_cons_self | (with_reducible apply List.mem_cons_of_mem; k_mem)
  k_with "k_all" => first | assumption | exact allLt_off (by assumption)
  k_with "size_fits" => first | assumption | (simp only [Array.size_push, List.size_toArray, List.length_append, List.length_cons, List.length_nil, vz_length, PySem.sizeLine_eq]; omega)
  k_with "binaryOp Add ref ref" => (k_here; (with_reducible show wpAny _ _ (binaryOp _ (Value.ref _) (Value.ref _)) _ _ _); k_dflt (refine' addL ?Fₓ ?Nₓ ?aₓ ?bₓ ?zₓ ?_; (case Fₓ => k_asm); (case Nₓ => k_asm); (case aₓ => k_mem); (case bₓ => k_mem); (case zₓ => (simp only [List.length_cons, List.length_nil, vz_length, sizeLine_eq]; omega))); intro D'ₓ h'ₓ F'ₓ N'ₓ l1ₓ; (try k_lt l1ₓ); (try k_sweep))
  k_with "k_sub" => ((try simp only [List.cons_append, List.nil_append]); (repeat ((with_reducible refine List.forall_mem_cons.mpr ⟨?_, ?_⟩); (next => (first | ((repeat (first | with_reducible exact List.mem_cons_self | with_reducible apply List.mem_cons_of_mem)); done) | (repeat (first | exact List.mem_cons_self | apply List.mem_cons_of_mem)))))); intro qₓ hqₓ; first | with_reducible exact absurd hqₓ List.not_mem_nil | (repeat (first | with_reducible exact hqₓ | with_reducible exact List.mem_append_left _ hqₓ | with_reducible exact List.mem_append_right _ hqₓ | with_reducible apply List.mem_cons_of_mem)))
  k_with "SrcLP" => (k_here; k_dflt (refine LCp.SrcLP.ledger (by rfl) (by k_asm) (by k_asm) (by k_mem) (by size_fits) ?_); intro g'ₓ; refine Halt.out ?_)
  k_with "CompSrc" => (k_here; k_dflt (refine LCg.CompSrc.ledger (by rfl) (by k_asm) (by k_asm) (by k_mem) (by size_fits) ?_); intro g'ₓ; refine Halt.out ?_)
  k_with "CompSrcT" => (k_here; k_dflt (refine LCt.CompSrcT.ledger (by rfl) (by k_asm) (by k_asm) (by k_mem) (by size_fits) ?_); intro g'ₓ; refine Halt.out ?_)
  k_with "CompEnd" => (refine Halt.out ?_)
  k_with "lsm_bools" => assumption
  k_with "eval Name" => (k_here; k_dflt (refine' nameX_L ?Fₓ ?vₓ ?_ ?aₓ ?bₓ; (case Fₓ => k_asm); (case aₓ => rfl); (case bₓ => rfl); (case vₓ => first | exact rfl | assumption); k_whole))
  k_with "eval Name" => (k_here; (with_reducible show wpAny _ _ (eval (Expr.Name _ _) (envOf _ _ _ _ _)) _ _ _); k_dflt (refine' ld ?k1ₓ ?k2ₓ ?_; (case k1ₓ => k_asm); (case k2ₓ => first | exact rfl | assumption); k_whole))
  k_with "k_ne" => (first | assumption | (apply Ne.symm; assumption) | exact Nat.ne_of_lt (by assumption) | exact Nat.ne_of_gt (by assumption))
  k_with "call builtin:len" => (k_here; (with_reducible show wpAny _ _ (call (Value.builtin "len") [Value.ref _]) _ _ _); k_dflt (refine' lenL ?Nₓ ?aₓ ?zₓ ?_; (case Nₓ => k_asm); (case aₓ => k_mem); (case zₓ => (simp only [vz_length]; omega))); (try simp only [vz_length]))
  k_with "setItem ref int" => (k_here; k_dflt (refine' kda_set (knd := PySem.intKind _ _) ?Fₓ ?Nₓ ?Uₓ ?dₓ (intKind_is _ _ _ _) ?zₓ ?_; (case Fₓ => k_asm); (case Nₓ => k_asm); (case Uₓ => k_updF); (case dₓ => assumption); (case zₓ => assumption)); intro h'ₓ o'ₓ F'ₓ N'ₓ hd'ₓ; (try k_sweep))
  k_with "call ref" => (k_here; (with_reducible show wpAny _ _ (call (Value.ref 238) _) _ _ _); k_dflt (refine' to_AL rfl ?dₓ ?uₓ (draw_at ?Fₓ ?Nₓ ?Xₓ ?Tₓ ?Uₓ ?oₓ ?hPₓ ?hSₓ ?hiₓ ?hlₓ ?psₓ ?hmₓ ?_); (case dₓ => exact Nat.le_of_ble_eq_true rfl); (case uₓ => exact Nat.le_of_ble_eq_true rfl); (case Fₓ => k_asm); (case Nₓ => k_asm); (case Xₓ => k_asm); (case Tₓ => k_asm); (case Uₓ => k_updF); (case oₓ => assumption); (case hPₓ => k_mem); (case hSₓ => k_mem); (case hiₓ => assumption); (case hlₓ => assumption); (case psₓ => k_ne); (case hmₓ => first | decide | assumption)); intro v'ₓ t'ₓ o'ₓ h'ₓ tk'ₓ hv0'ₓ hv1'ₓ oP'ₓ F'ₓ N'ₓ; (try dsimp only at N'ₓ); (try k_sweep))
  k_with "call ref" => (k_here; (with_reducible show wpAny _ _ (call (Value.ref 53) _) _ _ _); k_dflt (refine' to_AL rfl ?dₓ ?uₓ (add_at ?Fₓ ?Nₓ ?Xₓ ?Tₓ ?hLₓ ?hzₓ ?hlenₓ ?_); (case dₓ => exact Nat.le_of_ble_eq_true rfl); (case uₓ => exact Nat.le_of_ble_eq_true rfl); (case Fₓ => k_asm); (case Nₓ => k_asm); (case Xₓ => k_asm); (case Tₓ => k_asm); (case hLₓ => k_mem); (case hzₓ => k_sub); (case hlenₓ => first | assumption | omega)); intro RL' z' rs' k' h' tk' F' N' n1' n2' n3' er' es' el'; (repeat (replace n1' := List.forall_mem_cons.mp n1'; (have hn' := And.left n1'); replace n1' := And.right n1'; try dsimp only at hn')); (repeat (replace n2' := List.forall_mem_cons.mp n2'; (have hn' := And.left n2'); replace n2' := And.right n2'; try dsimp only at hn')); (try dsimp only at n3'); (try k_sweep))
  k_with "call ref" => (k_here; (with_reducible show wpAny _ _ (call (Value.ref 58) _) _ _ _); k_dflt (refine' to_AL rfl ?dₓ ?uₓ (has_at ?Fₓ ?Nₓ ?Xₓ ?Tₓ ?hLₓ ?hzₓ ?hlenₓ ?_); (case dₓ => exact Nat.le_of_ble_eq_true rfl); (case uₓ => exact Nat.le_of_ble_eq_true rfl); (case Fₓ => k_asm); (case Nₓ => k_asm); (case Xₓ => k_asm); (case Tₓ => k_asm); (case hLₓ => k_mem); (case hzₓ => k_sub); (case hlenₓ => first | assumption | omega)); intro h'ₓ tk'ₓ F'ₓ N'ₓ; (try k_sweep))
  k_with "call ref" => (k_here; (with_reducible show wpAny _ _ (call (Value.ref 41) _) _ _ _); k_dflt (refine' to_AL rfl ?dₓ ?uₓ (anyel_at ?Fₓ ?Nₓ ?Xₓ ?Tₓ ?hLₓ ?hzₓ ?oₓ ?hlₓ ?_); (case dₓ => exact Nat.le_of_ble_eq_true rfl); (case uₓ => exact Nat.le_of_ble_eq_true rfl); (case Fₓ => k_asm); (case Nₓ => k_asm); (case Xₓ => k_asm); (case Tₓ => k_asm); (case hLₓ => k_mem); (case hzₓ => (intro qₓ hqₓ; first | (refine mem_in ((‹∀ qₓ ∈ tf _, qₓ ∈ _›) qₓ hqₓ) ?_; first | exact ⟨1, rfl⟩ | exact ⟨2, rfl⟩ | exact ⟨3, rfl⟩ | exact ⟨4, rfl⟩ | exact ⟨5, rfl⟩ | exact ⟨6, rfl⟩ | exact ⟨7, rfl⟩ | exact ⟨8, rfl⟩ | exact ⟨9, rfl⟩ | exact ⟨10, rfl⟩ | exact ⟨11, rfl⟩ | exact ⟨12, rfl⟩ | exact ⟨13, rfl⟩ | exact ⟨14, rfl⟩ | exact ⟨15, rfl⟩) | (repeat (first | with_reducible exact (‹∀ qₓ ∈ tf _, qₓ ∈ _›) qₓ hqₓ | with_reducible apply List.mem_cons_of_mem)))); (case oₓ => assumption); (case hlₓ => assumption)); intro h'ₓ tk'ₓ F'ₓ N'ₓ; (try k_sweep))
  k_with "call ref" => (k_here; (with_reducible show wpAny _ _ (call (Value.ref 46) _) _ _ _); k_dflt (refine' to_AL rfl ?dₓ ?uₓ (anyfl_at ?Fₓ ?Nₓ ?Xₓ ?Tₓ ?hLₓ ?hzₓ ?oₓ ?hlₓ ?_); (case dₓ => exact Nat.le_of_ble_eq_true rfl); (case uₓ => exact Nat.le_of_ble_eq_true rfl); (case Fₓ => k_asm); (case Nₓ => k_asm); (case Xₓ => k_asm); (case Tₓ => k_asm); (case hLₓ => k_mem); (case hzₓ => (intro qₓ hqₓ; first | (refine mem_in ((‹∀ qₓ ∈ tf _, qₓ ∈ _›) qₓ hqₓ) ?_; first | exact ⟨1, rfl⟩ | exact ⟨2, rfl⟩ | exact ⟨3, rfl⟩ | exact ⟨4, rfl⟩ | exact ⟨5, rfl⟩ | exact ⟨6, rfl⟩ | exact ⟨7, rfl⟩ | exact ⟨8, rfl⟩ | exact ⟨9, rfl⟩ | exact ⟨10, rfl⟩ | exact ⟨11, rfl⟩ | exact ⟨12, rfl⟩ | exact ⟨13, rfl⟩ | exact ⟨14, rfl⟩ | exact ⟨15, rfl⟩) | (repeat (first | with_reducible exact (‹∀ qₓ ∈ tf _, qₓ ∈ _›) qₓ hqₓ | with_reducible apply List.mem_cons_of_mem)))); (case oₓ => assumption); (case hlₓ => assumption)); intro h'ₓ tk'ₓ F'ₓ N'ₓ; (try k_sweep))
  k_with "call ref" => (k_here; (with_reducible show wpAny _ _ (call (Value.ref 203) _) _ _ _); k_dflt (refine' to_AL rfl ?dₓ ?uₓ (octs_at ?Fₓ ?Nₓ ?Xₓ ?Tₓ ?h1ₓ ?h2ₓ ?h3ₓ ?h4ₓ ?h5ₓ ?h6ₓ ?h7ₓ ?h8ₓ ?_); (case dₓ => exact Nat.le_of_ble_eq_true rfl); (case uₓ => exact Nat.le_of_ble_eq_true rfl); (case Fₓ => k_asm); (case Nₓ => k_asm); (case Xₓ => k_asm); (case Tₓ => k_asm); (case h1ₓ => k_mem); (case h2ₓ => k_mem); (case h3ₓ => k_mem); (case h4ₓ => assumption); (case h5ₓ => assumption); (case h6ₓ => first | assumption | exact fun q hq => .tail _ ((‹∀ q ∈ pz _, q ∈ _›) q hq) | exact fun q hq => .tail _ (.tail _ ((‹∀ q ∈ pz _, q ∈ _›) q hq))); (case h7ₓ => first | assumption | exact fun q hq => .tail _ ((‹∀ q ∈ qz _ _, q ∈ _›) q hq) | exact fun q hq => .tail _ (.tail _ ((‹∀ q ∈ qz _ _, q ∈ _›) q hq))); (case h8ₓ => assumption)); intro h'ₓ tk'ₓ t'ₓ F'ₓ N'ₓ)
  k_with "call ref" => (k_here; (with_reducible show wpAny _ _ (call (Value.ref 198) _) _ _ _); k_dflt (refine' to_AL rfl ?dₓ ?uₓ (elic_at ?Fₓ ?Nₓ ?Xₓ ?Tₓ ?h1ₓ ?h2ₓ ?h3ₓ ?h4ₓ ?h5ₓ ?h6ₓ ?h7ₓ ?h8ₓ ?_); (case dₓ => exact Nat.le_of_ble_eq_true rfl); (case uₓ => exact Nat.le_of_ble_eq_true rfl); (case Fₓ => k_asm); (case Nₓ => k_asm); (case Xₓ => k_asm); (case Tₓ => k_asm); (case h1ₓ => k_mem); (case h2ₓ => k_mem); (case h3ₓ => k_mem); (case h4ₓ => assumption); (case h5ₓ => assumption); (case h6ₓ => first | assumption | exact fun q hq => .tail _ ((‹∀ q ∈ pz _, q ∈ _›) q hq) | exact fun q hq => .tail _ (.tail _ ((‹∀ q ∈ pz _, q ∈ _›) q hq))); (case h7ₓ => first | assumption | exact fun q hq => .tail _ ((‹∀ q ∈ qz _ _, q ∈ _›) q hq) | exact fun q hq => .tail _ (.tail _ ((‹∀ q ∈ qz _ _, q ∈ _›) q hq))); (case h8ₓ => assumption)); intro h'ₓ tk'ₓ F'ₓ N'ₓ)
  k_with "call ref" => (k_here; (with_reducible show wpAny _ _ (call (Value.ref 210) _) _ _ _); k_dflt (refine' to_AL rfl ?dₓ ?uₓ (rows_at ?Fₓ ?Nₓ ?Xₓ ?Tₓ ?h1ₓ ?h2ₓ ?h3ₓ ?h4ₓ ?h5ₓ ?h6ₓ ?h7ₓ ?h8ₓ ?_); (case dₓ => exact Nat.le_of_ble_eq_true rfl); (case uₓ => exact Nat.le_of_ble_eq_true rfl); (case Fₓ => k_asm); (case Nₓ => k_asm); (case Xₓ => k_asm); (case Tₓ => k_asm); (case h1ₓ => k_mem); (case h2ₓ => k_mem); (case h3ₓ => k_mem); (case h4ₓ => assumption); (case h5ₓ => assumption); (case h6ₓ => first | assumption | exact fun q hq => .tail _ ((‹∀ q ∈ pz _, q ∈ _›) q hq) | exact fun q hq => .tail _ (.tail _ ((‹∀ q ∈ pz _, q ∈ _›) q hq))); (case h7ₓ => first | assumption | exact fun q hq => .tail _ ((‹∀ q ∈ qz _ _, q ∈ _›) q hq) | exact fun q hq => .tail _ (.tail _ ((‹∀ q ∈ qz _ _, q ∈ _›) q hq))); (case h8ₓ => assumption)); intro FD'ₓ oFD'ₓ fs'ₓ h'ₓ tk'ₓ hFD'ₓ lFD'ₓ eFD'ₓ F'ₓ N'ₓ; have N2'ₓ := newsSub N'ₓ rows_sub2)
  k_with "k_lt_off" => skip
  k_with "k_ne" => (first | assumption | (apply Ne.symm; assumption))
  k_with "k_mem" => (first | with_reducible assumption | exact mem_at 0 rfl | exact mem_at 1 rfl | exact mem_at 2 rfl | exact mem_at 3 rfl | exact mem_at 4 rfl | exact mem_at 5 rfl | exact mem_at 6 rfl | exact mem_at 7 rfl | exact mem_at 8 rfl | exact mem_at 9 rfl | exact mem_at 10 rfl | exact mem_at 11 rfl | exact mem_at 12 rfl | exact mem_at 13 rfl | exact mem_at 14 rfl | (refine mem_in (by with_reducible assumption) ?_; first | exact ⟨1, rfl⟩ | exact ⟨2, rfl⟩ | exact ⟨3, rfl⟩ | exact ⟨4, rfl⟩ | exact ⟨5, rfl⟩ | exact ⟨6, rfl⟩ | exact ⟨7, rfl⟩ | exact ⟨8, rfl⟩ | exact ⟨9, rfl⟩ | exact ⟨10, rfl⟩ | exact ⟨11, rfl⟩ | exact ⟨12, rfl⟩ | exact ⟨13, rfl⟩ | exact ⟨14, rfl⟩ | exact ⟨15, rfl⟩))
  k_with "k_updF" => (first | exact updF_at 0 (by assumption) rfl rfl | exact updF_at 1 (by assumption) rfl rfl | exact updF_at 2 (by assumption) rfl rfl | exact updF_at 3 (by assumption) rfl rfl | exact updF_at 4 (by assumption) rfl rfl | exact updF_at 5 (by assumption) rfl rfl | exact updF_at 6 (by assumption) rfl rfl | exact updF_at 7 (by assumption) rfl rfl | exact updF_at 8 (by assumption) rfl rfl | exact updF_at 9 (by assumption) rfl rfl | exact updF_at 10 (by assumption) rfl rfl | exact updF_at 11 (by assumption) rfl rfl | exact updF_at 12 (by assumption) rfl rfl)
  k_with "k_upd" => (first | exact upd_at 0 (by assumption) rfl rfl | exact upd_at 1 (by assumption) rfl rfl | exact upd_at 2 (by assumption) rfl rfl | exact upd_at 3 (by assumption) rfl rfl | exact upd_at 4 (by assumption) rfl rfl | exact upd_at 5 (by assumption) rfl rfl | exact upd_at 6 (by assumption) rfl rfl | exact upd_at 7 (by assumption) rfl rfl | exact upd_at 8 (by assumption) rfl rfl | exact upd_at 9 (by assumption) rfl rfl | exact upd_at 10 (by assumption) rfl rfl | exact upd_at 11 (by assumption) rfl rfl | exact upd_at 12 (by assumption) rfl rfl)
  k_with "k_sweep" => (rename News _ _ _ _ => N9ₓ; first | (have hS9ₓ := sep_have N9ₓ (by with_reducible assumption); clear hS9ₓ) | (refine let_new2 N9ₓ (by assumption) (by assumption) (by assumption) ?_; clear N9ₓ; intro l9ₓ N9ₓ S9ₓ) | (refine let_new N9ₓ (by assumption) (by assumption) ?_; clear N9ₓ; intro l9ₓ N9ₓ S9ₓ) | (refine let_set N9ₓ (by assumption) rfl ?_; clear N9ₓ; intro l9ₓ N9ₓ S9ₓ))
  k_with "k_sub" => ((repeat ((with_reducible refine List.forall_mem_cons.mpr ⟨?_, ?_⟩); (next => k_mem))); intro qₓ hqₓ; first | with_reducible exact absurd hqₓ List.not_mem_nil | with_reducible exact hqₓ | exact mem_off 1 rfl hqₓ | exact mem_off 2 rfl hqₓ | exact mem_off 3 rfl hqₓ | exact mem_off 4 rfl hqₓ | exact mem_off 5 rfl hqₓ | exact mem_off 6 rfl hqₓ | exact mem_off 7 rfl hqₓ | exact mem_off 8 rfl hqₓ | exact mem_off 9 rfl hqₓ | exact mem_off 10 rfl hqₓ | exact mem_off 11 rfl hqₓ | exact mem_off 12 rfl hqₓ | exact mem_off 13 rfl hqₓ | exact mem_off 14 rfl hqₓ | exact mem_off 15 rfl hqₓ)
  k_with "KdnMade" => (refine Halt.out ?_)
  trivial
theorem own_st {Q : Flow → Shared → Prop} {b : List Stmt} {sc : Scope} {fa : Addr} {cd : Value} {nm : Str} {tn : Tok} (hb : partsOf (topFn 29) = some (b, sc))
    (F : Fr h₀ L s.heap m) (N : News h₀ L s.heap TL) (X₀ : (heap w.params).In h₀) (T : Top p loose mean mg mb h₀) (q3 : m (Str.ofString "name") = some (.str nm tn))
    (h : ∀ (OD SE MA OO : Addr) (oD oOO : Obj) (t5 t6 t7 t8 t9 : Tok) h' tk', oD.IsDictOf (PySem.strKind prog w) (odK (.str nm tn) (.ref SE) (.ref MA) (.int (-1) t5) (.int 0 t6) .none (.int 0 t7) (.bool false) (.ref OO) (.int 0 t8) .none .none (.int 1000 t9)) → oOO.IsDictOf (intKind prog w) [] → (OD == sysModules) = false → (OO == sysModules) = false →
      (∀ q ∈ TL, @LT.lt Nat _ q.1 OD) → @LT.lt Nat _ OD SE → @LT.lt Nat _ SE MA → @LT.lt Nat _ MA OO → Fr h₀ L h' (fun z => if z = Str.ofString "own" then some (.ref OD) else m z) → News h₀ L h' ((OO, oOO) :: (MA, listOf #[] 0) :: (SE, listOf #[] 0) :: (OD, oD) :: TL) →
      wpAny (model prog w) ((AL 320).deeper (envOf (Str.ofString "law") sc L fa cd)) (execs (b.drop 5) (envOf (Str.ofString "law") sc L fa cd)) Q (fun _ _ => False) { s with heap := h', toks := tk' }) :
    wpAny (model prog w) ((AL 320).deeper (envOf (Str.ofString "law") sc L fa cd)) (execs (b.drop 4) (envOf (Str.ofString "law") sc L fa cd)) Q (fun _ _ => False) s := by
  have hb0 := hb
  delta topFn PySem.Challenge.pw_nz0346_01 at hb
  simp only [partsOf, nthS, Option.some.injEq, Prod.mk.injEq] at hb
  obtain ⟨rfl, rfl⟩ := hb
  simp only [List.drop] at h ⊢
  refine wpAny_execs_cons ?_
  with_reducible refine wpAny_Assign_Name ?_ ?_
  rotate_left
  · exact swaps_dict
  have X' := X₀
  have T' := T
  clear X₀ T hb0
  k_unmd
  k_steps
  have D'ₓ := True.intro; have F'ₓ := True.intro; have FD'ₓ := True.intro; have FG'ₓ := True.intro; have L'ₓ := True.intro; have N'ₓ := True.intro; have N9ₓ := True.intro; have S9ₓ := True.intro; have T'ₓ := True.intro; have X'ₓ := True.intro; have eFD'ₓ := True.intro; have fs'ₓ := True.intro; have g'ₓ := True.intro; have h'ₓ := True.intro; have hFD'ₓ := True.intro; have hd'ₓ := True.intro; have hqₓ := True.intro; have hv0'ₓ := True.intro; have hv1'ₓ := True.intro; have l1ₓ := True.intro; have l9ₓ := True.intro; have lFD'ₓ := True.intro; have o'ₓ := True.intro; have oFD'ₓ := True.intro; have oP'ₓ := True.intro; have qₓ := True.intro; have t'ₓ := True.intro; have tk'ₓ := True.intro; have v'ₓ := True.intro
  rename_i OD _ oD0 lD lo1 hD0 SE _ lS MA _ lM OO _ oOO F₇ N₇ lO lo2 hs2 _ hOO _
  clear D'ₓ F'ₓ FD'ₓ FG'ₓ L'ₓ N'ₓ N9ₓ S9ₓ T'ₓ X'ₓ eFD'ₓ fs'ₓ g'ₓ h'ₓ hFD'ₓ hd'ₓ hqₓ hv0'ₓ hv1'ₓ l1ₓ l9ₓ lFD'ₓ o'ₓ oFD'ₓ oP'ₓ qₓ t'ₓ tk'ₓ v'ₓ
  refine Halt.mk (kdn_made_str F₇ N₇ (UpdF.tail (Nat.ne_of_gt (lO _ (.tail _ (.tail _ (.head _))))) (UpdF.tail (Nat.ne_of_gt (lM _ (.tail _ (.head _)))) (UpdF.tail (Nat.ne_of_gt (lS _ (.head _))) (UpdF.head (fun q hq => Nat.ne_of_lt (lD q hq)))))) hD0 rfl own_nodup ?_)
  intro h₈ oD F₈ N₈ hD
  refine wpAny_storeName_local rfl F₈.ns (fun h₉ hn₉ hs₉ => ?_) rfl
  exact h OD SE MA OO oD oOO _ _ _ _ _ h₉ _ hD hOO lo1 lo2 lD (lS _ (.head _)) (lM _ (.head _)) (lO _ (.head _)) (F₈.set hn₉ hs₉) (N₈.set hs₉)
end

-- needs: lend led0 space told acks comes sends alike forget rows
theorem Led.Ok.off4 {prog : Program} {w : World} {k : Nat} {h₀ h : Heap} {L I : Addr} {oI : Obj} {D : Led} {rest : List (Addr × Obj)} (O : D.Ok prog w k) (N : News h₀ L h (D.fst w ++ (D.snd w ++ rest))) (hI : (I, oI) ∈ rest) (ht : tagO oI = 4) : ∀ q ∈ D.fst w ++ (D.snd w ++ []), @Ne Nat q.1 I := by
  intro q hq
  have hq2 : (q.1, q.2) ∈ D.fst w ++ (D.snd w ++ rest) := by
    rcases List.mem_append.mp hq with hq | hq
    · exact List.mem_append_left _ hq
    · rw [List.append_nil] at hq
      exact List.mem_append_right _ (List.mem_append_left _ hq)
  have hI2 : (I, oI) ∈ D.fst w ++ (D.snd w ++ rest) := List.mem_append_right _ (List.mem_append_right _ hI)
  have fin : ∀ j, tagO q.2 = j → j ≠ 4 → @Ne Nat q.1 I := fun j e hj => ne_tag N hq2 hI2 e ht hj
  rcases List.mem_append.mp hq with hq | hq
  · rcases List.mem_cons.mp hq with h | hq
    · exact fin 1 (h ▸ tag_pool O.pool) (by decide)
    rcases List.mem_cons.mp hq with h | hq
    · exact fin 1 (h ▸ rfl) (by decide)
    rcases List.mem_cons.mp hq with h | hq
    · exact fin 230 (h ▸ rfl) (by decide)
    rcases List.mem_cons.mp hq with h | hq
    · exact fin 2 (h ▸ rfl) (by decide)
    rcases List.mem_cons.mp hq with h | hq
    · exact fin 2 (h ▸ tag_dict O.od) (by decide)
    rcases List.mem_cons.mp hq with h | hq
    · exact fin 1 (h ▸ rfl) (by decide)
    rcases List.mem_cons.mp hq with h | hq
    · exact fin 1 (h ▸ rfl) (by decide)
    rcases List.mem_cons.mp hq with h | hq
    · exact fin 1 (h ▸ rfl) (by decide)
    rcases List.mem_cons.mp hq with h | hq
    · exact fin 1 (h ▸ rfl) (by decide)
    · exact fin 3 (tag_tz hq) (by decide)
  · rw [List.append_nil] at hq
    rcases List.mem_cons.mp hq with h | hq
    · exact fin 2 (h ▸ tag_dict O.sd) (by decide)
    rcases List.mem_cons.mp hq with h | hq
    · exact fin 2 (h ▸ tag_dict O.oo) (by decide)
    rcases List.mem_append.mp hq with hq | hq
    · exact fin 103 (tag_pz hq) (by decide)
    rcases List.mem_append.mp hq with hq | hq
    · exact fin 2 (tag_qz hq) (by decide)
    · exact fin 3 (tag_wz hq) (by decide)
section
variable {prog : Program} {w : World} {A : Around} {E : Value → Shared → Prop} {s : Shared} {h₀ : Heap} {L : Addr} {m mg mb : Str → Option Value}
  {p : Program} {loose : List Str} {mean : ExcName → Option Value} {Q : Flow → Shared → Prop}
theorem words_loop_1 : True := by
  k_with_none
  k_with "k_enter" => (refine' code_defM ?k1ₓ ?k2ₓ ?k3ₓ ?k5ₓ ?k6ₓ ?k7ₓ ?k8ₓ ?k9ₓ ?kBₓ ?_ ?c2ₓ ?c3ₓ ?c4ₓ ?c5ₓ; (case k1ₓ => k_asm); (case k2ₓ => k_asm); (case k3ₓ => k_asm); (case k5ₓ => k_asm); (case k6ₓ => k_is); (case k7ₓ => k_is); (case k8ₓ => exact Nat.le_of_ble_eq_true rfl); (case k9ₓ => exact rfl); (case c5ₓ => decide); (case kBₓ => exact locs rfl); (case c2ₓ => exact rfl); (case c3ₓ => exact rfl); (case c4ₓ => exact rfl); k_whole; intro g'ₓ L'ₓ h'ₓ FG'ₓ F'ₓ N'ₓ X'ₓ T'ₓ; (try dsimp only [List.map, List.zip, List.zipWith] at F'ₓ); (try dsimp only); (try k_fold))
  k_with "k_mem" => first | with_reducible assumption | with_reducible exact List.mem_cons_self | (with_reducible apply List.mem_cons_of_mem; k_mem)
  k_with "k_all" => first | assumption | exact allLt_off (by assumption)
  k_with "size_fits" => first | assumption | (simp only [Array.size_push, List.size_toArray, List.length_append, List.length_cons, List.length_nil, vz_length, PySem.sizeLine_eq]; omega)
  k_with "binaryOp Add ref ref" => (k_here; (with_reducible show wpAny _ _ (binaryOp _ (Value.ref _) (Value.ref _)) _ _ _); k_dflt (refine' addL ?Fₓ ?Nₓ ?aₓ ?bₓ ?zₓ ?_; (case Fₓ => k_asm); (case Nₓ => k_asm); (case aₓ => k_mem); (case bₓ => k_mem); (case zₓ => (simp only [List.length_cons, List.length_nil, vz_length, sizeLine_eq]; omega))); intro D'ₓ h'ₓ F'ₓ N'ₓ l1ₓ; (try k_lt l1ₓ); (try k_sweep))
  k_with "k_sub" => ((try simp only [List.cons_append, List.nil_append]); (repeat ((with_reducible refine List.forall_mem_cons.mpr ⟨?_, ?_⟩); (next => (first | ((repeat (first | with_reducible exact List.mem_cons_self | with_reducible apply List.mem_cons_of_mem)); done) | (repeat (first | exact List.mem_cons_self | apply List.mem_cons_of_mem)))))); intro qₓ hqₓ; first | with_reducible exact absurd hqₓ List.not_mem_nil | (repeat (first | with_reducible exact hqₓ | with_reducible exact List.mem_append_left _ hqₓ | with_reducible exact List.mem_append_right _ hqₓ | with_reducible apply List.mem_cons_of_mem)))
  k_with "SrcLP" => (k_here; k_dflt (refine LCp.SrcLP.ledger (by rfl) (by k_asm) (by k_asm) (by k_mem) (by size_fits) ?_); intro g'ₓ; refine Halt.out ?_)
  k_with "CompSrc" => (k_here; k_dflt (refine LCg.CompSrc.ledger (by rfl) (by k_asm) (by k_asm) (by k_mem) (by size_fits) ?_); intro g'ₓ; refine Halt.out ?_)
  k_with "CompSrcT" => (k_here; k_dflt (refine LCt.CompSrcT.ledger (by rfl) (by k_asm) (by k_asm) (by k_mem) (by size_fits) ?_); intro g'ₓ; refine Halt.out ?_)
  k_with "CompEnd" => (refine Halt.out ?_)
  k_with "lsm_bools" => assumption
  k_with "eval Name" => (k_here; k_dflt (refine' nameX_L ?Fₓ ?vₓ ?_ ?aₓ ?bₓ; (case Fₓ => k_asm); (case aₓ => rfl); (case bₓ => rfl); (case vₓ => first | exact rfl | assumption); k_whole))
  k_with "eval Name" => (k_here; (with_reducible show wpAny _ _ (eval (Expr.Name _ _) (envOf _ _ _ _ _)) _ _ _); k_dflt (refine' ld ?k1ₓ ?k2ₓ ?_; (case k1ₓ => k_asm); (case k2ₓ => first | exact rfl | assumption); k_whole))
  k_with "k_ne" => (first | assumption | (apply Ne.symm; assumption) | exact Nat.ne_of_lt (by assumption) | exact Nat.ne_of_gt (by assumption))
  k_with "call builtin:len" => (k_here; (with_reducible show wpAny _ _ (call (Value.builtin "len") [Value.ref _]) _ _ _); k_dflt (refine' lenL ?Nₓ ?aₓ ?zₓ ?_; (case Nₓ => k_asm); (case aₓ => k_mem); (case zₓ => (simp only [vz_length]; omega))); (try simp only [vz_length]))
  k_with "setItem ref int" => (k_here; k_dflt (refine' kda_set (knd := PySem.intKind _ _) ?Fₓ ?Nₓ ?Uₓ ?dₓ (intKind_is _ _ _ _) ?zₓ ?_; (case Fₓ => k_asm); (case Nₓ => k_asm); (case Uₓ => k_updF); (case dₓ => assumption); (case zₓ => assumption)); intro h'ₓ o'ₓ F'ₓ N'ₓ hd'ₓ; (try k_sweep))
  k_with "call ref" => (k_here; (with_reducible show wpAny _ _ (call (Value.ref 238) _) _ _ _); k_dflt (refine' to_AL rfl ?dₓ ?uₓ (draw_at ?Fₓ ?Nₓ ?Xₓ ?Tₓ ?Uₓ ?oₓ ?hPₓ ?hSₓ ?hiₓ ?hlₓ ?psₓ ?hmₓ ?_); (case dₓ => exact Nat.le_of_ble_eq_true rfl); (case uₓ => exact Nat.le_of_ble_eq_true rfl); (case Fₓ => k_asm); (case Nₓ => k_asm); (case Xₓ => k_asm); (case Tₓ => k_asm); (case Uₓ => k_updF); (case oₓ => assumption); (case hPₓ => k_mem); (case hSₓ => k_mem); (case hiₓ => assumption); (case hlₓ => assumption); (case psₓ => k_ne); (case hmₓ => first | decide | assumption)); intro v'ₓ t'ₓ o'ₓ h'ₓ tk'ₓ hv0'ₓ hv1'ₓ oP'ₓ F'ₓ N'ₓ; (try dsimp only at N'ₓ); (try k_sweep))
  k_with "call ref" => (k_here; (with_reducible show wpAny _ _ (call (Value.ref 53) _) _ _ _); k_dflt (refine' to_AL rfl ?dₓ ?uₓ (add_at ?Fₓ ?Nₓ ?Xₓ ?Tₓ ?hLₓ ?hzₓ ?hlenₓ ?_); (case dₓ => exact Nat.le_of_ble_eq_true rfl); (case uₓ => exact Nat.le_of_ble_eq_true rfl); (case Fₓ => k_asm); (case Nₓ => k_asm); (case Xₓ => k_asm); (case Tₓ => k_asm); (case hLₓ => k_mem); (case hzₓ => k_sub); (case hlenₓ => first | assumption | omega)); intro RL' z' rs' k' h' tk' F' N' n1' n2' n3' er' es' el'; (repeat (replace n1' := List.forall_mem_cons.mp n1'; (have hn' := And.left n1'); replace n1' := And.right n1'; try dsimp only at hn')); (repeat (replace n2' := List.forall_mem_cons.mp n2'; (have hn' := And.left n2'); replace n2' := And.right n2'; try dsimp only at hn')); (try dsimp only at n3'); (try k_sweep))
  k_with "call ref" => (k_here; (with_reducible show wpAny _ _ (call (Value.ref 58) _) _ _ _); k_dflt (refine' to_AL rfl ?dₓ ?uₓ (has_at ?Fₓ ?Nₓ ?Xₓ ?Tₓ ?hLₓ ?hzₓ ?hlenₓ ?_); (case dₓ => exact Nat.le_of_ble_eq_true rfl); (case uₓ => exact Nat.le_of_ble_eq_true rfl); (case Fₓ => k_asm); (case Nₓ => k_asm); (case Xₓ => k_asm); (case Tₓ => k_asm); (case hLₓ => k_mem); (case hzₓ => k_sub); (case hlenₓ => first | assumption | omega)); intro h'ₓ tk'ₓ F'ₓ N'ₓ; (try k_sweep))
  k_with "call ref" => (k_here; (with_reducible show wpAny _ _ (call (Value.ref 41) _) _ _ _); k_dflt (refine' to_AL rfl ?dₓ ?uₓ (anyel_at ?Fₓ ?Nₓ ?Xₓ ?Tₓ ?hLₓ ?hzₓ ?oₓ ?hlₓ ?_); (case dₓ => exact Nat.le_of_ble_eq_true rfl); (case uₓ => exact Nat.le_of_ble_eq_true rfl); (case Fₓ => k_asm); (case Nₓ => k_asm); (case Xₓ => k_asm); (case Tₓ => k_asm); (case hLₓ => k_mem); (case hzₓ => (intro qₓ hqₓ; first | (refine mem_in ((‹∀ qₓ ∈ tf _, qₓ ∈ _›) qₓ hqₓ) ?_; first | exact ⟨1, rfl⟩ | exact ⟨2, rfl⟩ | exact ⟨3, rfl⟩ | exact ⟨4, rfl⟩ | exact ⟨5, rfl⟩ | exact ⟨6, rfl⟩ | exact ⟨7, rfl⟩ | exact ⟨8, rfl⟩ | exact ⟨9, rfl⟩ | exact ⟨10, rfl⟩ | exact ⟨11, rfl⟩ | exact ⟨12, rfl⟩ | exact ⟨13, rfl⟩ | exact ⟨14, rfl⟩ | exact ⟨15, rfl⟩) | (repeat (first | with_reducible exact (‹∀ qₓ ∈ tf _, qₓ ∈ _›) qₓ hqₓ | with_reducible apply List.mem_cons_of_mem)))); (case oₓ => assumption); (case hlₓ => assumption)); intro h'ₓ tk'ₓ F'ₓ N'ₓ; (try k_sweep))
  k_with "call ref" => (k_here; (with_reducible show wpAny _ _ (call (Value.ref 46) _) _ _ _); k_dflt (refine' to_AL rfl ?dₓ ?uₓ (anyfl_at ?Fₓ ?Nₓ ?Xₓ ?Tₓ ?hLₓ ?hzₓ ?oₓ ?hlₓ ?_); (case dₓ => exact Nat.le_of_ble_eq_true rfl); (case uₓ => exact Nat.le_of_ble_eq_true rfl); (case Fₓ => k_asm); (case Nₓ => k_asm); (case Xₓ => k_asm); (case Tₓ => k_asm); (case hLₓ => k_mem); (case hzₓ => (intro qₓ hqₓ; first | (refine mem_in ((‹∀ qₓ ∈ tf _, qₓ ∈ _›) qₓ hqₓ) ?_; first | exact ⟨1, rfl⟩ | exact ⟨2, rfl⟩ | exact ⟨3, rfl⟩ | exact ⟨4, rfl⟩ | exact ⟨5, rfl⟩ | exact ⟨6, rfl⟩ | exact ⟨7, rfl⟩ | exact ⟨8, rfl⟩ | exact ⟨9, rfl⟩ | exact ⟨10, rfl⟩ | exact ⟨11, rfl⟩ | exact ⟨12, rfl⟩ | exact ⟨13, rfl⟩ | exact ⟨14, rfl⟩ | exact ⟨15, rfl⟩) | (repeat (first | with_reducible exact (‹∀ qₓ ∈ tf _, qₓ ∈ _›) qₓ hqₓ | with_reducible apply List.mem_cons_of_mem)))); (case oₓ => assumption); (case hlₓ => assumption)); intro h'ₓ tk'ₓ F'ₓ N'ₓ; (try k_sweep))
  k_with "call ref" => (k_here; (with_reducible show wpAny _ _ (call (Value.ref 203) _) _ _ _); k_dflt (refine' to_AL rfl ?dₓ ?uₓ (octs_at ?Fₓ ?Nₓ ?Xₓ ?Tₓ ?h1ₓ ?h2ₓ ?h3ₓ ?h4ₓ ?h5ₓ ?h6ₓ ?h7ₓ ?h8ₓ ?_); (case dₓ => exact Nat.le_of_ble_eq_true rfl); (case uₓ => exact Nat.le_of_ble_eq_true rfl); (case Fₓ => k_asm); (case Nₓ => k_asm); (case Xₓ => k_asm); (case Tₓ => k_asm); (case h1ₓ => k_mem); (case h2ₓ => k_mem); (case h3ₓ => k_mem); (case h4ₓ => assumption); (case h5ₓ => assumption); (case h6ₓ => first | assumption | exact fun q hq => .tail _ ((‹∀ q ∈ pz _, q ∈ _›) q hq) | exact fun q hq => .tail _ (.tail _ ((‹∀ q ∈ pz _, q ∈ _›) q hq))); (case h7ₓ => first | assumption | exact fun q hq => .tail _ ((‹∀ q ∈ qz _ _, q ∈ _›) q hq) | exact fun q hq => .tail _ (.tail _ ((‹∀ q ∈ qz _ _, q ∈ _›) q hq))); (case h8ₓ => assumption)); intro h'ₓ tk'ₓ t'ₓ F'ₓ N'ₓ)
  k_with "call ref" => (k_here; (with_reducible show wpAny _ _ (call (Value.ref 198) _) _ _ _); k_dflt (refine' to_AL rfl ?dₓ ?uₓ (elic_at ?Fₓ ?Nₓ ?Xₓ ?Tₓ ?h1ₓ ?h2ₓ ?h3ₓ ?h4ₓ ?h5ₓ ?h6ₓ ?h7ₓ ?h8ₓ ?_); (case dₓ => exact Nat.le_of_ble_eq_true rfl); (case uₓ => exact Nat.le_of_ble_eq_true rfl); (case Fₓ => k_asm); (case Nₓ => k_asm); (case Xₓ => k_asm); (case Tₓ => k_asm); (case h1ₓ => k_mem); (case h2ₓ => k_mem); (case h3ₓ => k_mem); (case h4ₓ => assumption); (case h5ₓ => assumption); (case h6ₓ => first | assumption | exact fun q hq => .tail _ ((‹∀ q ∈ pz _, q ∈ _›) q hq) | exact fun q hq => .tail _ (.tail _ ((‹∀ q ∈ pz _, q ∈ _›) q hq))); (case h7ₓ => first | assumption | exact fun q hq => .tail _ ((‹∀ q ∈ qz _ _, q ∈ _›) q hq) | exact fun q hq => .tail _ (.tail _ ((‹∀ q ∈ qz _ _, q ∈ _›) q hq))); (case h8ₓ => assumption)); intro h'ₓ tk'ₓ F'ₓ N'ₓ)
  k_with "call ref" => (k_here; (with_reducible show wpAny _ _ (call (Value.ref 210) _) _ _ _); k_dflt (refine' to_AL rfl ?dₓ ?uₓ (rows_at ?Fₓ ?Nₓ ?Xₓ ?Tₓ ?h1ₓ ?h2ₓ ?h3ₓ ?h4ₓ ?h5ₓ ?h6ₓ ?h7ₓ ?h8ₓ ?_); (case dₓ => exact Nat.le_of_ble_eq_true rfl); (case uₓ => exact Nat.le_of_ble_eq_true rfl); (case Fₓ => k_asm); (case Nₓ => k_asm); (case Xₓ => k_asm); (case Tₓ => k_asm); (case h1ₓ => k_mem); (case h2ₓ => k_mem); (case h3ₓ => k_mem); (case h4ₓ => assumption); (case h5ₓ => assumption); (case h6ₓ => first | assumption | exact fun q hq => .tail _ ((‹∀ q ∈ pz _, q ∈ _›) q hq) | exact fun q hq => .tail _ (.tail _ ((‹∀ q ∈ pz _, q ∈ _›) q hq))); (case h7ₓ => first | assumption | exact fun q hq => .tail _ ((‹∀ q ∈ qz _ _, q ∈ _›) q hq) | exact fun q hq => .tail _ (.tail _ ((‹∀ q ∈ qz _ _, q ∈ _›) q hq))); (case h8ₓ => assumption)); intro FD'ₓ oFD'ₓ fs'ₓ h'ₓ tk'ₓ hFD'ₓ lFD'ₓ eFD'ₓ F'ₓ N'ₓ; have N2'ₓ := newsSub N'ₓ rows_sub2)
  k_with "k_lt_off" => skip
  k_with "k_ne" => (first | assumption | (apply Ne.symm; assumption))
  k_with "k_mem" => (first | with_reducible assumption | exact mem_at 0 rfl | exact mem_at 1 rfl | exact mem_at 2 rfl | exact mem_at 3 rfl | exact mem_at 4 rfl | exact mem_at 5 rfl | exact mem_at 6 rfl | exact mem_at 7 rfl | exact mem_at 8 rfl | exact mem_at 9 rfl | exact mem_at 10 rfl | exact mem_at 11 rfl | exact mem_at 12 rfl | exact mem_at 13 rfl | exact mem_at 14 rfl | (refine mem_in (by with_reducible assumption) ?_; first | exact ⟨1, rfl⟩ | exact ⟨2, rfl⟩ | exact ⟨3, rfl⟩ | exact ⟨4, rfl⟩ | exact ⟨5, rfl⟩ | exact ⟨6, rfl⟩ | exact ⟨7, rfl⟩ | exact ⟨8, rfl⟩ | exact ⟨9, rfl⟩ | exact ⟨10, rfl⟩ | exact ⟨11, rfl⟩ | exact ⟨12, rfl⟩ | exact ⟨13, rfl⟩ | exact ⟨14, rfl⟩ | exact ⟨15, rfl⟩))
  k_with "k_updF" => (first | exact updF_at 0 (by assumption) rfl rfl | exact updF_at 1 (by assumption) rfl rfl | exact updF_at 2 (by assumption) rfl rfl | exact updF_at 3 (by assumption) rfl rfl | exact updF_at 4 (by assumption) rfl rfl | exact updF_at 5 (by assumption) rfl rfl | exact updF_at 6 (by assumption) rfl rfl | exact updF_at 7 (by assumption) rfl rfl | exact updF_at 8 (by assumption) rfl rfl | exact updF_at 9 (by assumption) rfl rfl | exact updF_at 10 (by assumption) rfl rfl | exact updF_at 11 (by assumption) rfl rfl | exact updF_at 12 (by assumption) rfl rfl)
  k_with "k_upd" => (first | exact upd_at 0 (by assumption) rfl rfl | exact upd_at 1 (by assumption) rfl rfl | exact upd_at 2 (by assumption) rfl rfl | exact upd_at 3 (by assumption) rfl rfl | exact upd_at 4 (by assumption) rfl rfl | exact upd_at 5 (by assumption) rfl rfl | exact upd_at 6 (by assumption) rfl rfl | exact upd_at 7 (by assumption) rfl rfl | exact upd_at 8 (by assumption) rfl rfl | exact upd_at 9 (by assumption) rfl rfl | exact upd_at 10 (by assumption) rfl rfl | exact upd_at 11 (by assumption) rfl rfl | exact upd_at 12 (by assumption) rfl rfl)
  k_with "k_sweep" => (rename News _ _ _ _ => N9ₓ; first | (have hS9ₓ := sep_have N9ₓ (by with_reducible assumption); clear hS9ₓ) | (refine let_new2 N9ₓ (by assumption) (by assumption) (by assumption) ?_; clear N9ₓ; intro l9ₓ N9ₓ S9ₓ) | (refine let_new N9ₓ (by assumption) (by assumption) ?_; clear N9ₓ; intro l9ₓ N9ₓ S9ₓ) | (refine let_set N9ₓ (by assumption) rfl ?_; clear N9ₓ; intro l9ₓ N9ₓ S9ₓ))
  k_with "k_sub" => ((repeat ((with_reducible refine List.forall_mem_cons.mpr ⟨?_, ?_⟩); (next => k_mem))); intro qₓ hqₓ; first | with_reducible exact absurd hqₓ List.not_mem_nil | with_reducible exact hqₓ | exact mem_off 1 rfl hqₓ | exact mem_off 2 rfl hqₓ | exact mem_off 3 rfl hqₓ | exact mem_off 4 rfl hqₓ | exact mem_off 5 rfl hqₓ | exact mem_off 6 rfl hqₓ | exact mem_off 7 rfl hqₓ | exact mem_off 8 rfl hqₓ | exact mem_off 9 rfl hqₓ | exact mem_off 10 rfl hqₓ | exact mem_off 11 rfl hqₓ | exact mem_off 12 rfl hqₓ | exact mem_off 13 rfl hqₓ | exact mem_off 14 rfl hqₓ | exact mem_off 15 rfl hqₓ)
  k_with "eval ListComp" => (refine Halt.out ?_)
  k_with "call builtin:len" => (k_here; k_dflt (refine' lenL ?Nₓ ?aₓ ?zₓ ?_; (case Nₓ => k_asm); (case aₓ => k_mem); (case zₓ => omega)))
  k_with "pyIter_ref" => (refine Halt.out ?_)
  k_with "exec For" => (refine Halt.out ?_)
  k_with "call ref" => ((have hst'ₓ : Halt True := by assumption); clear hst'ₓ; refine Halt.out ?_)
  k_with "exec If" => ((have hst'ₓ : Stop := by assumption); clear hst'ₓ; refine Halt.out ?_)
  trivial
theorem law_loop {b : List Stmt} {sc : Scope} {fa : Addr} {cd : Value} {D0 : Led} (hb : partsOf (topFn 29) = some (b, sc))
    (F : Fr h₀ L s.heap m) (N : News h₀ L s.heap (D0.fst w ++ (D0.snd w ++ []))) (X₀ : (heap w.params).In h₀) (T : Top p loose mean mg mb h₀) (O : D0.Ok prog w 0) (hlen : D0.ns.length ≤ 24)
    (u1 : m (Str.ofString "pool") = some (.ref D0.P)) (u2 : m (Str.ofString "script") = some (.ref D0.S)) (u4 : m (Str.ofString "space") = some (.ref D0.X)) (u5 : m (Str.ofString "own") = some (.ref D0.OD))
    (h : ∀ h' tk' m', Fr h₀ L h' m' → Q (.ret (.bool true)) { s with heap := h', toks := tk' }) :
    wpAny (model prog w) ((AL 320).deeper (envOf (Str.ofString "law") sc L fa cd)) (execs (b.drop 5) (envOf (Str.ofString "law") sc L fa cd)) Q (fun _ _ => False) s := by
  have hb0 := hb
  delta topFn PySem.Challenge.pw_nz0346_01 at hb
  simp only [partsOf, nthS, Option.some.injEq, Prod.mk.injEq] at hb
  obtain ⟨rfl, rfl⟩ := hb
  simp only [List.drop]
  have X' := X₀
  have T' := T
  have hvl : D0.vs.length ≤ 24 := by rw [O.iv.length]; exact hlen
  have hS : (D0.S, listOf D0.vs.toArray D0.nS) ∈ D0.fst w ++ (D0.snd w ++ []) := .tail _ (.head _)
  obtain ⟨T0, hT0, N₁⟩ := named N
  rw [← hT0] at hS
  clear X₀ T
  refine wpAny_execs_cons ?_
  refine For_at h₀ ?_
  clear N
  k_steps
  rename News h₀ L _ _ => N₂
  rename Fr h₀ L _ _ => F₂
  rename IsRange _ _ _ _ _ _ _ _ => R₂
  have hsm : Builtin.Range.small 0 (6 + (D0.vs.length : Int)) 1 = true := small_one (by omega) (by omega) (by omega) (by omega)
  have hrs : Builtin.Range.rangeSize 0 (6 + (D0.vs.length : Int)) 1 = ((6 + D0.vs.length : Nat) : Int) := by
    rw [show (6 + (D0.vs.length : Int)) = ((6 + D0.vs.length : Nat) : Int) by omega]
    exact rangeSize_nat _ _
  subst hT0
  refine Halt.mk (iter_range (Q := _) (h₀ := h₀) rfl rfl rfl F₂ N₂ R₂ hsm hrs (fun k m' nw => ∃ D : Led, D.Ok prog w k ∧ m' (Str.ofString "pool") = some (.ref D.P) ∧ m' (Str.ofString "space") = some (.ref D.X) ∧ m' (Str.ofString "own") = some (.ref D.OD) ∧ nw = D.fst w ++ (D.snd w ++ [])) ⟨D0, O, u1, u4, u5, rfl⟩ ?turn ?done)
  case turn =>
    clear F₂ N₂ R₂ hsm hrs O u1 u2 u4 u5
    intro i ti m₁ nw I oI h₁ tk₁ s' hi hJ off F₁ N₁ hs' hcl
    obtain ⟨g', rfl⟩ := hs'
    obtain ⟨D, O, v1, v4, v5, rfl⟩ := hJ
    have hr : ∀ q ∈ [(I, oI)], tagO q.2 = 4 := List.forall_mem_cons.mpr ⟨by show tagO oI = 4; unfold tagO; rw [hcl]; rfl, fun _ h => absurd h List.not_mem_nil⟩
    have hk : i ≤ 29 := by omega
    have N₂ : News h₀ L h₁ (D.ex w ++ D.tl w [(I, oI)]) := newsSub N₁ (fun q hq => by
      have hq := led_to D q hq
      rcases List.mem_append.mp hq with hq | hq
      · exact .tail _ (List.mem_append_left _ hq)
      rcases List.mem_append.mp hq with hq | hq
      · exact .tail _ (List.mem_append_right _ (List.mem_append_left _ hq))
      · rw [List.mem_singleton.mp hq]; exact .head _)
    have ds := O.dis2 N₂ hr
    obtain ⟨TT, hTT, N₃⟩ : ∃ TT, TT = (D.OD, D.oOD) :: (D.XD, D.xd w) :: (D.SD, D.oSD) :: (D.OO, D.oOO) :: D.tl w [(I, oI)] ∧ News h₀ L h₁ ((D.P, D.oP) :: TT) := ⟨_, rfl, N₂⟩
    have bS : (D.S, listOf D.vs.toArray D.nS) ∈ TT := hTT ▸ .tail _ (.tail _ (.tail _ (.tail _ (.head _))))
    have tP : ∀ q ∈ TT, @Ne Nat q.1 D.P := hTT ▸ List.forall_mem_cons.mpr ⟨Ne.symm ds.a1, List.forall_mem_cons.mpr ⟨Ne.symm ds.a2, List.forall_mem_cons.mpr ⟨Ne.symm ds.a3, List.forall_mem_cons.mpr ⟨Ne.symm ds.a4, ds.tP⟩⟩⟩⟩
    have sP : @Ne Nat D.S D.P := tP _ bS
    have oP' : PoolO D.S D.oP := O.pool
    have iv : IntsAre D.vs D.ns := O.iv
    have ln : D.ns.length ≤ 63 := O.ln
    have hid : Hid (Led.Ok prog w i D) := ⟨O⟩
    obtain ⟨mm, hmm, F₂⟩ : ∃ mm, mm = _ ∧ Fr h₀ L h₁ mm := ⟨_, rfl, F₁⟩
    have x1 : mm (Str.ofString "pool") = some (.ref D.P) := hmm ▸ v1
    have x4 : mm (Str.ofString "space") = some (.ref D.X) := hmm ▸ v4
    have x5 : mm (Str.ofString "own") = some (.ref D.OD) := hmm ▸ v5
    clear hmm F₁ N₁ N₂ ds O v1 v4 v5 off hcl
    refine let_on (n := 1) N₃ (Sep.cons tP Sep.zero) ?_
    clear N₃
    intro l9 N9 S9
    have st : Stop := ⟨⟩
    k_steps
    rename News h₀ L _ _ => N₄
    rename Fr h₀ L _ _ => F₄
    rename PoolO D.S _ => hP2
    rename Obj => oP2
    have O₁ : (D.drew oP2).Ok prog w i := hid.out.drew hP2
    obtain ⟨T1, hT1, N₅⟩ : ∃ T1, T1 = (D.drew oP2).fst w ++ ((D.drew oP2).snd w ++ [(I, oI)]) ∧ News h₀ L _ T1 := ⟨_, rfl, newsSub N₄ (fun q hq => by
      have hq := led_of (D.drew oP2) q hq
      rcases List.mem_cons.mp hq with hq | hq
      · exact hq ▸ mem_at 0 rfl
      · exact mem_in (T := TT) (hTT ▸ hq) ⟨1, rfl⟩)⟩
    refine Halt.mk (mergeS (fun m' nw => ∃ D' : Led, D'.Ok prog w (i + 1) ∧ m' (Str.ofString "is_right") = some (.bool true) ∧ m' (Str.ofString "pool") = some (.ref D'.P) ∧ m' (Str.ofString "space") = some (.ref D'.X) ∧ m' (Str.ofString "own") = some (.ref D'.OD) ∧ nw = D'.fst w ++ (D'.snd w ++ [(I, oI)])) F₄ N₅ ?g1 ?g2)
    case g1 =>
      clear st h N₄
      have stt : Halt True := ⟨trivial⟩
      k_steps
      · refine Halt.mk (to_AL rfl (Nat.le_of_ble_eq_true rfl) (Nat.le_of_ble_eq_true rfl) (comes_at (D := D.drew oP2) (by assumption) (by assumption) (by assumption) O₁ hk (by rw [← hT1]; assumption) hr ?_))
        intro D' h' tk' a1 a2 a3 a4 F' N'
        clear F₄ N₅
        k_steps
        exact MidS.intro (D'.fst w ++ (D'.snd w ++ [(I, oI)])) (by assumption) (by assumption) (fun q hq => hq) ⟨D', a1, rfl, by rw [a2]; exact x1, by rw [a3]; exact x4, by rw [a4]; exact x5, rfl⟩
      · refine Halt.mk (to_AL rfl (Nat.le_of_ble_eq_true rfl) (Nat.le_of_ble_eq_true rfl) (acks_at (D := D.drew oP2) (by assumption) (by assumption) (by assumption) O₁ hk (by rw [← hT1]; assumption) hr ?_))
        intro D' h' tk' a1 a2 a3 a4 F' N'
        clear F₄ N₅
        k_steps
        exact MidS.intro (D'.fst w ++ (D'.snd w ++ [(I, oI)])) (by assumption) (by assumption) (fun q hq => hq) ⟨D', a1, rfl, by rw [a2]; exact x1, by rw [a3]; exact x4, by rw [a4]; exact x5, rfl⟩
      · refine Halt.mk (to_AL rfl (Nat.le_of_ble_eq_true rfl) (Nat.le_of_ble_eq_true rfl) (sends_at (D := D.drew oP2) (by assumption) (by assumption) (by assumption) O₁ hk (by rw [← hT1]; assumption) hr ?_))
        intro D' h' tk' a1 a2 a3 a4 F' N'
        clear F₄ N₅
        k_steps
        exact MidS.intro (D'.fst w ++ (D'.snd w ++ [(I, oI)])) (by assumption) (by assumption) (fun q hq => hq) ⟨D', a1, rfl, by rw [a2]; exact x1, by rw [a3]; exact x4, by rw [a4]; exact x5, rfl⟩
      · refine Halt.mk (to_AL rfl (Nat.le_of_ble_eq_true rfl) (Nat.le_of_ble_eq_true rfl) (told_at (D := D.drew oP2) (by assumption) (by assumption) (by assumption) O₁ hk (by rw [← hT1]; assumption) hr ?_))
        intro D' h' tk' a1 a2 a3 a4 F' N'
        clear F₄ N₅
        k_steps
        exact MidS.intro (D'.fst w ++ (D'.snd w ++ [(I, oI)])) (by assumption) (by assumption) (fun q hq => hq) ⟨D', a1, rfl, by rw [a2]; exact x1, by rw [a3]; exact x4, by rw [a4]; exact x5, rfl⟩
    case g2 =>
      clear F₄ N₄ N₅ st O₁ hT1 hTT hP2
      intro h₂ tk₂ m₂ nw F₂ N₂ hJ
      obtain ⟨D', O', y0, y1, y4, y5, rfl⟩ := hJ
      obtain ⟨T2, hT2, N₃⟩ := named N₂
      have stt : Halt True := ⟨trivial⟩
      clear N₂
      have bX : (D'.X, instObj 220 D'.XD) ∈ T2 := hT2 ▸ .tail _ (.tail _ (.head _))
      have bXD : (D'.XD, D'.xd w) ∈ T2 := hT2 ▸ .tail _ (.tail _ (.tail _ (.head _)))
      have bOD : (D'.OD, D'.oOD) ∈ T2 := hT2 ▸ .tail _ (.tail _ (.tail _ (.tail _ (.head _))))
      have bSD : (D'.SD, D'.oSD) ∈ T2 := hT2 ▸ List.mem_append_right _ (.head _)
      have bOO : (D'.OO, D'.oOO) ∈ T2 := hT2 ▸ List.mem_append_right _ (.tail _ (.head _))
      have bpz : ∀ q ∈ pz D'.os, q ∈ T2 := fun q hq => hT2 ▸ List.mem_append_right _ (.tail _ (.tail _ (List.mem_append_left _ (List.mem_append_left _ hq))))
      have bqz : ∀ q ∈ qz w D'.os, q ∈ T2 := fun q hq => hT2 ▸ List.mem_append_right _ (.tail _ (.tail _ (List.mem_append_left _ (List.mem_append_right _ (List.mem_append_left _ hq)))))
      have bwz : ∀ q ∈ wz D'.os, q ∈ T2 := fun q hq => hT2 ▸ List.mem_append_right _ (.tail _ (.tail _ (List.mem_append_left _ (List.mem_append_right _ (List.mem_append_right _ hq)))))
      k_steps
      clear stt
      refine Halt.mk (to_AL rfl (Nat.le_of_ble_eq_true rfl) (Nat.le_of_ble_eq_true rfl) (alike_at (by assumption) (by assumption) (by assumption) (by assumption) bX bXD bSD bOD bOO O'.sd O'.od O'.oo O'.lsd O'.lod O'.loo O'.xLA O'.xTop O'.xLET O'.xLast O'.xFU O'.xSi bpz bqz bwz (Nat.le_trans O'.lo (by omega)) ?_))
      clear F₂ N₃
      intro h₃ tk₃ F₃ N₃
      k_steps
      subst hT2
      exact ForEnd.intro (D'.fst w ++ (D'.snd w ++ [])) F₃ N₃ (List.forall_mem_cons.mpr ⟨List.mem_append_right _ (List.mem_append_right _ (.head _)), fun q hq => by
        rcases List.mem_append.mp hq with hq | hq
        · exact List.mem_append_left _ hq
        · rw [List.append_nil] at hq
          exact List.mem_append_right _ (List.mem_append_left _ hq)⟩) (O'.off4 N₃ (.head _) (hr _ (.head _))) trivial ⟨D', O', y1, y4, y5, rfl⟩
  case done =>
    clear F₂ N₂ R₂ hsm hrs O u1 u2 u4 u5
    intro m₁ nw h₁ tk₁ hJ F₁ N₁
    obtain ⟨D, O, v1, v4, v5, rfl⟩ := hJ
    exact law_end hb0 F₁ N₁ X' T' O (by omega) v1 v4 v5 (fun h' tk' m' F' => h h' tk' m' F')
end

-- needs: own loop lend led0 space
-- nothing here walks: law_tail joins the law's dict and its loop
section
variable {prog : Program} {w : World} {A : Around} {E : Value → Shared → Prop} {s : Shared} {h₀ : Heap} {L : Addr} {m mg mb : Str → Option Value}
  {p : Program} {loose : List Str} {mean : ExcName → Option Value} {Q : Flow → Shared → Prop}
/-- what stands behind the first four lines of the law -/
inductive Ready (prog : Program) (w : World) (h₀ : Heap) (L : Addr) (h : Heap) (m : Str → Option Value) : Prop
  | mk {P S X XD EC RL SD : Addr} {oP oSD : Obj} {vs : List Value} {ns : List Int} {nS kE kR : Nat} {kx : Nat → Tok} {nm : Str} {tn t0 t1 t2 t3 t4 : Tok} {AK : Addr} {TL : List (Addr × Obj)}
    (hP : PoolO S oP) (hi : IntsAre vs ns) (hl : ns.length ≤ 24) (hnm : nm = Str.ofString "application" ∨ nm = Str.ofString "initial") (hS : oSD.IsDictOf (intKind prog w) []) (l2 : (SD == sysModules) = false)
    (a1 : @Ne Nat S P) (a2 : @LT.lt Nat _ P XD) (a3 : @LT.lt Nat _ S XD) (a4 : @LT.lt Nat _ P RL) (a5 : @LT.lt Nat _ S RL) (a6 : @LT.lt Nat _ XD SD) (a7 : @LT.lt Nat _ SD EC) (a8 : @LT.lt Nat _ RL EC)
    (h0 : (P, oP) ∈ TL) (h1 : (S, listOf vs.toArray nS) ∈ TL) (h2 : (X, instObj 220 XD) ∈ TL) (h3 : (XD, xdO w kx (.str nm tn) (.int 0 t0) (.ref SD) .none (.ref AK) .none .none (.ref RL) .none .none .none (.int 0 t1) (.bool false) (.bool false) (.ref EC) (.bool false)) ∈ TL)
    (h5 : (EC, listOf #[.int 0 t2, .int 0 t3, .int 0 t4] kE) ∈ TL) (h6 : (RL, listOf #[] kR) ∈ TL) (h9 : (SD, oSD) ∈ TL)
    (r1 : m (Str.ofString "pool") = some (.ref P)) (r2 : m (Str.ofString "script") = some (.ref S)) (r3 : m (Str.ofString "name") = some (.str nm tn)) (r4 : m (Str.ofString "space") = some (.ref X))
    (F : Fr h₀ L h m) (N : News h₀ L h TL) : Ready prog w h₀ L h m
theorem law_tail {b : List Stmt} {sc : Scope} {fa : Addr} {cd : Value} (hb : partsOf (topFn 29) = some (b, sc)) (R : Ready prog w h₀ L s.heap m) (X₀ : (heap w.params).In h₀) (T : Top p loose mean mg mb h₀)
    (h : ∀ h' tk' m', Fr h₀ L h' m' → Q (.ret (.bool true)) { s with heap := h', toks := tk' }) :
    wpAny (model prog w) ((AL 320).deeper (envOf (Str.ofString "law") sc L fa cd)) (execs (b.drop 4) (envOf (Str.ofString "law") sc L fa cd)) Q (fun _ _ => False) s := by
  obtain ⟨hP, hi, hl, hnm, hS, l2, a1, a2, a3, a4, a5, a6, a7, a8, h0, h1, h2, h3, h5, h6, h9, r1, r2, r3, r4, F, N⟩ := R
  refine own_st hb F N X₀ T r3 ?_
  intro OD SE MA OO oD oOO t5 t6 t7 t8 t9 h₉ tk₈ hD hOO lo1 lo2 lD f5 f6 f7 F₉ N₉
  obtain ⟨D0, hOk, hsub, hlen, e1, e2, e3, e4⟩ := fresh_all (prog := prog) (w := w) hP hi hl hnm hD hS hOO lo1 l2 lo2 a1 a2 a3 a4 a5 a6 a7 a8 (lD _ h5) f5 f6 f7 (.tail _ (.tail _ (.tail _ (.tail _ h0)))) (.tail _ (.tail _ (.tail _ (.tail _ h1)))) (.tail _ (.tail _ (.tail _ (.tail _ h2)))) (.tail _ (.tail _ (.tail _ (.tail _ h3)))) (.tail _ (.tail _ (.tail _ (.head _)))) (.tail _ (.tail _ (.tail _ (.tail _ h5)))) (.tail _ (.tail _ (.tail _ (.tail _ h6)))) (.tail _ (.tail _ (.head _))) (.tail _ (.head _)) (.tail _ (.tail _ (.tail _ (.tail _ h9)))) (.head _)
  refine law_loop (s := { s with heap := h₉, toks := tk₈ }) hb F₉ (newsSub N₉ hsub) X₀ T hOk hlen ?_ ?_ ?_ ?_ (fun h' tk' m' F' => h h' tk' m' F')
  · exact e1 ▸ r1
  · exact e4 ▸ r2
  · exact e2 ▸ r4
  · exact e3 ▸ rfl
end

-- needs: lawt
section
variable {prog : Program} {w : World} {A : Around} {E : Value → Shared → Prop} {s : Shared} {h₀ : Heap} {L : Addr} {m mg mb : Str → Option Value}
  {p : Program} {loose : List Str} {mean : ExcName → Option Value} {Q : Flow → Shared → Prop}
theorem words_lawh_1 : True := by
  k_with_none
  k_with "k_enter" => (refine' code_defM ?k1ₓ ?k2ₓ ?k3ₓ ?k5ₓ ?k6ₓ ?k7ₓ ?k8ₓ ?k9ₓ ?kBₓ ?_ ?c2ₓ ?c3ₓ ?c4ₓ ?c5ₓ; (case k1ₓ => k_asm); (case k2ₓ => k_asm); (case k3ₓ => k_asm); (case k5ₓ => k_asm); (case k6ₓ => k_is); (case k7ₓ => k_is); (case k8ₓ => exact Nat.le_of_ble_eq_true rfl); (case k9ₓ => exact rfl); (case c5ₓ => decide); (case kBₓ => exact locs rfl); (case c2ₓ => exact rfl); (case c3ₓ => exact rfl); (case c4ₓ => exact rfl); k_whole; intro g'ₓ L'ₓ h'ₓ FG'ₓ F'ₓ N'ₓ X'ₓ T'ₓ; (try dsimp only [List.map, List.zip, List.zipWith] at F'ₓ); (try dsimp only); (try k_fold))
  k_with "k_mem" => first | with_reducible assumption | with_reducible exact List.mem_cons_self | (with_reducible apply List.mem_cons_of_mem; k_mem)
  k_with "k_all" => first | assumption | exact allLt_off (by assumption)
  k_with "size_fits" => first | assumption | (simp only [Array.size_push, List.size_toArray, List.length_append, List.length_cons, List.length_nil, vz_length, PySem.sizeLine_eq]; omega)
  k_with "binaryOp Add ref ref" => (k_here; (with_reducible show wpAny _ _ (binaryOp _ (Value.ref _) (Value.ref _)) _ _ _); k_dflt (refine' addL ?Fₓ ?Nₓ ?aₓ ?bₓ ?zₓ ?_; (case Fₓ => k_asm); (case Nₓ => k_asm); (case aₓ => k_mem); (case bₓ => k_mem); (case zₓ => (simp only [List.length_cons, List.length_nil, vz_length, sizeLine_eq]; omega))); intro D'ₓ h'ₓ F'ₓ N'ₓ l1ₓ; (try k_lt l1ₓ); (try k_sweep))
  k_with "k_sub" => ((try simp only [List.cons_append, List.nil_append]); (repeat ((with_reducible refine List.forall_mem_cons.mpr ⟨?_, ?_⟩); (next => (first | ((repeat (first | with_reducible exact List.mem_cons_self | with_reducible apply List.mem_cons_of_mem)); done) | (repeat (first | exact List.mem_cons_self | apply List.mem_cons_of_mem)))))); intro qₓ hqₓ; first | with_reducible exact absurd hqₓ List.not_mem_nil | (repeat (first | with_reducible exact hqₓ | with_reducible exact List.mem_append_left _ hqₓ | with_reducible exact List.mem_append_right _ hqₓ | with_reducible apply List.mem_cons_of_mem)))
  k_with "SrcLP" => (k_here; k_dflt (refine LCp.SrcLP.ledger (by rfl) (by k_asm) (by k_asm) (by k_mem) (by size_fits) ?_); intro g'ₓ; refine Halt.out ?_)
  k_with "CompSrc" => (k_here; k_dflt (refine LCg.CompSrc.ledger (by rfl) (by k_asm) (by k_asm) (by k_mem) (by size_fits) ?_); intro g'ₓ; refine Halt.out ?_)
  k_with "CompSrcT" => (k_here; k_dflt (refine LCt.CompSrcT.ledger (by rfl) (by k_asm) (by k_asm) (by k_mem) (by size_fits) ?_); intro g'ₓ; refine Halt.out ?_)
  k_with "CompEnd" => (refine Halt.out ?_)
  k_with "lsm_bools" => assumption
  k_with "eval Name" => (k_here; k_dflt (refine' nameX_L ?Fₓ ?vₓ ?_ ?aₓ ?bₓ; (case Fₓ => k_asm); (case aₓ => rfl); (case bₓ => rfl); (case vₓ => first | exact rfl | assumption); k_whole))
  k_with "eval Name" => (k_here; (with_reducible show wpAny _ _ (eval (Expr.Name _ _) (envOf _ _ _ _ _)) _ _ _); k_dflt (refine' ld ?k1ₓ ?k2ₓ ?_; (case k1ₓ => k_asm); (case k2ₓ => first | exact rfl | assumption); k_whole))
  k_with "k_ne" => (first | assumption | (apply Ne.symm; assumption) | exact Nat.ne_of_lt (by assumption) | exact Nat.ne_of_gt (by assumption))
  k_with "call builtin:len" => (k_here; (with_reducible show wpAny _ _ (call (Value.builtin "len") [Value.ref _]) _ _ _); k_dflt (refine' lenL ?Nₓ ?aₓ ?zₓ ?_; (case Nₓ => k_asm); (case aₓ => k_mem); (case zₓ => (simp only [vz_length]; omega))); (try simp only [vz_length]))
  k_with "setItem ref int" => (k_here; k_dflt (refine' kda_set (knd := PySem.intKind _ _) ?Fₓ ?Nₓ ?Uₓ ?dₓ (intKind_is _ _ _ _) ?zₓ ?_; (case Fₓ => k_asm); (case Nₓ => k_asm); (case Uₓ => k_updF); (case dₓ => assumption); (case zₓ => assumption)); intro h'ₓ o'ₓ F'ₓ N'ₓ hd'ₓ; (try k_sweep))
  k_with "call ref" => (k_here; (with_reducible show wpAny _ _ (call (Value.ref 238) _) _ _ _); k_dflt (refine' to_AL rfl ?dₓ ?uₓ (draw_at ?Fₓ ?Nₓ ?Xₓ ?Tₓ ?Uₓ ?oₓ ?hPₓ ?hSₓ ?hiₓ ?hlₓ ?psₓ ?hmₓ ?_); (case dₓ => exact Nat.le_of_ble_eq_true rfl); (case uₓ => exact Nat.le_of_ble_eq_true rfl); (case Fₓ => k_asm); (case Nₓ => k_asm); (case Xₓ => k_asm); (case Tₓ => k_asm); (case Uₓ => k_updF); (case oₓ => assumption); (case hPₓ => k_mem); (case hSₓ => k_mem); (case hiₓ => assumption); (case hlₓ => assumption); (case psₓ => k_ne); (case hmₓ => first | decide | assumption)); intro v'ₓ t'ₓ o'ₓ h'ₓ tk'ₓ hv0'ₓ hv1'ₓ oP'ₓ F'ₓ N'ₓ; (try dsimp only at N'ₓ); (try k_sweep))
  k_with "call ref" => (k_here; (with_reducible show wpAny _ _ (call (Value.ref 53) _) _ _ _); k_dflt (refine' to_AL rfl ?dₓ ?uₓ (add_at ?Fₓ ?Nₓ ?Xₓ ?Tₓ ?hLₓ ?hzₓ ?hlenₓ ?_); (case dₓ => exact Nat.le_of_ble_eq_true rfl); (case uₓ => exact Nat.le_of_ble_eq_true rfl); (case Fₓ => k_asm); (case Nₓ => k_asm); (case Xₓ => k_asm); (case Tₓ => k_asm); (case hLₓ => k_mem); (case hzₓ => k_sub); (case hlenₓ => first | assumption | omega)); intro RL' z' rs' k' h' tk' F' N' n1' n2' n3' er' es' el'; (repeat (replace n1' := List.forall_mem_cons.mp n1'; (have hn' := And.left n1'); replace n1' := And.right n1'; try dsimp only at hn')); (repeat (replace n2' := List.forall_mem_cons.mp n2'; (have hn' := And.left n2'); replace n2' := And.right n2'; try dsimp only at hn')); (try dsimp only at n3'); (try k_sweep))
  k_with "call ref" => (k_here; (with_reducible show wpAny _ _ (call (Value.ref 58) _) _ _ _); k_dflt (refine' to_AL rfl ?dₓ ?uₓ (has_at ?Fₓ ?Nₓ ?Xₓ ?Tₓ ?hLₓ ?hzₓ ?hlenₓ ?_); (case dₓ => exact Nat.le_of_ble_eq_true rfl); (case uₓ => exact Nat.le_of_ble_eq_true rfl); (case Fₓ => k_asm); (case Nₓ => k_asm); (case Xₓ => k_asm); (case Tₓ => k_asm); (case hLₓ => k_mem); (case hzₓ => k_sub); (case hlenₓ => first | assumption | omega)); intro h'ₓ tk'ₓ F'ₓ N'ₓ; (try k_sweep))
  k_with "call ref" => (k_here; (with_reducible show wpAny _ _ (call (Value.ref 41) _) _ _ _); k_dflt (refine' to_AL rfl ?dₓ ?uₓ (anyel_at ?Fₓ ?Nₓ ?Xₓ ?Tₓ ?hLₓ ?hzₓ ?oₓ ?hlₓ ?_); (case dₓ => exact Nat.le_of_ble_eq_true rfl); (case uₓ => exact Nat.le_of_ble_eq_true rfl); (case Fₓ => k_asm); (case Nₓ => k_asm); (case Xₓ => k_asm); (case Tₓ => k_asm); (case hLₓ => k_mem); (case hzₓ => (intro qₓ hqₓ; first | (refine mem_in ((‹∀ qₓ ∈ tf _, qₓ ∈ _›) qₓ hqₓ) ?_; first | exact ⟨1, rfl⟩ | exact ⟨2, rfl⟩ | exact ⟨3, rfl⟩ | exact ⟨4, rfl⟩ | exact ⟨5, rfl⟩ | exact ⟨6, rfl⟩ | exact ⟨7, rfl⟩ | exact ⟨8, rfl⟩ | exact ⟨9, rfl⟩ | exact ⟨10, rfl⟩ | exact ⟨11, rfl⟩ | exact ⟨12, rfl⟩ | exact ⟨13, rfl⟩ | exact ⟨14, rfl⟩ | exact ⟨15, rfl⟩) | (repeat (first | with_reducible exact (‹∀ qₓ ∈ tf _, qₓ ∈ _›) qₓ hqₓ | with_reducible apply List.mem_cons_of_mem)))); (case oₓ => assumption); (case hlₓ => assumption)); intro h'ₓ tk'ₓ F'ₓ N'ₓ; (try k_sweep))
  k_with "call ref" => (k_here; (with_reducible show wpAny _ _ (call (Value.ref 46) _) _ _ _); k_dflt (refine' to_AL rfl ?dₓ ?uₓ (anyfl_at ?Fₓ ?Nₓ ?Xₓ ?Tₓ ?hLₓ ?hzₓ ?oₓ ?hlₓ ?_); (case dₓ => exact Nat.le_of_ble_eq_true rfl); (case uₓ => exact Nat.le_of_ble_eq_true rfl); (case Fₓ => k_asm); (case Nₓ => k_asm); (case Xₓ => k_asm); (case Tₓ => k_asm); (case hLₓ => k_mem); (case hzₓ => (intro qₓ hqₓ; first | (refine mem_in ((‹∀ qₓ ∈ tf _, qₓ ∈ _›) qₓ hqₓ) ?_; first | exact ⟨1, rfl⟩ | exact ⟨2, rfl⟩ | exact ⟨3, rfl⟩ | exact ⟨4, rfl⟩ | exact ⟨5, rfl⟩ | exact ⟨6, rfl⟩ | exact ⟨7, rfl⟩ | exact ⟨8, rfl⟩ | exact ⟨9, rfl⟩ | exact ⟨10, rfl⟩ | exact ⟨11, rfl⟩ | exact ⟨12, rfl⟩ | exact ⟨13, rfl⟩ | exact ⟨14, rfl⟩ | exact ⟨15, rfl⟩) | (repeat (first | with_reducible exact (‹∀ qₓ ∈ tf _, qₓ ∈ _›) qₓ hqₓ | with_reducible apply List.mem_cons_of_mem)))); (case oₓ => assumption); (case hlₓ => assumption)); intro h'ₓ tk'ₓ F'ₓ N'ₓ; (try k_sweep))
  k_with "call ref" => (k_here; (with_reducible show wpAny _ _ (call (Value.ref 203) _) _ _ _); k_dflt (refine' to_AL rfl ?dₓ ?uₓ (octs_at ?Fₓ ?Nₓ ?Xₓ ?Tₓ ?h1ₓ ?h2ₓ ?h3ₓ ?h4ₓ ?h5ₓ ?h6ₓ ?h7ₓ ?h8ₓ ?_); (case dₓ => exact Nat.le_of_ble_eq_true rfl); (case uₓ => exact Nat.le_of_ble_eq_true rfl); (case Fₓ => k_asm); (case Nₓ => k_asm); (case Xₓ => k_asm); (case Tₓ => k_asm); (case h1ₓ => k_mem); (case h2ₓ => k_mem); (case h3ₓ => k_mem); (case h4ₓ => assumption); (case h5ₓ => assumption); (case h6ₓ => first | assumption | exact fun q hq => .tail _ ((‹∀ q ∈ pz _, q ∈ _›) q hq) | exact fun q hq => .tail _ (.tail _ ((‹∀ q ∈ pz _, q ∈ _›) q hq))); (case h7ₓ => first | assumption | exact fun q hq => .tail _ ((‹∀ q ∈ qz _ _, q ∈ _›) q hq) | exact fun q hq => .tail _ (.tail _ ((‹∀ q ∈ qz _ _, q ∈ _›) q hq))); (case h8ₓ => assumption)); intro h'ₓ tk'ₓ t'ₓ F'ₓ N'ₓ)
  k_with "call ref" => (k_here; (with_reducible show wpAny _ _ (call (Value.ref 198) _) _ _ _); k_dflt (refine' to_AL rfl ?dₓ ?uₓ (elic_at ?Fₓ ?Nₓ ?Xₓ ?Tₓ ?h1ₓ ?h2ₓ ?h3ₓ ?h4ₓ ?h5ₓ ?h6ₓ ?h7ₓ ?h8ₓ ?_); (case dₓ => exact Nat.le_of_ble_eq_true rfl); (case uₓ => exact Nat.le_of_ble_eq_true rfl); (case Fₓ => k_asm); (case Nₓ => k_asm); (case Xₓ => k_asm); (case Tₓ => k_asm); (case h1ₓ => k_mem); (case h2ₓ => k_mem); (case h3ₓ => k_mem); (case h4ₓ => assumption); (case h5ₓ => assumption); (case h6ₓ => first | assumption | exact fun q hq => .tail _ ((‹∀ q ∈ pz _, q ∈ _›) q hq) | exact fun q hq => .tail _ (.tail _ ((‹∀ q ∈ pz _, q ∈ _›) q hq))); (case h7ₓ => first | assumption | exact fun q hq => .tail _ ((‹∀ q ∈ qz _ _, q ∈ _›) q hq) | exact fun q hq => .tail _ (.tail _ ((‹∀ q ∈ qz _ _, q ∈ _›) q hq))); (case h8ₓ => assumption)); intro h'ₓ tk'ₓ F'ₓ N'ₓ)
  k_with "call ref" => (k_here; (with_reducible show wpAny _ _ (call (Value.ref 210) _) _ _ _); k_dflt (refine' to_AL rfl ?dₓ ?uₓ (rows_at ?Fₓ ?Nₓ ?Xₓ ?Tₓ ?h1ₓ ?h2ₓ ?h3ₓ ?h4ₓ ?h5ₓ ?h6ₓ ?h7ₓ ?h8ₓ ?_); (case dₓ => exact Nat.le_of_ble_eq_true rfl); (case uₓ => exact Nat.le_of_ble_eq_true rfl); (case Fₓ => k_asm); (case Nₓ => k_asm); (case Xₓ => k_asm); (case Tₓ => k_asm); (case h1ₓ => k_mem); (case h2ₓ => k_mem); (case h3ₓ => k_mem); (case h4ₓ => assumption); (case h5ₓ => assumption); (case h6ₓ => first | assumption | exact fun q hq => .tail _ ((‹∀ q ∈ pz _, q ∈ _›) q hq) | exact fun q hq => .tail _ (.tail _ ((‹∀ q ∈ pz _, q ∈ _›) q hq))); (case h7ₓ => first | assumption | exact fun q hq => .tail _ ((‹∀ q ∈ qz _ _, q ∈ _›) q hq) | exact fun q hq => .tail _ (.tail _ ((‹∀ q ∈ qz _ _, q ∈ _›) q hq))); (case h8ₓ => assumption)); intro FD'ₓ oFD'ₓ fs'ₓ h'ₓ tk'ₓ hFD'ₓ lFD'ₓ eFD'ₓ F'ₓ N'ₓ; have N2'ₓ := newsSub N'ₓ rows_sub2)
  k_with "k_lt_off" => skip
  k_with "k_ne" => (first | assumption | (apply Ne.symm; assumption))
  k_with "k_mem" => (first | with_reducible assumption | exact mem_at 0 rfl | exact mem_at 1 rfl | exact mem_at 2 rfl | exact mem_at 3 rfl | exact mem_at 4 rfl | exact mem_at 5 rfl | exact mem_at 6 rfl | exact mem_at 7 rfl | exact mem_at 8 rfl | exact mem_at 9 rfl | exact mem_at 10 rfl | exact mem_at 11 rfl | exact mem_at 12 rfl | exact mem_at 13 rfl | exact mem_at 14 rfl | (refine mem_in (by with_reducible assumption) ?_; first | exact ⟨1, rfl⟩ | exact ⟨2, rfl⟩ | exact ⟨3, rfl⟩ | exact ⟨4, rfl⟩ | exact ⟨5, rfl⟩ | exact ⟨6, rfl⟩ | exact ⟨7, rfl⟩ | exact ⟨8, rfl⟩ | exact ⟨9, rfl⟩ | exact ⟨10, rfl⟩ | exact ⟨11, rfl⟩ | exact ⟨12, rfl⟩ | exact ⟨13, rfl⟩ | exact ⟨14, rfl⟩ | exact ⟨15, rfl⟩))
  k_with "k_updF" => (first | exact updF_at 0 (by assumption) rfl rfl | exact updF_at 1 (by assumption) rfl rfl | exact updF_at 2 (by assumption) rfl rfl | exact updF_at 3 (by assumption) rfl rfl | exact updF_at 4 (by assumption) rfl rfl | exact updF_at 5 (by assumption) rfl rfl | exact updF_at 6 (by assumption) rfl rfl | exact updF_at 7 (by assumption) rfl rfl | exact updF_at 8 (by assumption) rfl rfl | exact updF_at 9 (by assumption) rfl rfl | exact updF_at 10 (by assumption) rfl rfl | exact updF_at 11 (by assumption) rfl rfl | exact updF_at 12 (by assumption) rfl rfl)
  k_with "k_upd" => (first | exact upd_at 0 (by assumption) rfl rfl | exact upd_at 1 (by assumption) rfl rfl | exact upd_at 2 (by assumption) rfl rfl | exact upd_at 3 (by assumption) rfl rfl | exact upd_at 4 (by assumption) rfl rfl | exact upd_at 5 (by assumption) rfl rfl | exact upd_at 6 (by assumption) rfl rfl | exact upd_at 7 (by assumption) rfl rfl | exact upd_at 8 (by assumption) rfl rfl | exact upd_at 9 (by assumption) rfl rfl | exact upd_at 10 (by assumption) rfl rfl | exact upd_at 11 (by assumption) rfl rfl | exact upd_at 12 (by assumption) rfl rfl)
  k_with "k_sweep" => (rename News _ _ _ _ => N9ₓ; first | (have hS9ₓ := sep_have N9ₓ (by with_reducible assumption); clear hS9ₓ) | (refine let_new2 N9ₓ (by assumption) (by assumption) (by assumption) ?_; clear N9ₓ; intro l9ₓ N9ₓ S9ₓ) | (refine let_new N9ₓ (by assumption) (by assumption) ?_; clear N9ₓ; intro l9ₓ N9ₓ S9ₓ) | (refine let_set N9ₓ (by assumption) rfl ?_; clear N9ₓ; intro l9ₓ N9ₓ S9ₓ))
  k_with "k_sub" => ((repeat ((with_reducible refine List.forall_mem_cons.mpr ⟨?_, ?_⟩); (next => k_mem))); intro qₓ hqₓ; first | with_reducible exact absurd hqₓ List.not_mem_nil | with_reducible exact hqₓ | exact mem_off 1 rfl hqₓ | exact mem_off 2 rfl hqₓ | exact mem_off 3 rfl hqₓ | exact mem_off 4 rfl hqₓ | exact mem_off 5 rfl hqₓ | exact mem_off 6 rfl hqₓ | exact mem_off 7 rfl hqₓ | exact mem_off 8 rfl hqₓ | exact mem_off 9 rfl hqₓ | exact mem_off 10 rfl hqₓ | exact mem_off 11 rfl hqₓ | exact mem_off 12 rfl hqₓ | exact mem_off 13 rfl hqₓ | exact mem_off 14 rfl hqₓ | exact mem_off 15 rfl hqₓ)
  k_with "exec Assign cons ListComp" => (refine Halt.out ?_)
  k_with "eval ListComp" => (refine Halt.out ?_)
  k_with "pyIter_ref" => (refine Halt.out ?_)
  k_with "exec For" => (refine Halt.out ?_)
  k_with "call builtin:sum" => (refine Halt.out ?_)
  k_with "call ref" => ((have hst'ₓ : Stop := by assumption); clear hst'ₓ; refine Halt.out ?_)
  k_with "exec Assign" => ((have hst'ₓ : Stop := by assumption); clear hst'ₓ; refine Halt.out ?_)
  k_with "subscriptTail" => ((have hst'ₓ : Halt True := by assumption); clear hst'ₓ; refine Halt.out ?_)
  k_with "Exists" => ((have hst'ₓ : Halt True := by assumption); clear hst'ₓ; refine Halt.out ?_)
  k_with "exec Assign cons Dict" => ((have hst'ₓ : Stop := by assumption); clear hst'ₓ; refine Halt.out ?_)
  k_with "execs cons" => ((have hst'ₓ : Halt True := by assumption); clear hst'ₓ; refine Halt.out ?_)
  k_with "exec If" => ((have hst'ₓ : Stop := by assumption); clear hst'ₓ; refine Halt.out ?_)
  trivial
theorem law_head {b : List Stmt} {sc : Scope} {fa : Addr} {cd : Value} {a : Addr} {vs : List Value} {ns : List Int} (hb : partsOf (topFn 29) = some (b, sc))
    (F : Fr h₀ L s.heap (fun x => List.lookup x [(Str.ofString "script", Value.ref a)].reverse)) (N : News h₀ L s.heap []) (X₀ : (heap w.params).In h₀) (T : Top p loose mean mg mb h₀)
    (hl : h₀.IsList a vs.toArray) (hi : IntsAre vs ns) (hn : ns.length ≤ 63)
    (hk : ∀ h' tk' m', Ready prog w h₀ L h' m' → wpAny (model prog w) ((AL 320).deeper (envOf (Str.ofString "law") sc L fa cd)) (execs (b.drop 4) (envOf (Str.ofString "law") sc L fa cd)) Q (fun _ _ => False) { s with heap := h', toks := tk' }) :
    wpAny (model prog w) ((AL 320).deeper (envOf (Str.ofString "law") sc L fa cd)) (execs b (envOf (Str.ofString "law") sc L fa cd)) Q (fun _ _ => False) s := by
  obtain ⟨b4, hb4⟩ : ∃ x, x = b.take 4 := ⟨_, rfl⟩
  have e : b = b4 ++ b.drop 4 := by rw [hb4, List.take_append_drop]
  generalize b.drop 4 = rest at e hk
  suffices goes : wpAny (model prog w) ((AL 320).deeper (envOf (Str.ofString "law") sc L fa cd)) (execs (b4 ++ rest) (envOf (Str.ofString "law") sc L fa cd)) Q (fun _ _ => False) s by rw [e]; exact goes
  clear e
  have hkk : Hid _ := Hid.mk hk
  clear hk
  delta topFn PySem.Challenge.pw_nz0346_01 at hb
  simp only [partsOf, nthS, Option.some.injEq, Prod.mk.injEq] at hb
  obtain ⟨rfl, rfl⟩ := hb
  simp only [List.take] at hb4
  subst hb4
  simp only [List.cons_append, List.nil_append]
  have X' := X₀
  have T' := T
  clear X₀ T
  k_unmd
  (try k_fold)
  k_steps
  refine Halt.mk (LCg.Assign_ListComp_U (h₀ := h₀) (L := L) (cl := []) F rfl (by with_unfolding_all rfl) rfl (by decide) rfl (by decide) rfl rfl rfl ?_)
  k_steps
  rename List Value => ws
  rename Addr => SL
  obtain ⟨ms, hW, hml⟩ : ∃ ms, IntsAre ws ms ∧ ms.length ≤ 24 := ⟨_, by assumption, by rw [List.length_take]; omega⟩
  refine Halt.mk (invU (fun i ys nw => nw = [(SL, listOf ws.toArray 0)] ∧ IntsAre ys (ms.take i)) ⟨rfl, .nil⟩ ?turn ?done)
  case turn =>
    intro i ys nw v I oI C oC DL m₂ h9 tk E' hi2 hJ hv hC hx F₅ N₅ off ne
    obtain ⟨rfl, hys⟩ := hJ
    have hj : i < ms.length := by rw [← hW.length]; simpa using hi2
    obtain ⟨t8, hv8⟩ := hW.get i (ms[i]) (List.getElem?_eq_getElem hj)
    obtain rfl : v = .int (ms[i]) t8 := by
      have h1 : ws[i]? = some v := by simpa using hv
      rw [hv8] at h1
      exact (Option.some.inj h1).symm
    have hmn : ms[i]? = some (ms[i]) := List.getElem?_eq_getElem hj
    generalize ms[i] = one at hmn hx
    clear hv hv8 hj
    k_unmd
    (try k_fold)
    k_steps
    refine ⟨LCg.CompEnd.intro (by assumption) (by assumption) [(SL, listOf ws.toArray 0)] (fun q hq => hq) off (.inr ⟨_, .head _, rfl, _, rfl⟩) ⟨rfl, ?_⟩⟩
    rw [take_one hmn]
    exact hys.append (.cons _ _ .nil)
  case done =>
    intro ys nw hJ
    obtain ⟨rfl, hys⟩ := hJ
    intro S h₁ tk₁ F₁ N₁ o1
    rw [List.size_toArray, hW.length, List.take_length] at hys
    have N₂ := newsSub (news' := [(S, listOf ys.toArray ys.length)]) N₁ (List.forall_mem_cons.mpr ⟨.head _, fun _ h => nomatch h⟩)
    clear N₁ o1 hi hl hn hW
    k_unmd
    (try k_fold)
    k_steps
    refine Halt.mk (sumL F₁ N₂ rfl (.head _) hys ?_)
    clear F₁ N₂
    intro h₂ tk₂ t₂ F₂ N₂
    have st : Stop := ⟨⟩
    k_steps
    rename News h₀ L _ _ => N₃
    rename Fr h₀ L _ _ => F₃
    have ln : ms.length ≤ 63 := by omega
    obtain ⟨P, oP, nSP, hP, N₃, F₃⟩ : ∃ P oP, @Ne Nat S P ∧ PoolO S oP ∧ News h₀ L _ [(P, oP), (S, listOf ys.toArray ys.length)] ∧ Fr h₀ L _ (fun y => if y = Str.ofString "pool" then some (.ref P) else if y = Str.ofString "script" then some (.ref S) else List.lookup y [(Str.ofString "script", Value.ref a)].reverse) :=
      ⟨_, _, by exact Nat.ne_of_lt ((by assumption : ∀ p ∈ [(S, listOf ys.toArray ys.length)], @LT.lt Nat _ p.1 _) _ (.head _)), ⟨ms.sum.fmod 2147483647, _, 0, _, 0, rfl, Int.fmod_nonneg_of_pos _ (by decide), Int.fmod_lt_of_pos _ (by decide), Int.le_refl _⟩, N₃, F₃⟩
    refine Halt.mk (mergeS (fun m' nw => ∃ nm t oP', (nm = Str.ofString "application" ∨ nm = Str.ofString "initial") ∧ PoolO S oP' ∧ m' (Str.ofString "pool") = some (.ref P) ∧ m' (Str.ofString "script") = some (.ref S) ∧ m' (Str.ofString "name") = some (.str nm t) ∧ nw = [(P, oP'), (S, listOf ys.toArray ys.length)]) F₃ N₃ ?g1 ?g2)
    case g1 =>
      clear st
      have stt : Halt True := ⟨trivial⟩
      refine let_on (n := 1) N₃ (Sep.cons (List.forall_mem_cons.mpr ⟨nSP, fun _ h => nomatch h⟩) Sep.zero) ?_
      clear N₃
      intro l9 N9 S9
      k_steps
      clear stt
      rename Int => v
      rename PoolO S _ => hP2
      rename Obj => oP3
      rename News h₀ L _ _ => N₄
      have hv3 : v = 0 ∨ v = 1 ∨ v = 2 := by omega
      rcases hv3 with rfl | rfl | rfl
      · refine Halt.mk (list_item (j := 0) N₄ (mem_at 0 rfl) rfl (by decide) rfl ?_)
        k_steps
        exact MidS.intro [(P, oP3), (S, listOf ys.toArray ys.length)] (by assumption) (by assumption) (List.forall_mem_cons.mpr ⟨mem_at 1 rfl, List.forall_mem_cons.mpr ⟨mem_at 2 rfl, fun _ h => nomatch h⟩⟩) ⟨_, _, _, .inl rfl, hP2, rfl, rfl, rfl, rfl⟩
      · refine Halt.mk (list_item (j := 1) N₄ (mem_at 0 rfl) rfl (by decide) rfl ?_)
        k_steps
        exact MidS.intro [(P, oP3), (S, listOf ys.toArray ys.length)] (by assumption) (by assumption) (List.forall_mem_cons.mpr ⟨mem_at 1 rfl, List.forall_mem_cons.mpr ⟨mem_at 2 rfl, fun _ h => nomatch h⟩⟩) ⟨_, _, _, .inl rfl, hP2, rfl, rfl, rfl, rfl⟩
      · refine Halt.mk (list_item (j := 2) N₄ (mem_at 0 rfl) rfl (by decide) rfl ?_)
        k_steps
        exact MidS.intro [(P, oP3), (S, listOf ys.toArray ys.length)] (by assumption) (by assumption) (List.forall_mem_cons.mpr ⟨mem_at 1 rfl, List.forall_mem_cons.mpr ⟨mem_at 2 rfl, fun _ h => nomatch h⟩⟩) ⟨_, _, _, .inr rfl, hP2, rfl, rfl, rfl, rfl⟩
    case g2 =>
      clear F₃ N₃ st
      intro h₃ tk₃ m₃ nw F₃ N₃ hJ
      obtain ⟨nm, tn, oP2, hnm, hP2, q1, q2, q3, rfl⟩ := hJ
      have st : Stop := ⟨⟩
      refine wpAny_execs_cons (wpAny_Assign_Name ?_ (by with_unfolding_all rfl))
      k_steps
      refine Halt.mk (to_AL rfl (Nat.le_of_ble_eq_true rfl) (Nat.le_of_ble_eq_true rfl) (space_at F₃ (by assumption) (by assumption) N₃ ?_))
      clear F₃ N₃
      intro X XD SD AK RL EC oSD kx kR kE t0 t1 t2 t3 t4 h₄ tk₄ hSD loS F₄ N₄ aT aX aS aR aL
      have f1 := aT (P, oP2) (.head _)
      have f2 := aT (S, listOf ys.toArray ys.length) (.tail _ (.head _))
      have f3 := aL (P, oP2) (.head _)
      have f4 := aL (S, listOf ys.toArray ys.length) (.tail _ (.head _))
      clear aT aL
      obtain ⟨TL, hTL, N₄⟩ := named N₄
      have gX : (X, instObj 220 XD) ∈ TL := hTL ▸ .head _
      have gXD : (XD, xdO w kx (.str nm tn) (.int 0 t0) (.ref SD) .none (.ref AK) .none .none (.ref RL) .none .none .none (.int 0 t1) (.bool false) (.bool false) (.ref EC) (.bool false)) ∈ TL := hTL ▸ .tail _ (.head _)
      have gSD : (SD, oSD) ∈ TL := hTL ▸ .tail _ (.tail _ (.head _))
      have gEC : (EC, listOf #[.int 0 t2, .int 0 t3, .int 0 t4] kE) ∈ TL := hTL ▸ .tail _ (.tail _ (.tail _ (.head _)))
      have gRL : (RL, listOf #[] kR) ∈ TL := hTL ▸ .tail _ (.tail _ (.tail _ (.tail _ (.head _))))
      have gP : (P, oP2) ∈ TL := hTL ▸ .tail _ (.tail _ (.tail _ (.tail _ (.tail _ (.head _)))))
      have gS : (S, listOf ys.toArray ys.length) ∈ TL := hTL ▸ .tail _ (.tail _ (.tail _ (.tail _ (.tail _ (.tail _ (.head _))))))
      clear hTL
      refine wpAny_storeName_local rfl F₄.ns (fun h₅ hn₅ hs₅ => ?_) rfl
      have F₅ := F₄.set hn₅ hs₅
      have N₅ := N₄.set hs₅
      clear F₄ N₄ hn₅ hs₅
      obtain ⟨m₄, hm₄, F₆⟩ : ∃ m₄, m₄ = _ ∧ Fr h₀ L h₅ m₄ := ⟨_, rfl, F₅⟩
      have r1 : m₄ (Str.ofString "pool") = some (.ref P) := hm₄ ▸ q1
      have r2 : m₄ (Str.ofString "script") = some (.ref S) := hm₄ ▸ q2
      have r3 : m₄ (Str.ofString "name") = some (.str nm tn) := hm₄ ▸ q3
      have r4 : m₄ (Str.ofString "space") = some (.ref X) := hm₄ ▸ rfl
      clear F₅ hm₄ q1 q2 q3
      dsimp only
      obtain ⟨hk⟩ := hkk
      exact hk h₅ _ m₄ (Ready.mk hP2 hys hml hnm hSD loS nSP f1 f2 f3 f4 aX aS aR gP gS gX gXD gEC gRL gSD r1 r2 r3 r4 F₆ N₅)
theorem law_body {b : List Stmt} {sc : Scope} {fa : Addr} {cd : Value} {a : Addr} {vs : List Value} {ns : List Int} (hb : partsOf (topFn 29) = some (b, sc))
    (F : Fr h₀ L s.heap (fun x => List.lookup x [(Str.ofString "script", Value.ref a)].reverse)) (N : News h₀ L s.heap []) (X₀ : (heap w.params).In h₀) (T : Top p loose mean mg mb h₀)
    (hl : h₀.IsList a vs.toArray) (hi : IntsAre vs ns) (hn : ns.length ≤ 63)
    (h : ∀ h' tk' m', Fr h₀ L h' m' → Q (.ret (.bool true)) { s with heap := h', toks := tk' }) :
    wpAny (model prog w) ((AL 320).deeper (envOf (Str.ofString "law") sc L fa cd)) (execs b (envOf (Str.ofString "law") sc L fa cd)) Q (fun _ _ => False) s :=
  law_head hb F N X₀ T hl hi hn (fun h' tk' m' R => law_tail (s := { s with heap := h', toks := tk' }) hb R X₀ T (fun h₂ tk₂ m₂ F₂ => h h₂ tk₂ m₂ F₂))
end

-- needs: left lawh
theorem words_top_1 : True := by
  k_with_none
  k_with "k_enter" => (refine' code_defM ?k1ₓ ?k2ₓ ?k3ₓ ?k5ₓ ?k6ₓ ?k7ₓ ?k8ₓ ?k9ₓ ?kBₓ ?_ ?c2ₓ ?c3ₓ ?c4ₓ ?c5ₓ; (case k1ₓ => k_asm); (case k2ₓ => k_asm); (case k3ₓ => k_asm); (case k5ₓ => k_asm); (case k6ₓ => k_is); (case k7ₓ => k_is); (case k8ₓ => exact Nat.le_of_ble_eq_true rfl); (case k9ₓ => exact rfl); (case c5ₓ => decide); (case kBₓ => exact locs rfl); (case c2ₓ => exact rfl); (case c3ₓ => exact rfl); (case c4ₓ => exact rfl); k_whole; intro g'ₓ L'ₓ h'ₓ FG'ₓ F'ₓ N'ₓ X'ₓ T'ₓ; (try dsimp only [List.map, List.zip, List.zipWith] at F'ₓ); (try dsimp only); (try k_fold))
  k_with "k_mem" => first | with_reducible assumption | with_reducible exact List.mem_cons_self | (with_reducible apply List.mem_cons_of_mem; k_mem)
  k_with "k_all" => first | assumption | exact allLt_off (by assumption)
  k_with "size_fits" => first | assumption | (simp only [Array.size_push, List.size_toArray, List.length_append, List.length_cons, List.length_nil, vz_length, PySem.sizeLine_eq]; omega)
  k_with "binaryOp Add ref ref" => (k_here; (with_reducible show wpAny _ _ (binaryOp _ (Value.ref _) (Value.ref _)) _ _ _); k_dflt (refine' addL ?Fₓ ?Nₓ ?aₓ ?bₓ ?zₓ ?_; (case Fₓ => k_asm); (case Nₓ => k_asm); (case aₓ => k_mem); (case bₓ => k_mem); (case zₓ => (simp only [List.length_cons, List.length_nil, vz_length, sizeLine_eq]; omega))); intro D'ₓ h'ₓ F'ₓ N'ₓ l1ₓ; (try k_lt l1ₓ); (try k_sweep))
  k_with "k_sub" => ((try simp only [List.cons_append, List.nil_append]); (repeat ((with_reducible refine List.forall_mem_cons.mpr ⟨?_, ?_⟩); (next => (first | ((repeat (first | with_reducible exact List.mem_cons_self | with_reducible apply List.mem_cons_of_mem)); done) | (repeat (first | exact List.mem_cons_self | apply List.mem_cons_of_mem)))))); intro qₓ hqₓ; first | with_reducible exact absurd hqₓ List.not_mem_nil | (repeat (first | with_reducible exact hqₓ | with_reducible exact List.mem_append_left _ hqₓ | with_reducible exact List.mem_append_right _ hqₓ | with_reducible apply List.mem_cons_of_mem)))
  k_with "SrcLP" => (k_here; k_dflt (refine LCp.SrcLP.ledger (by rfl) (by k_asm) (by k_asm) (by k_mem) (by size_fits) ?_); intro g'ₓ; refine Halt.out ?_)
  k_with "CompSrc" => (k_here; k_dflt (refine LCg.CompSrc.ledger (by rfl) (by k_asm) (by k_asm) (by k_mem) (by size_fits) ?_); intro g'ₓ; refine Halt.out ?_)
  k_with "CompSrcT" => (k_here; k_dflt (refine LCt.CompSrcT.ledger (by rfl) (by k_asm) (by k_asm) (by k_mem) (by size_fits) ?_); intro g'ₓ; refine Halt.out ?_)
  k_with "CompEnd" => (refine Halt.out ?_)
  k_with "lsm_bools" => assumption
  k_with "eval Name" => (k_here; k_dflt (refine' nameX_L ?Fₓ ?vₓ ?_ ?aₓ ?bₓ; (case Fₓ => k_asm); (case aₓ => rfl); (case bₓ => rfl); (case vₓ => first | exact rfl | assumption); k_whole))
  k_with "eval Name" => (k_here; (with_reducible show wpAny _ _ (eval (Expr.Name _ _) (envOf _ _ _ _ _)) _ _ _); k_dflt (refine' ld ?k1ₓ ?k2ₓ ?_; (case k1ₓ => k_asm); (case k2ₓ => first | exact rfl | assumption); k_whole))
  k_with "k_ne" => (first | assumption | (apply Ne.symm; assumption) | exact Nat.ne_of_lt (by assumption) | exact Nat.ne_of_gt (by assumption))
  k_with "call builtin:len" => (k_here; (with_reducible show wpAny _ _ (call (Value.builtin "len") [Value.ref _]) _ _ _); k_dflt (refine' lenL ?Nₓ ?aₓ ?zₓ ?_; (case Nₓ => k_asm); (case aₓ => k_mem); (case zₓ => (simp only [vz_length]; omega))); (try simp only [vz_length]))
  k_with "setItem ref int" => (k_here; k_dflt (refine' kda_set (knd := PySem.intKind _ _) ?Fₓ ?Nₓ ?Uₓ ?dₓ (intKind_is _ _ _ _) ?zₓ ?_; (case Fₓ => k_asm); (case Nₓ => k_asm); (case Uₓ => k_updF); (case dₓ => assumption); (case zₓ => assumption)); intro h'ₓ o'ₓ F'ₓ N'ₓ hd'ₓ; (try k_sweep))
  k_with "call ref" => (k_here; (with_reducible show wpAny _ _ (call (Value.ref 238) _) _ _ _); k_dflt (refine' to_AL rfl ?dₓ ?uₓ (draw_at ?Fₓ ?Nₓ ?Xₓ ?Tₓ ?Uₓ ?oₓ ?hPₓ ?hSₓ ?hiₓ ?hlₓ ?psₓ ?hmₓ ?_); (case dₓ => exact Nat.le_of_ble_eq_true rfl); (case uₓ => exact Nat.le_of_ble_eq_true rfl); (case Fₓ => k_asm); (case Nₓ => k_asm); (case Xₓ => k_asm); (case Tₓ => k_asm); (case Uₓ => k_updF); (case oₓ => assumption); (case hPₓ => k_mem); (case hSₓ => k_mem); (case hiₓ => assumption); (case hlₓ => assumption); (case psₓ => k_ne); (case hmₓ => first | decide | assumption)); intro v'ₓ t'ₓ o'ₓ h'ₓ tk'ₓ hv0'ₓ hv1'ₓ oP'ₓ F'ₓ N'ₓ; (try dsimp only at N'ₓ); (try k_sweep))
  k_with "call ref" => (k_here; (with_reducible show wpAny _ _ (call (Value.ref 53) _) _ _ _); k_dflt (refine' to_AL rfl ?dₓ ?uₓ (add_at ?Fₓ ?Nₓ ?Xₓ ?Tₓ ?hLₓ ?hzₓ ?hlenₓ ?_); (case dₓ => exact Nat.le_of_ble_eq_true rfl); (case uₓ => exact Nat.le_of_ble_eq_true rfl); (case Fₓ => k_asm); (case Nₓ => k_asm); (case Xₓ => k_asm); (case Tₓ => k_asm); (case hLₓ => k_mem); (case hzₓ => k_sub); (case hlenₓ => first | assumption | omega)); intro RL' z' rs' k' h' tk' F' N' n1' n2' n3' er' es' el'; (repeat (replace n1' := List.forall_mem_cons.mp n1'; (have hn' := And.left n1'); replace n1' := And.right n1'; try dsimp only at hn')); (repeat (replace n2' := List.forall_mem_cons.mp n2'; (have hn' := And.left n2'); replace n2' := And.right n2'; try dsimp only at hn')); (try dsimp only at n3'); (try k_sweep))
  k_with "call ref" => (k_here; (with_reducible show wpAny _ _ (call (Value.ref 58) _) _ _ _); k_dflt (refine' to_AL rfl ?dₓ ?uₓ (has_at ?Fₓ ?Nₓ ?Xₓ ?Tₓ ?hLₓ ?hzₓ ?hlenₓ ?_); (case dₓ => exact Nat.le_of_ble_eq_true rfl); (case uₓ => exact Nat.le_of_ble_eq_true rfl); (case Fₓ => k_asm); (case Nₓ => k_asm); (case Xₓ => k_asm); (case Tₓ => k_asm); (case hLₓ => k_mem); (case hzₓ => k_sub); (case hlenₓ => first | assumption | omega)); intro h'ₓ tk'ₓ F'ₓ N'ₓ; (try k_sweep))
  k_with "call ref" => (k_here; (with_reducible show wpAny _ _ (call (Value.ref 41) _) _ _ _); k_dflt (refine' to_AL rfl ?dₓ ?uₓ (anyel_at ?Fₓ ?Nₓ ?Xₓ ?Tₓ ?hLₓ ?hzₓ ?oₓ ?hlₓ ?_); (case dₓ => exact Nat.le_of_ble_eq_true rfl); (case uₓ => exact Nat.le_of_ble_eq_true rfl); (case Fₓ => k_asm); (case Nₓ => k_asm); (case Xₓ => k_asm); (case Tₓ => k_asm); (case hLₓ => k_mem); (case hzₓ => (intro qₓ hqₓ; first | (refine mem_in ((‹∀ qₓ ∈ tf _, qₓ ∈ _›) qₓ hqₓ) ?_; first | exact ⟨1, rfl⟩ | exact ⟨2, rfl⟩ | exact ⟨3, rfl⟩ | exact ⟨4, rfl⟩ | exact ⟨5, rfl⟩ | exact ⟨6, rfl⟩ | exact ⟨7, rfl⟩ | exact ⟨8, rfl⟩ | exact ⟨9, rfl⟩ | exact ⟨10, rfl⟩ | exact ⟨11, rfl⟩ | exact ⟨12, rfl⟩ | exact ⟨13, rfl⟩ | exact ⟨14, rfl⟩ | exact ⟨15, rfl⟩) | (repeat (first | with_reducible exact (‹∀ qₓ ∈ tf _, qₓ ∈ _›) qₓ hqₓ | with_reducible apply List.mem_cons_of_mem)))); (case oₓ => assumption); (case hlₓ => assumption)); intro h'ₓ tk'ₓ F'ₓ N'ₓ; (try k_sweep))
  k_with "call ref" => (k_here; (with_reducible show wpAny _ _ (call (Value.ref 46) _) _ _ _); k_dflt (refine' to_AL rfl ?dₓ ?uₓ (anyfl_at ?Fₓ ?Nₓ ?Xₓ ?Tₓ ?hLₓ ?hzₓ ?oₓ ?hlₓ ?_); (case dₓ => exact Nat.le_of_ble_eq_true rfl); (case uₓ => exact Nat.le_of_ble_eq_true rfl); (case Fₓ => k_asm); (case Nₓ => k_asm); (case Xₓ => k_asm); (case Tₓ => k_asm); (case hLₓ => k_mem); (case hzₓ => (intro qₓ hqₓ; first | (refine mem_in ((‹∀ qₓ ∈ tf _, qₓ ∈ _›) qₓ hqₓ) ?_; first | exact ⟨1, rfl⟩ | exact ⟨2, rfl⟩ | exact ⟨3, rfl⟩ | exact ⟨4, rfl⟩ | exact ⟨5, rfl⟩ | exact ⟨6, rfl⟩ | exact ⟨7, rfl⟩ | exact ⟨8, rfl⟩ | exact ⟨9, rfl⟩ | exact ⟨10, rfl⟩ | exact ⟨11, rfl⟩ | exact ⟨12, rfl⟩ | exact ⟨13, rfl⟩ | exact ⟨14, rfl⟩ | exact ⟨15, rfl⟩) | (repeat (first | with_reducible exact (‹∀ qₓ ∈ tf _, qₓ ∈ _›) qₓ hqₓ | with_reducible apply List.mem_cons_of_mem)))); (case oₓ => assumption); (case hlₓ => assumption)); intro h'ₓ tk'ₓ F'ₓ N'ₓ; (try k_sweep))
  k_with "call ref" => (k_here; (with_reducible show wpAny _ _ (call (Value.ref 203) _) _ _ _); k_dflt (refine' to_AL rfl ?dₓ ?uₓ (octs_at ?Fₓ ?Nₓ ?Xₓ ?Tₓ ?h1ₓ ?h2ₓ ?h3ₓ ?h4ₓ ?h5ₓ ?h6ₓ ?h7ₓ ?h8ₓ ?_); (case dₓ => exact Nat.le_of_ble_eq_true rfl); (case uₓ => exact Nat.le_of_ble_eq_true rfl); (case Fₓ => k_asm); (case Nₓ => k_asm); (case Xₓ => k_asm); (case Tₓ => k_asm); (case h1ₓ => k_mem); (case h2ₓ => k_mem); (case h3ₓ => k_mem); (case h4ₓ => assumption); (case h5ₓ => assumption); (case h6ₓ => first | assumption | exact fun q hq => .tail _ ((‹∀ q ∈ pz _, q ∈ _›) q hq) | exact fun q hq => .tail _ (.tail _ ((‹∀ q ∈ pz _, q ∈ _›) q hq))); (case h7ₓ => first | assumption | exact fun q hq => .tail _ ((‹∀ q ∈ qz _ _, q ∈ _›) q hq) | exact fun q hq => .tail _ (.tail _ ((‹∀ q ∈ qz _ _, q ∈ _›) q hq))); (case h8ₓ => assumption)); intro h'ₓ tk'ₓ t'ₓ F'ₓ N'ₓ)
  k_with "call ref" => (k_here; (with_reducible show wpAny _ _ (call (Value.ref 198) _) _ _ _); k_dflt (refine' to_AL rfl ?dₓ ?uₓ (elic_at ?Fₓ ?Nₓ ?Xₓ ?Tₓ ?h1ₓ ?h2ₓ ?h3ₓ ?h4ₓ ?h5ₓ ?h6ₓ ?h7ₓ ?h8ₓ ?_); (case dₓ => exact Nat.le_of_ble_eq_true rfl); (case uₓ => exact Nat.le_of_ble_eq_true rfl); (case Fₓ => k_asm); (case Nₓ => k_asm); (case Xₓ => k_asm); (case Tₓ => k_asm); (case h1ₓ => k_mem); (case h2ₓ => k_mem); (case h3ₓ => k_mem); (case h4ₓ => assumption); (case h5ₓ => assumption); (case h6ₓ => first | assumption | exact fun q hq => .tail _ ((‹∀ q ∈ pz _, q ∈ _›) q hq) | exact fun q hq => .tail _ (.tail _ ((‹∀ q ∈ pz _, q ∈ _›) q hq))); (case h7ₓ => first | assumption | exact fun q hq => .tail _ ((‹∀ q ∈ qz _ _, q ∈ _›) q hq) | exact fun q hq => .tail _ (.tail _ ((‹∀ q ∈ qz _ _, q ∈ _›) q hq))); (case h8ₓ => assumption)); intro h'ₓ tk'ₓ F'ₓ N'ₓ)
  k_with "call ref" => (k_here; (with_reducible show wpAny _ _ (call (Value.ref 210) _) _ _ _); k_dflt (refine' to_AL rfl ?dₓ ?uₓ (rows_at ?Fₓ ?Nₓ ?Xₓ ?Tₓ ?h1ₓ ?h2ₓ ?h3ₓ ?h4ₓ ?h5ₓ ?h6ₓ ?h7ₓ ?h8ₓ ?_); (case dₓ => exact Nat.le_of_ble_eq_true rfl); (case uₓ => exact Nat.le_of_ble_eq_true rfl); (case Fₓ => k_asm); (case Nₓ => k_asm); (case Xₓ => k_asm); (case Tₓ => k_asm); (case h1ₓ => k_mem); (case h2ₓ => k_mem); (case h3ₓ => k_mem); (case h4ₓ => assumption); (case h5ₓ => assumption); (case h6ₓ => first | assumption | exact fun q hq => .tail _ ((‹∀ q ∈ pz _, q ∈ _›) q hq) | exact fun q hq => .tail _ (.tail _ ((‹∀ q ∈ pz _, q ∈ _›) q hq))); (case h7ₓ => first | assumption | exact fun q hq => .tail _ ((‹∀ q ∈ qz _ _, q ∈ _›) q hq) | exact fun q hq => .tail _ (.tail _ ((‹∀ q ∈ qz _ _, q ∈ _›) q hq))); (case h8ₓ => assumption)); intro FD'ₓ oFD'ₓ fs'ₓ h'ₓ tk'ₓ hFD'ₓ lFD'ₓ eFD'ₓ F'ₓ N'ₓ; have N2'ₓ := newsSub N'ₓ rows_sub2)
  trivial
theorem to_deep {α : Type} {M : Model} {env : Env} {t : Sem α} {Q : α → Shared → Prop} {E : Value → Shared → Prop} {s : Shared} (h : wpAny M ((AL 320).deeper env) t Q (fun _ _ => False) s) : wpAny M (callerA.deeper env) t Q E s :=
  wpAny_mono (E := fun _ _ => False) (fun Γ p hΓ => h Γ p ⟨hΓ.1, Nat.le_trans hΓ.2.1 (Nat.le_of_ble_eq_true rfl), (fun _ hl => nomatch hl), (fun _ hl => nomatch hl), Nat.le_trans hΓ.2.2.2.2 (Nat.le_of_ble_eq_true rfl)⟩) (fun _ _ x => x) fun _ _ x => x.elim
theorem top1 : PySem.Challenge.rw_nz0346_01.Holds := by
  w_on
  o_law
  refine holds_open (q := view) (loose := []) (Xt := fun s => xlAt view [] s && recOk (RowW.records PySem.Challenge.rw_nz0346_01.row.toRowW) s) (XP := XL view []) (Yf := Hook.obs HK) (Ya := Hook.val HK) (YP := Hook.says HK) (N := 3358) left0 (Hook.of HK) (Hook.keeps HK) (fun s e => xl_of s (Bool.and_eq_true_iff.mp e).1) XL.keeps (by rfl) (by rfl) (by rfl) (fun s e => recFacts_of (Bool.and_eq_true_iff.mp e).2) (by rfl) (by first | assumption | decide +kernel) (by decide +kernel) ⟨rfl, rfl, rfl, rfl, rfl, by decide +kernel⟩ ?hw ?hc
  case hw => w_witness2
  k_go0
  refine to_deep (law_body rfl (by assumption) (by assumption) (by assumption) (by assumption) (by assumption) (by assumption) (by omega) (fun h' tk' m' F' => ?_))
  k_steps

end Mine
set_option maxRecDepth 100000 in
set_option maxHeartbeats 8000000 in
theorem PySem.Challenge.cw_nz0346_01_holds : PySem.Challenge.rw_nz0346_01.Holds :=
  Mine.top1
