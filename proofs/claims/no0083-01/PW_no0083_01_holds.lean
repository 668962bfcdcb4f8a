import PyProof.Rows.All
import KE.KSortTup
import Wide.FinOn
import OpenK.AllK
import Wide.All
import Lean
import PySem.Challenge.RW_no0083_01
open PySem PySem.W PyProof.Rows PySem.Calls
set_option Elab.async false
set_option maxRecDepth 100000
set_option maxHeartbeats 8000000
set_option linter.unusedVariables false
set_option linter.unusedSimpArgs false
set_option genInjectivity false
set_option genSizeOfSpec false
set_option genSizeOf false
namespace Mine
noncomputable def stAt (i : Nat) : Stmt := PySem.Challenge.pw_no0083_01.main.body.getD i (.Pass ⟨0, 0, 0, 0⟩)
noncomputable def stIn (i j : Nat) : Stmt := match stAt i with
  | .ClassDef _ _ _ b _ _ _ _ _ _ _ => b.getD j (.Pass ⟨0, 0, 0, 0⟩)
  | s => s
noncomputable def fPr : Stmt → Arguments
  | .FunctionDef _ a _ _ _ _ _ _ _ _ => a
  | _ => { posonlyargs := [], args := [], vararg := none, kwonlyargs := [], kw_defaults := [], kwarg := none, defaults := [] }
noncomputable def fBd : Stmt → List Stmt
  | .FunctionDef _ _ b _ _ _ _ _ _ _ => b
  | _ => []
noncomputable def fSc : Stmt → Scope
  | .FunctionDef _ _ _ _ _ _ s _ _ _ => s
  | _ => { kind := .function, names := [], isGenerator := false, isCoroutine := false, more := [] }
noncomputable abbrev en (P : Params) (s : String) (t : Nat) (v : Value) : DictEntry := { hash := PyData.keyHash P (Str.ofString s), key := Value.str (Str.ofString s) t, val := v }
noncomputable abbrev vs (s : String) (t : Nat) : Value := Value.str (Str.ofString s) t
noncomputable abbrev vi (i : Int) (t : Nat) : Value := Value.int i t
noncomputable abbrev tO (a : Array Value) : Obj := { cls := Value.type "tuple", data := Data.seq a }
noncomputable abbrev cO (a : Array Value) : Obj := { cls := Value.type "code", data := Data.fields a }
noncomputable abbrev fO (n q : String) (s : Stmt) (m : String) (t c : Nat) : Obj := { cls := Value.type "function", data := Data.func { name := Str.ofString n, qualname := Str.ofString q, params := (fPr s), body := FuncBody.stmts (fBd s), scope := (fSc s), globals := 3, closure := [], defaults := Value.none, kwdefaults := Value.none, pyModule := Value.str (Str.ofString m) t, code := Value.ref c } }
noncomputable def heapK : Params → Frag := fun P =>
  [((nat_lit 2), { cls := Value.none, data := Data.dict #[en P "type.__subclasses__.Exception.0" 231 (vi 38 0), en P "type.__subclasses__.Exception.n" 232 (vi 1 0)] 2 }),
   ((nat_lit 3), { cls := Value.type "dict", data := Data.dict #[en P "__name__" 165 (vs "law_no0083_01" 642), en P "__doc__" 166 (.none), en P "__package__" 167 (.none), en P "__loader__" 168 (Value.builtin "__main__.__loader__#opaque"), en P "__spec__" 169 (.none), en P "__annotations__" 170 (.ref 6), en P "__builtins__" 171 (.ref 4), en P "__file__" 173 (vs "/claim/cut.py" 172), en P "__cached__" 174 (.none), en P "_wall" 193 (.ref 21), en P "FLOW_CONTROL_ERROR" 197 (vi 3 196), en P "STREAM_STATE_ERROR" 199 (vi 5 198), en P "FINAL_SIZE_ERROR" 201 (vi 6 200), en P "QuicError" 234 (.ref 38), en P "add_piece" 254 (.ref 48), en P "taken_from" 266 (.ref 55), en P "covered" 272 (.ref 60), en P "add_span" 287 (.ref 67), en P "cut_span" 299 (.ref 74), en P "has_span" 310 (.ref 81), en P "first_span" 320 (.ref 88), en P "RECEIVING" 324 (vs "recv" 323), en P "SIZE_KNOWN" 326 (vs "size_known" 325), en P "DATA_RECEIVED_recvpart" 328 (vs "data_recvd" 327), en P "DATA_READ" 330 (vs "data_read" 329), en P "RESET_RECEIVED_recvpart" 332 (vs "reset_recvd" 331), en P "RESET_READ" 334 (vs "reset_read" 333), en P "FRAME_RESET" 336 (vi 4 335), en P "FRAME_STREAM" 338 (vi 8 337), en P "RecvPart" 462 (.ref 175), en P "READY" 466 (vs "ready" 465), en P "SENDING" 468 (vs "send" 467), en P "DATA_SENT" 470 (vs "data_sent" 469), en P "DATA_RECEIVED_sendpart" 472 (vs "data_recvd" 471), en P "RESET_SENT" 474 (vs "reset_sent" 473), en P "RESET_RECEIVED_sendpart" 476 (vs "reset_recvd" 475), en P "OPEN_STATES" 477 (.ref 180), en P "SendPart" 641 (.ref 302), en P "_law_box" 652 (.ref 313), en P "_law_take" 660 (.ref 320), en P "_law_end" 669 (.ref 327), en P "_law_come" 675 (.ref 332), en P "_law_read" 684 (.ref 339), en P "_law_receiving_right" 697 (.ref 346), en P "_law_refused" 706 (.ref 353), en P "_law_sending_step" 723 (.ref 360), en P "_law_sending_right" 733 (.ref 367), en P "law" 741 (.ref 374)] 48 }),
   ((nat_lit 15), tO #[]),
   ((nat_lit 17), tO #[vs "k" 190]),
   ((nat_lit 18), tO #[]),
   ((nat_lit 20), cO #[vs "_wall" 187, vs "_wall" 188, vs "/claim/cut.py" 189, vi 1 0, vi 1 0, vi 0 0, vi 0 0, vi 3 0, .ref 15, .bool .true, vi 181 0, .ref 16, .none, .ref 17, .ref 18, .ref 19, vi 191 0, vi 1 0, vs "/claim/cut.py" 192]),
   ((nat_lit 21), fO "_wall" "_wall" (stAt 0) "__main__" 164 20),
   ((nat_lit 22), tO #[Value.type "Exception"]),
   ((nat_lit 29), tO #[]),
   ((nat_lit 31), tO #[vs "self" 217, vs "code" 218, vs "frame_type" 219, vs "text" 220]),
   ((nat_lit 32), tO #[]),
   ((nat_lit 34), cO #[vs "__init__" 214, vs "QuicError.__init__" 215, vs "/claim/cut.py" 216, vi 10 0, vi 4 0, vi 0 0, vi 0 0, vi 3 0, .ref 29, .bool .true, vi 181 0, .ref 30, .none, .ref 31, .ref 32, .ref 33, vi 221 0, vi 10 0, vs "/claim/cut.py" 222]),
   ((nat_lit 35), fO "__init__" "QuicError.__init__" (stIn 5 0) "quic.errors" 194 34),
   ((nat_lit 36), tO #[vs "code" 224, vs "frame_type" 225, vs "text" 226]),
   ((nat_lit 37), { cls := Value.type "dict", data := Data.dict #[en P "__module__" 209 (vs "quic.errors" 194), en P "__firstlineno__" 213 (vi 8 212), en P "__init__" 223 (.ref 35), en P "__static_attributes__" 227 (.ref 36), en P "__weakref__" 229 (.ref 39), en P "__doc__" 230 (.none)] 3 }),
   ((nat_lit 38), { cls := Value.type "type", data := Data.cls { name := Str.ofString "QuicError", bases := [Value.type "Exception"], mro := [.ref 38, Value.type "Exception", Value.type "BaseException", Value.type "object"], ns := 37, qualname := Str.ofString "QuicError" }, slots := #[Option.some (.ref 22), Option.none, Option.some (vs "QuicError" 202), Option.some (vs "QuicError" 210), Option.some (Value.builtin "Exception.__new__"), Option.some (.bool .true)] }),
   ((nat_lit 39), { cls := Value.type "getset_descriptor", data := Data.fields #[vs "__weakref__" 228, .ref 38, Value.builtin "ExceptionGroup.__weakref__", .none] }),
   ((nat_lit 42), tO #[]),
   ((nat_lit 44), tO #[vs "pieces" 240, vs "offset" 241, vs "data" 242, vs "found" 243, vs "begin" 244, vs "joined" 245, vs "start" 246, vs "octets" 247, vs "end" 248, vs "last" 249, vs "ahead" 250, vs "behind" 251]),
   ((nat_lit 45), tO #[]),
   ((nat_lit 47), cO #[vs "add_piece" 237, vs "add_piece" 238, vs "/claim/cut.py" 239, vi 16 0, vi 3 0, vi 0 0, vi 0 0, vi 3 0, .ref 42, .bool .true, vi 181 0, .ref 43, .none, .ref 44, .ref 45, .ref 46, vi 252 0, vi 16 0, vs "/claim/cut.py" 253]),
   ((nat_lit 48), fO "add_piece" "add_piece" (stAt 7) "quic.pieces" 235 47),
   ((nat_lit 49), tO #[]),
   ((nat_lit 51), tO #[vs "pieces" 258, vs "at" 259, vs "found" 260, vs "left" 261, vs "start" 262, vs "octets" 263]),
   ((nat_lit 52), tO #[]),
   ((nat_lit 54), cO #[vs "taken_from" 255, vs "taken_from" 256, vs "/claim/cut.py" 257, vi 29 0, vi 2 0, vi 0 0, vi 0 0, vi 3 0, .ref 49, .bool .true, vi 181 0, .ref 50, .none, .ref 51, .ref 52, .ref 53, vi 264 0, vi 29 0, vs "/claim/cut.py" 265]),
   ((nat_lit 55), fO "taken_from" "taken_from" (stAt 8) "quic.pieces" 235 54),
   ((nat_lit 56), tO #[]),
   ((nat_lit 59), cO #[vs "covered" 267, vs "covered" 268, vs "/claim/cut.py" 269, vi 37 0, vi 1 0, vi 0 0, vi 0 0, vi 3 0, .ref 56, .bool .true, vi 181 0, .ref 57, .none, .none, .none, .ref 58, vi 270 0, vi 37 0, vs "/claim/cut.py" 271]),
   ((nat_lit 60), fO "covered" "covered" (stAt 9) "quic.pieces" 235 59),
   ((nat_lit 61), tO #[]),
   ((nat_lit 63), tO #[vs "spans" 278, vs "low" 279, vs "high" 280, vs "found" 281, vs "is_put" 282, vs "one" 283, vs "other" 284]),
   ((nat_lit 64), tO #[]),
   ((nat_lit 66), cO #[vs "add_span" 275, vs "add_span" 276, vs "/claim/cut.py" 277, vi 40 0, vi 3 0, vi 0 0, vi 0 0, vi 3 0, .ref 61, .bool .true, vi 181 0, .ref 62, .none, .ref 63, .ref 64, .ref 65, vi 285 0, vi 40 0, vs "/claim/cut.py" 286]),
   ((nat_lit 67), fO "add_span" "add_span" (stAt 11) "quic.spans" 273 66),
   ((nat_lit 68), tO #[]),
   ((nat_lit 70), tO #[vs "spans" 291, vs "low" 292, vs "high" 293, vs "found" 294, vs "one" 295, vs "other" 296]),
   ((nat_lit 71), tO #[]),
   ((nat_lit 73), cO #[vs "cut_span" 288, vs "cut_span" 289, vs "/claim/cut.py" 290, vi 55 0, vi 3 0, vi 0 0, vi 0 0, vi 3 0, .ref 68, .bool .true, vi 181 0, .ref 69, .none, .ref 70, .ref 71, .ref 72, vi 297 0, vi 55 0, vs "/claim/cut.py" 298]),
   ((nat_lit 74), fO "cut_span" "cut_span" (stAt 12) "quic.spans" 273 73),
   ((nat_lit 75), tO #[]),
   ((nat_lit 77), tO #[vs "spans" 303, vs "low" 304, vs "high" 305, vs "one" 306, vs "other" 307]),
   ((nat_lit 78), tO #[]),
   ((nat_lit 80), cO #[vs "has_span" 300, vs "has_span" 301, vs "/claim/cut.py" 302, vi 63 0, vi 3 0, vi 0 0, vi 0 0, vi 3 0, .ref 75, .bool .true, vi 181 0, .ref 76, .none, .ref 77, .ref 78, .ref 79, vi 308 0, vi 63 0, vs "/claim/cut.py" 309]),
   ((nat_lit 81), fO "has_span" "has_span" (stAt 13) "quic.spans" 273 80),
   ((nat_lit 82), tO #[]),
   ((nat_lit 84), tO #[vs "spans" 314, vs "most" 315, vs "low" 316, vs "high" 317]),
   ((nat_lit 85), tO #[]),
   ((nat_lit 87), cO #[vs "first_span" 311, vs "first_span" 312, vs "/claim/cut.py" 313, vi 70 0, vi 2 0, vi 0 0, vi 0 0, vi 3 0, .ref 82, .bool .true, vi 181 0, .ref 83, .none, .ref 84, .ref 85, .ref 86, vi 318 0, vi 70 0, vs "/claim/cut.py" 319]),
   ((nat_lit 88), fO "first_span" "first_span" (stAt 14) "quic.spans" 273 87),
   ((nat_lit 96), tO #[]),
   ((nat_lit 98), tO #[vs "self" 354, vs "limit" 355]),
   ((nat_lit 99), tO #[]),
   ((nat_lit 101), cO #[vs "__init__" 351, vs "RecvPart.__init__" 352, vs "/claim/cut.py" 353, vi 86 0, vi 2 0, vi 0 0, vi 0 0, vi 3 0, .ref 96, .bool .true, vi 181 0, .ref 97, .none, .ref 98, .ref 99, .ref 100, vi 356 0, vi 86 0, vs "/claim/cut.py" 357]),
   ((nat_lit 102), fO "__init__" "RecvPart.__init__" (stIn 24 0) "quic.recvpart" 321 101),
   ((nat_lit 103), tO #[]),
   ((nat_lit 105), tO #[vs "self" 362, vs "end" 363, vs "is_final" 364, vs "frame_type" 365]),
   ((nat_lit 106), tO #[]),
   ((nat_lit 108), cO #[vs "check_end" 359, vs "RecvPart.check_end" 360, vs "/claim/cut.py" 361, vi 96 0, vi 4 0, vi 0 0, vi 0 0, vi 3 0, .ref 103, .bool .true, vi 181 0, .ref 104, .none, .ref 105, .ref 106, .ref 107, vi 366 0, vi 96 0, vs "/claim/cut.py" 367]),
   ((nat_lit 109), fO "check_end" "RecvPart.check_end" (stIn 24 1) "quic.recvpart" 321 108),
   ((nat_lit 110), tO #[]),
   ((nat_lit 112), tO #[vs "self" 372, vs "end" 373, vs "more" 374]),
   ((nat_lit 113), tO #[]),
   ((nat_lit 115), cO #[vs "grown" 369, vs "RecvPart.grown" 370, vs "/claim/cut.py" 371, vi 105 0, vi 2 0, vi 0 0, vi 0 0, vi 3 0, .ref 110, .bool .true, vi 181 0, .ref 111, .none, .ref 112, .ref 113, .ref 114, vi 375 0, vi 105 0, vs "/claim/cut.py" 376]),
   ((nat_lit 116), fO "grown" "RecvPart.grown" (stIn 24 2) "quic.recvpart" 321 115),
   ((nat_lit 117), tO #[]),
   ((nat_lit 119), tO #[vs "self" 381, vs "offset" 382, vs "data" 383, vs "is_end" 384, vs "end" 385, vs "more" 386]),
   ((nat_lit 120), tO #[]),
   ((nat_lit 122), cO #[vs "on_stream" 378, vs "RecvPart.on_stream" 379, vs "/claim/cut.py" 380, vi 110 0, vi 4 0, vi 0 0, vi 0 0, vi 3 0, .ref 117, .bool .true, vi 181 0, .ref 118, .none, .ref 119, .ref 120, .ref 121, vi 387 0, vi 110 0, vs "/claim/cut.py" 388]),
   ((nat_lit 123), fO "on_stream" "RecvPart.on_stream" (stIn 24 3) "quic.recvpart" 321 122),
   ((nat_lit 124), tO #[]),
   ((nat_lit 126), tO #[vs "self" 393]),
   ((nat_lit 127), tO #[]),
   ((nat_lit 129), cO #[vs "has_all" 390, vs "RecvPart.has_all" 391, vs "/claim/cut.py" 392, vi 126 0, vi 1 0, vi 0 0, vi 0 0, vi 3 0, .ref 124, .bool .true, vi 181 0, .ref 125, .none, .ref 126, .ref 127, .ref 128, vi 394 0, vi 126 0, vs "/claim/cut.py" 395]),
   ((nat_lit 130), fO "has_all" "RecvPart.has_all" (stIn 24 4) "quic.recvpart" 321 129),
   ((nat_lit 131), tO #[]),
   ((nat_lit 133), tO #[vs "self" 400, vs "code" 401, vs "final_size" 402, vs "more" 403]),
   ((nat_lit 134), tO #[]),
   ((nat_lit 136), cO #[vs "on_reset" 397, vs "RecvPart.on_reset" 398, vs "/claim/cut.py" 399, vi 129 0, vi 3 0, vi 0 0, vi 0 0, vi 3 0, .ref 131, .bool .true, vi 181 0, .ref 132, .none, .ref 133, .ref 134, .ref 135, vi 404 0, vi 129 0, vs "/claim/cut.py" 405]),
   ((nat_lit 137), fO "on_reset" "RecvPart.on_reset" (stIn 24 5) "quic.recvpart" 321 136),
   ((nat_lit 138), tO #[]),
   ((nat_lit 140), tO #[vs "self" 410, vs "most" 411, vs "found" 412, vs "left" 413]),
   ((nat_lit 141), tO #[]),
   ((nat_lit 143), cO #[vs "read" 407, vs "RecvPart.read" 408, vs "/claim/cut.py" 409, vi 139 0, vi 2 0, vi 0 0, vi 0 0, vi 3 0, .ref 138, .bool .true, vi 181 0, .ref 139, .none, .ref 140, .ref 141, .ref 142, vi 414 0, vi 139 0, vs "/claim/cut.py" 415]),
   ((nat_lit 144), fO "read" "RecvPart.read" (stIn 24 6) "quic.recvpart" 321 143),
   ((nat_lit 145), tO #[]),
   ((nat_lit 147), tO #[vs "self" 420, vs "code" 421]),
   ((nat_lit 148), tO #[]),
   ((nat_lit 150), cO #[vs "stop" 417, vs "RecvPart.stop" 418, vs "/claim/cut.py" 419, vi 154 0, vi 2 0, vi 0 0, vi 0 0, vi 3 0, .ref 145, .bool .true, vi 181 0, .ref 146, .none, .ref 147, .ref 148, .ref 149, vi 422 0, vi 154 0, vs "/claim/cut.py" 423]),
   ((nat_lit 151), fO "stop" "RecvPart.stop" (stIn 24 7) "quic.recvpart" 321 150),
   ((nat_lit 152), tO #[]),
   ((nat_lit 154), tO #[vs "self" 428, vs "limit" 429]),
   ((nat_lit 155), tO #[]),
   ((nat_lit 157), cO #[vs "raise_limit" 425, vs "RecvPart.raise_limit" 426, vs "/claim/cut.py" 427, vi 161 0, vi 2 0, vi 0 0, vi 0 0, vi 3 0, .ref 152, .bool .true, vi 181 0, .ref 153, .none, .ref 154, .ref 155, .ref 156, vi 430 0, vi 161 0, vs "/claim/cut.py" 431]),
   ((nat_lit 158), fO "raise_limit" "RecvPart.raise_limit" (stIn 24 8) "quic.recvpart" 321 157),
   ((nat_lit 159), tO #[]),
   ((nat_lit 161), tO #[vs "self" 436]),
   ((nat_lit 162), tO #[]),
   ((nat_lit 164), cO #[vs "used_to" 433, vs "RecvPart.used_to" 434, vs "/claim/cut.py" 435, vi 164 0, vi 1 0, vi 0 0, vi 0 0, vi 3 0, .ref 159, .bool .true, vi 181 0, .ref 160, .none, .ref 161, .ref 162, .ref 163, vi 437 0, vi 164 0, vs "/claim/cut.py" 438]),
   ((nat_lit 165), fO "used_to" "RecvPart.used_to" (stIn 24 9) "quic.recvpart" 321 164),
   ((nat_lit 166), tO #[]),
   ((nat_lit 168), tO #[vs "self" 443]),
   ((nat_lit 169), tO #[]),
   ((nat_lit 171), cO #[vs "is_over" 440, vs "RecvPart.is_over" 441, vs "/claim/cut.py" 442, vi 169 0, vi 1 0, vi 0 0, vi 0 0, vi 3 0, .ref 166, .bool .true, vi 181 0, .ref 167, .none, .ref 168, .ref 169, .ref 170, vi 444 0, vi 169 0, vs "/claim/cut.py" 445]),
   ((nat_lit 172), fO "is_over" "RecvPart.is_over" (stIn 24 10) "quic.recvpart" 321 171),
   ((nat_lit 173), tO #[vs "final_size" 447, vs "highest" 448, vs "limit" 449, vs "pieces" 450, vs "read_to" 451, vs "reset_code" 452, vs "state" 453, vs "stop_code" 454]),
   ((nat_lit 174), { cls := Value.type "dict", data := Data.dict #[en P "__module__" 346 (vs "quic.recvpart" 321), en P "__firstlineno__" 350 (vi 84 349), en P "__init__" 358 (.ref 102), en P "check_end" 368 (.ref 109), en P "grown" 377 (.ref 116), en P "on_stream" 389 (.ref 123), en P "has_all" 396 (.ref 130), en P "on_reset" 406 (.ref 137), en P "read" 416 (.ref 144), en P "stop" 424 (.ref 151), en P "raise_limit" 432 (.ref 158), en P "used_to" 439 (.ref 165), en P "is_over" 446 (.ref 172), en P "__static_attributes__" 455 (.ref 173), en P "__dict__" 457 (.ref 176), en P "__weakref__" 459 (.ref 177), en P "__doc__" 460 (.none)] 4 }),
   ((nat_lit 175), { cls := Value.type "type", data := Data.cls { name := Str.ofString "RecvPart", bases := [Value.type "object"], mro := [.ref 175, Value.type "object"], ns := 174, qualname := Str.ofString "RecvPart" }, slots := #[Option.none, Option.none, Option.some (vs "RecvPart" 339), Option.some (vs "RecvPart" 347), Option.some (Value.builtin "object.__new__"), Option.some (.bool .true)] }),
   ((nat_lit 176), { cls := Value.type "getset_descriptor", data := Data.fields #[vs "__dict__" 456, .ref 175, Value.builtin "function.__dict__", Value.builtin "function.__dict__#set"] }),
   ((nat_lit 177), { cls := Value.type "getset_descriptor", data := Data.fields #[vs "__weakref__" 458, .ref 175, Value.builtin "ExceptionGroup.__weakref__", .none] }),
   ((nat_lit 180), tO #[vs "ready" 465, vs "send" 467]),
   ((nat_lit 188), tO #[]),
   ((nat_lit 190), tO #[vs "self" 493, vs "limit" 494]),
   ((nat_lit 191), tO #[]),
   ((nat_lit 193), cO #[vs "__init__" 490, vs "SendPart.__init__" 491, vs "/claim/cut.py" 492, vi 181 0, vi 2 0, vi 0 0, vi 0 0, vi 3 0, .ref 188, .bool .true, vi 181 0, .ref 189, .none, .ref 190, .ref 191, .ref 192, vi 495 0, vi 181 0, vs "/claim/cut.py" 496]),
   ((nat_lit 194), fO "__init__" "SendPart.__init__" (stIn 33 0) "quic.sendpart" 463 193),
   ((nat_lit 195), tO #[]),
   ((nat_lit 197), tO #[vs "self" 501, vs "data" 502]),
   ((nat_lit 198), tO #[]),
   ((nat_lit 200), cO #[vs "write" 498, vs "SendPart.write" 499, vs "/claim/cut.py" 500, vi 194 0, vi 2 0, vi 0 0, vi 0 0, vi 3 0, .ref 195, .bool .true, vi 181 0, .ref 196, .none, .ref 197, .ref 198, .ref 199, vi 503 0, vi 194 0, vs "/claim/cut.py" 504]),
   ((nat_lit 201), fO "write" "SendPart.write" (stIn 33 1) "quic.sendpart" 463 200),
   ((nat_lit 202), tO #[]),
   ((nat_lit 204), tO #[vs "self" 509]),
   ((nat_lit 205), tO #[]),
   ((nat_lit 207), cO #[vs "finish" 506, vs "SendPart.finish" 507, vs "/claim/cut.py" 508, vi 199 0, vi 1 0, vi 0 0, vi 0 0, vi 3 0, .ref 202, .bool .true, vi 181 0, .ref 203, .none, .ref 204, .ref 205, .ref 206, vi 510 0, vi 199 0, vs "/claim/cut.py" 511]),
   ((nat_lit 208), fO "finish" "SendPart.finish" (stIn 33 2) "quic.sendpart" 463 207),
   ((nat_lit 209), tO #[]),
   ((nat_lit 211), tO #[vs "self" 516, vs "code" 517]),
   ((nat_lit 212), tO #[]),
   ((nat_lit 214), cO #[vs "reset" 513, vs "SendPart.reset" 514, vs "/claim/cut.py" 515, vi 206 0, vi 2 0, vi 0 0, vi 0 0, vi 3 0, .ref 209, .bool .true, vi 181 0, .ref 210, .none, .ref 211, .ref 212, .ref 213, vi 518 0, vi 206 0, vs "/claim/cut.py" 519]),
   ((nat_lit 215), fO "reset" "SendPart.reset" (stIn 33 3) "quic.sendpart" 463 214),
   ((nat_lit 216), tO #[]),
   ((nat_lit 218), tO #[vs "self" 524, vs "code" 525]),
   ((nat_lit 219), tO #[]),
   ((nat_lit 221), cO #[vs "on_stop" 521, vs "SendPart.on_stop" 522, vs "/claim/cut.py" 523, vi 216 0, vi 2 0, vi 0 0, vi 0 0, vi 3 0, .ref 216, .bool .true, vi 181 0, .ref 217, .none, .ref 218, .ref 219, .ref 220, vi 526 0, vi 216 0, vs "/claim/cut.py" 527]),
   ((nat_lit 222), fO "on_stop" "SendPart.on_stop" (stIn 33 4) "quic.sendpart" 463 221),
   ((nat_lit 223), tO #[]),
   ((nat_lit 225), tO #[vs "self" 532, vs "limit" 533]),
   ((nat_lit 226), tO #[]),
   ((nat_lit 228), cO #[vs "raise_limit" 529, vs "SendPart.raise_limit" 530, vs "/claim/cut.py" 531, vi 219 0, vi 2 0, vi 0 0, vi 0 0, vi 3 0, .ref 223, .bool .true, vi 181 0, .ref 224, .none, .ref 225, .ref 226, .ref 227, vi 534 0, vi 219 0, vs "/claim/cut.py" 535]),
   ((nat_lit 229), fO "raise_limit" "SendPart.raise_limit" (stIn 33 5) "quic.sendpart" 463 228),
   ((nat_lit 230), tO #[]),
   ((nat_lit 232), tO #[vs "self" 540, vs "most_new" 541, vs "room" 542]),
   ((nat_lit 233), tO #[]),
   ((nat_lit 235), cO #[vs "new_room" 537, vs "SendPart.new_room" 538, vs "/claim/cut.py" 539, vi 222 0, vi 2 0, vi 0 0, vi 0 0, vi 3 0, .ref 230, .bool .true, vi 181 0, .ref 231, .none, .ref 232, .ref 233, .ref 234, vi 543 0, vi 222 0, vs "/claim/cut.py" 544]),
   ((nat_lit 236), fO "new_room" "SendPart.new_room" (stIn 33 6) "quic.sendpart" 463 235),
   ((nat_lit 237), tO #[]),
   ((nat_lit 239), tO #[vs "self" 549]),
   ((nat_lit 240), tO #[]),
   ((nat_lit 242), cO #[vs "blocked_at" 546, vs "SendPart.blocked_at" 547, vs "/claim/cut.py" 548, vi 228 0, vi 1 0, vi 0 0, vi 0 0, vi 3 0, .ref 237, .bool .true, vi 181 0, .ref 238, .none, .ref 239, .ref 240, .ref 241, vi 550 0, vi 228 0, vs "/claim/cut.py" 551]),
   ((nat_lit 243), fO "blocked_at" "SendPart.blocked_at" (stIn 33 7) "quic.sendpart" 463 242),
   ((nat_lit 244), tO #[]),
   ((nat_lit 246), tO #[vs "self" 556, vs "most_new" 557]),
   ((nat_lit 247), tO #[]),
   ((nat_lit 249), cO #[vs "has_to_send" 553, vs "SendPart.has_to_send" 554, vs "/claim/cut.py" 555, vi 231 0, vi 2 0, vi 0 0, vi 0 0, vi 3 0, .ref 244, .bool .true, vi 181 0, .ref 245, .none, .ref 246, .ref 247, .ref 248, vi 558 0, vi 231 0, vs "/claim/cut.py" 559]),
   ((nat_lit 250), fO "has_to_send" "SendPart.has_to_send" (stIn 33 8) "quic.sendpart" 463 249),
   ((nat_lit 251), tO #[]),
   ((nat_lit 253), tO #[vs "self" 564, vs "most" 565, vs "most_new" 566, vs "span" 567, vs "room" 568, vs "low" 569, vs "high" 570, vs "is_end" 571]),
   ((nat_lit 254), tO #[]),
   ((nat_lit 256), cO #[vs "next_chunk" 561, vs "SendPart.next_chunk" 562, vs "/claim/cut.py" 563, vi 234 0, vi 3 0, vi 0 0, vi 0 0, vi 3 0, .ref 251, .bool .true, vi 181 0, .ref 252, .none, .ref 253, .ref 254, .ref 255, vi 572 0, vi 234 0, vs "/claim/cut.py" 573]),
   ((nat_lit 257), fO "next_chunk" "SendPart.next_chunk" (stIn 33 9) "quic.sendpart" 463 256),
   ((nat_lit 258), tO #[]),
   ((nat_lit 260), tO #[vs "self" 578]),
   ((nat_lit 261), tO #[]),
   ((nat_lit 263), cO #[vs "next_reset" 575, vs "SendPart.next_reset" 576, vs "/claim/cut.py" 577, vi 252 0, vi 1 0, vi 0 0, vi 0 0, vi 3 0, .ref 258, .bool .true, vi 181 0, .ref 259, .none, .ref 260, .ref 261, .ref 262, vi 579 0, vi 252 0, vs "/claim/cut.py" 580]),
   ((nat_lit 264), fO "next_reset" "SendPart.next_reset" (stIn 33 10) "quic.sendpart" 463 263),
   ((nat_lit 265), tO #[]),
   ((nat_lit 267), tO #[vs "self" 585, vs "offset" 586, vs "size" 587, vs "is_end" 588]),
   ((nat_lit 268), tO #[]),
   ((nat_lit 270), cO #[vs "on_acked" 582, vs "SendPart.on_acked" 583, vs "/claim/cut.py" 584, vi 258 0, vi 4 0, vi 0 0, vi 0 0, vi 3 0, .ref 265, .bool .true, vi 181 0, .ref 266, .none, .ref 267, .ref 268, .ref 269, vi 589 0, vi 258 0, vs "/claim/cut.py" 590]),
   ((nat_lit 271), fO "on_acked" "SendPart.on_acked" (stIn 33 11) "quic.sendpart" 463 270),
   ((nat_lit 272), tO #[]),
   ((nat_lit 274), tO #[vs "self" 595, vs "offset" 596, vs "size" 597, vs "is_end" 598]),
   ((nat_lit 275), tO #[]),
   ((nat_lit 277), cO #[vs "on_lost" 592, vs "SendPart.on_lost" 593, vs "/claim/cut.py" 594, vi 267 0, vi 4 0, vi 0 0, vi 0 0, vi 3 0, .ref 272, .bool .true, vi 181 0, .ref 273, .none, .ref 274, .ref 275, .ref 276, vi 599 0, vi 267 0, vs "/claim/cut.py" 600]),
   ((nat_lit 278), fO "on_lost" "SendPart.on_lost" (stIn 33 12) "quic.sendpart" 463 277),
   ((nat_lit 279), tO #[]),
   ((nat_lit 281), tO #[vs "self" 605]),
   ((nat_lit 282), tO #[]),
   ((nat_lit 284), cO #[vs "on_reset_acked" 602, vs "SendPart.on_reset_acked" 603, vs "/claim/cut.py" 604, vi 270 0, vi 1 0, vi 0 0, vi 0 0, vi 3 0, .ref 279, .bool .true, vi 181 0, .ref 280, .none, .ref 281, .ref 282, .ref 283, vi 606 0, vi 270 0, vs "/claim/cut.py" 607]),
   ((nat_lit 285), fO "on_reset_acked" "SendPart.on_reset_acked" (stIn 33 13) "quic.sendpart" 463 284),
   ((nat_lit 286), tO #[]),
   ((nat_lit 288), tO #[vs "self" 612]),
   ((nat_lit 289), tO #[]),
   ((nat_lit 291), cO #[vs "on_reset_lost" 609, vs "SendPart.on_reset_lost" 610, vs "/claim/cut.py" 611, vi 274 0, vi 1 0, vi 0 0, vi 0 0, vi 3 0, .ref 286, .bool .true, vi 181 0, .ref 287, .none, .ref 288, .ref 289, .ref 290, vi 613 0, vi 274 0, vs "/claim/cut.py" 614]),
   ((nat_lit 292), fO "on_reset_lost" "SendPart.on_reset_lost" (stIn 33 14) "quic.sendpart" 463 291),
   ((nat_lit 293), tO #[]),
   ((nat_lit 295), tO #[vs "self" 619]),
   ((nat_lit 296), tO #[]),
   ((nat_lit 298), cO #[vs "is_over" 616, vs "SendPart.is_over" 617, vs "/claim/cut.py" 618, vi 278 0, vi 1 0, vi 0 0, vi 0 0, vi 3 0, .ref 293, .bool .true, vi 181 0, .ref 294, .none, .ref 295, .ref 296, .ref 297, vi 620 0, vi 278 0, vs "/claim/cut.py" 621]),
   ((nat_lit 299), fO "is_over" "SendPart.is_over" (stIn 33 15) "quic.sendpart" 463 298),
   ((nat_lit 300), tO #[vs "acked" 623, vs "is_end_acked" 624, vs "is_finished" 625, vs "limit" 626, vs "lost" 627, vs "owes_end" 628, vs "owes_reset" 629, vs "reset_code" 630, vs "sent_to" 631, vs "state" 632, vs "written" 633]),
   ((nat_lit 301), { cls := Value.type "dict", data := Data.dict #[en P "__module__" 485 (vs "quic.sendpart" 463), en P "__firstlineno__" 489 (vi 179 488), en P "__init__" 497 (.ref 194), en P "write" 505 (.ref 201), en P "finish" 512 (.ref 208), en P "reset" 520 (.ref 215), en P "on_stop" 528 (.ref 222), en P "raise_limit" 536 (.ref 229), en P "new_room" 545 (.ref 236), en P "blocked_at" 552 (.ref 243), en P "has_to_send" 560 (.ref 250), en P "next_chunk" 574 (.ref 257), en P "next_reset" 581 (.ref 264), en P "on_acked" 591 (.ref 271), en P "on_lost" 601 (.ref 278), en P "on_reset_acked" 608 (.ref 285), en P "on_reset_lost" 615 (.ref 292), en P "is_over" 622 (.ref 299), en P "__static_attributes__" 634 (.ref 300), en P "__dict__" 636 (.ref 303), en P "__weakref__" 638 (.ref 304), en P "__doc__" 639 (.none)] 4 }),
   ((nat_lit 302), { cls := Value.type "type", data := Data.cls { name := Str.ofString "SendPart", bases := [Value.type "object"], mro := [.ref 302, Value.type "object"], ns := 301, qualname := Str.ofString "SendPart" }, slots := #[Option.none, Option.none, Option.some (vs "SendPart" 478), Option.some (vs "SendPart" 486), Option.some (Value.builtin "object.__new__"), Option.some (.bool .true)] }),
   ((nat_lit 303), { cls := Value.type "getset_descriptor", data := Data.fields #[vs "__dict__" 635, .ref 302, Value.builtin "function.__dict__", Value.builtin "function.__dict__#set"] }),
   ((nat_lit 304), { cls := Value.type "getset_descriptor", data := Data.fields #[vs "__weakref__" 637, .ref 302, Value.builtin "ExceptionGroup.__weakref__", .none] }),
   ((nat_lit 307), tO #[]),
   ((nat_lit 309), tO #[vs "script" 647, vs "seed_here" 648, vs "one" 649]),
   ((nat_lit 310), tO #[]),
   ((nat_lit 312), cO #[vs "_law_box" 644, vs "_law_box" 645, vs "/claim/cut.py" 646, vi 281 0, vi 2 0, vi 0 0, vi 0 0, vi 3 0, .ref 307, .bool .true, vi 181 0, .ref 308, .none, .ref 309, .ref 310, .ref 311, vi 650 0, vi 281 0, vs "/claim/cut.py" 651]),
   ((nat_lit 313), fO "_law_box" "_law_box" (stAt 35) "law_no0083_01" 642 312),
   ((nat_lit 314), tO #[]),
   ((nat_lit 316), tO #[vs "box" 656, vs "wide" 657]),
   ((nat_lit 317), tO #[]),
   ((nat_lit 319), cO #[vs "_law_take" 653, vs "_law_take" 654, vs "/claim/cut.py" 655, vi 285 0, vi 2 0, vi 0 0, vi 0 0, vi 3 0, .ref 314, .bool .true, vi 181 0, .ref 315, .none, .ref 316, .ref 317, .ref 318, vi 658 0, vi 285 0, vs "/claim/cut.py" 659]),
   ((nat_lit 320), fO "_law_take" "_law_take" (stAt 36) "law_no0083_01" 642 319),
   ((nat_lit 321), tO #[]),
   ((nat_lit 323), tO #[vs "here" 664, vs "end" 665, vs "is_final" 666]),
   ((nat_lit 324), tO #[]),
   ((nat_lit 326), cO #[vs "_law_end" 661, vs "_law_end" 662, vs "/claim/cut.py" 663, vi 290 0, vi 3 0, vi 0 0, vi 0 0, vi 3 0, .ref 321, .bool .true, vi 181 0, .ref 322, .none, .ref 323, .ref 324, .ref 325, vi 667 0, vi 290 0, vs "/claim/cut.py" 668]),
   ((nat_lit 327), fO "_law_end" "_law_end" (stAt 37) "law_no0083_01" 642 326),
   ((nat_lit 328), tO #[]),
   ((nat_lit 331), cO #[vs "_law_come" 670, vs "_law_come" 671, vs "/claim/cut.py" 672, vi 296 0, vi 3 0, vi 0 0, vi 0 0, vi 3 0, .ref 328, .bool .true, vi 181 0, .ref 329, .none, .none, .none, .ref 330, vi 673 0, vi 296 0, vs "/claim/cut.py" 674]),
   ((nat_lit 332), fO "_law_come" "_law_come" (stAt 38) "law_no0083_01" 642 331),
   ((nat_lit 333), tO #[]),
   ((nat_lit 335), tO #[vs "part" 679, vs "here" 680, vs "many" 681]),
   ((nat_lit 336), tO #[]),
   ((nat_lit 338), cO #[vs "_law_read" 676, vs "_law_read" 677, vs "/claim/cut.py" 678, vi 321 0, vi 2 0, vi 0 0, vi 0 0, vi 3 0, .ref 333, .bool .true, vi 181 0, .ref 334, .none, .ref 335, .ref 336, .ref 337, vi 682 0, vi 321 0, vs "/claim/cut.py" 683]),
   ((nat_lit 339), fO "_law_read" "_law_read" (stAt 39) "law_no0083_01" 642 338),
   ((nat_lit 340), tO #[]),
   ((nat_lit 342), tO #[vs "box" 688, vs "part" 689, vs "here" 690, vs "turn" 691, vs "form" 692, vs "due" 693, vs "is_free" 694]),
   ((nat_lit 343), tO #[]),
   ((nat_lit 345), cO #[vs "_law_receiving_right" 685, vs "_law_receiving_right" 686, vs "/claim/cut.py" 687, vi 332 0, vi 1 0, vi 0 0, vi 0 0, vi 3 0, .ref 340, .bool .true, vi 181 0, .ref 341, .none, .ref 342, .ref 343, .ref 344, vi 695 0, vi 332 0, vs "/claim/cut.py" 696]),
   ((nat_lit 346), fO "_law_receiving_right" "_law_receiving_right" (stAt 40) "law_no0083_01" 642 345),
   ((nat_lit 347), tO #[]),
   ((nat_lit 349), tO #[vs "part" 701, vs "form" 702, vs "wrong" 703]),
   ((nat_lit 350), tO #[]),
   ((nat_lit 352), cO #[vs "_law_refused" 698, vs "_law_refused" 699, vs "/claim/cut.py" 700, vi 350 0, vi 2 0, vi 0 0, vi 0 0, vi 3 0, .ref 347, .bool .true, vi 181 0, .ref 348, .none, .ref 349, .ref 350, .ref 351, vi 704 0, vi 350 0, vs "/claim/cut.py" 705]),
   ((nat_lit 353), fO "_law_refused" "_law_refused" (stAt 41) "law_no0083_01" 642 352),
   ((nat_lit 354), tO #[]),
   ((nat_lit 356), tO #[vs "box" 710, vs "part" 711, vs "here" 712, vs "form" 713, vs "word" 714, vs "is_let" 715, vs "told" 716, vs "due" 717, vs "offset" 718, vs "size" 719, vs "is_end" 720]),
   ((nat_lit 357), tO #[]),
   ((nat_lit 359), cO #[vs "_law_sending_step" 707, vs "_law_sending_step" 708, vs "/claim/cut.py" 709, vi 359 0, vi 3 0, vi 0 0, vi 0 0, vi 3 0, .ref 354, .bool .true, vi 181 0, .ref 355, .none, .ref 356, .ref 357, .ref 358, vi 721 0, vi 359 0, vs "/claim/cut.py" 722]),
   ((nat_lit 360), fO "_law_sending_step" "_law_sending_step" (stAt 42) "law_no0083_01" 642 359),
   ((nat_lit 361), tO #[]),
   ((nat_lit 363), tO #[vs "box" 727, vs "part" 728, vs "here" 729, vs "turn" 730]),
   ((nat_lit 364), tO #[]),
   ((nat_lit 366), cO #[vs "_law_sending_right" 724, vs "_law_sending_right" 725, vs "/claim/cut.py" 726, vi 391 0, vi 1 0, vi 0 0, vi 0 0, vi 3 0, .ref 361, .bool .true, vi 181 0, .ref 362, .none, .ref 363, .ref 364, .ref 365, vi 731 0, vi 391 0, vs "/claim/cut.py" 732]),
   ((nat_lit 367), fO "_law_sending_right" "_law_sending_right" (stAt 43) "law_no0083_01" 642 366),
   ((nat_lit 368), tO #[]),
   ((nat_lit 370), tO #[vs "script" 737, vs "box" 738]),
   ((nat_lit 371), tO #[]),
   ((nat_lit 373), cO #[vs "law" 734, vs "law" 735, vs "/claim/cut.py" 736, vi 400 0, vi 1 0, vi 0 0, vi 0 0, vi 3 0, .ref 368, .bool .true, vi 181 0, .ref 369, .none, .ref 370, .ref 371, .ref 372, vi 739 0, vi 400 0, vs "/claim/cut.py" 740]),
   ((nat_lit 374), fO "law" "law" (stAt 44) "law_no0083_01" 642 373)]
noncomputable def asK : List Addr := [nat_lit 2, nat_lit 3, nat_lit 15, nat_lit 17, nat_lit 18, nat_lit 20, nat_lit 21, nat_lit 22, nat_lit 29, nat_lit 31, nat_lit 32, nat_lit 34, nat_lit 35, nat_lit 36, nat_lit 37, nat_lit 38, nat_lit 39, nat_lit 42, nat_lit 44, nat_lit 45, nat_lit 47, nat_lit 48, nat_lit 49, nat_lit 51, nat_lit 52, nat_lit 54, nat_lit 55, nat_lit 56, nat_lit 59, nat_lit 60, nat_lit 61, nat_lit 63, nat_lit 64, nat_lit 66, nat_lit 67, nat_lit 68, nat_lit 70, nat_lit 71, nat_lit 73, nat_lit 74, nat_lit 75, nat_lit 77, nat_lit 78, nat_lit 80, nat_lit 81, nat_lit 82, nat_lit 84, nat_lit 85, nat_lit 87, nat_lit 88, nat_lit 96, nat_lit 98, nat_lit 99, nat_lit 101, nat_lit 102, nat_lit 103, nat_lit 105, nat_lit 106, nat_lit 108, nat_lit 109, nat_lit 110, nat_lit 112, nat_lit 113, nat_lit 115, nat_lit 116, nat_lit 117, nat_lit 119, nat_lit 120, nat_lit 122, nat_lit 123, nat_lit 124, nat_lit 126, nat_lit 127, nat_lit 129, nat_lit 130, nat_lit 131, nat_lit 133, nat_lit 134, nat_lit 136, nat_lit 137, nat_lit 138, nat_lit 140, nat_lit 141, nat_lit 143, nat_lit 144, nat_lit 145, nat_lit 147, nat_lit 148, nat_lit 150, nat_lit 151, nat_lit 152, nat_lit 154, nat_lit 155, nat_lit 157, nat_lit 158, nat_lit 159, nat_lit 161, nat_lit 162, nat_lit 164, nat_lit 165, nat_lit 166, nat_lit 168, nat_lit 169, nat_lit 171, nat_lit 172, nat_lit 173, nat_lit 174, nat_lit 175, nat_lit 176, nat_lit 177, nat_lit 180, nat_lit 188, nat_lit 190, nat_lit 191, nat_lit 193, nat_lit 194, nat_lit 195, nat_lit 197, nat_lit 198, nat_lit 200, nat_lit 201, nat_lit 202, nat_lit 204, nat_lit 205, nat_lit 207, nat_lit 208, nat_lit 209, nat_lit 211, nat_lit 212, nat_lit 214, nat_lit 215, nat_lit 216, nat_lit 218, nat_lit 219, nat_lit 221, nat_lit 222, nat_lit 223, nat_lit 225, nat_lit 226, nat_lit 228, nat_lit 229, nat_lit 230, nat_lit 232, nat_lit 233, nat_lit 235, nat_lit 236, nat_lit 237, nat_lit 239, nat_lit 240, nat_lit 242, nat_lit 243, nat_lit 244, nat_lit 246, nat_lit 247, nat_lit 249, nat_lit 250, nat_lit 251, nat_lit 253, nat_lit 254, nat_lit 256, nat_lit 257, nat_lit 258, nat_lit 260, nat_lit 261, nat_lit 263, nat_lit 264, nat_lit 265, nat_lit 267, nat_lit 268, nat_lit 270, nat_lit 271, nat_lit 272, nat_lit 274, nat_lit 275, nat_lit 277, nat_lit 278, nat_lit 279, nat_lit 281, nat_lit 282, nat_lit 284, nat_lit 285, nat_lit 286, nat_lit 288, nat_lit 289, nat_lit 291, nat_lit 292, nat_lit 293, nat_lit 295, nat_lit 296, nat_lit 298, nat_lit 299, nat_lit 300, nat_lit 301, nat_lit 302, nat_lit 303, nat_lit 304, nat_lit 307, nat_lit 309, nat_lit 310, nat_lit 312, nat_lit 313, nat_lit 314, nat_lit 316, nat_lit 317, nat_lit 319, nat_lit 320, nat_lit 321, nat_lit 323, nat_lit 324, nat_lit 326, nat_lit 327, nat_lit 328, nat_lit 331, nat_lit 332, nat_lit 333, nat_lit 335, nat_lit 336, nat_lit 338, nat_lit 339, nat_lit 340, nat_lit 342, nat_lit 343, nat_lit 345, nat_lit 346, nat_lit 347, nat_lit 349, nat_lit 350, nat_lit 352, nat_lit 353, nat_lit 354, nat_lit 356, nat_lit 357, nat_lit 359, nat_lit 360, nat_lit 361, nat_lit 363, nat_lit 364, nat_lit 366, nat_lit 367, nat_lit 368, nat_lit 370, nat_lit 371, nat_lit 373, nat_lit 374]
noncomputable def HK : Hook := kHook heapK asK (fun _ => by kernel_rfl)
noncomputable def viewT : Program := { PySem.Challenge.pw_no0083_01 with main := { PySem.Challenge.pw_no0083_01.main with body := [stAt 0, stAt 2, stAt 3, stAt 4, stAt 5, stAt 7, stAt 8, stAt 9, stAt 11, stAt 12, stAt 13, stAt 14, stAt 16, stAt 17, stAt 18, stAt 19, stAt 20, stAt 21, stAt 22, stAt 23, stAt 24, stAt 26, stAt 27, stAt 28, stAt 29, stAt 30, stAt 31, stAt 32, stAt 33, stAt 35, stAt 36, stAt 37, stAt 38, stAt 39, stAt 40, stAt 41, stAt 42, stAt 43, stAt 44] } }
noncomputable abbrev looseT : List Str := [Str.ofString "OPEN_STATES"]
noncomputable abbrev lvT : List (Str × WData) := [(Str.ofString "OPEN_STATES", WData.tuple [WData.str { cps := #[114, 101, 97, 100, 121] }, WData.str { cps := #[115, 101, 110, 100] }])]
theorem lft1 : LeftO PySem.Challenge.rw_no0083_01.row.toRowW.prog viewT looseT (fun s => xlAt viewT lvT s && recOk (RowW.records PySem.Challenge.rw_no0083_01.row.toRowW) s) (Hook.obs Hook.none) (Hook.val Hook.none) 4738 := by
  intro w
  kernel_rfl
theorem lft2 : ∀ w, (openEnds treeTable PySem.Challenge.rw_no0083_01.row.toRowW.prog w 4738).map (Hook.obs HK) = some (Hook.val HK w) := by
  intro w
  kernel_rfl
theorem lft : LeftO PySem.Challenge.rw_no0083_01.row.toRowW.prog viewT looseT (fun s => xlAt viewT lvT s && recOk (RowW.records PySem.Challenge.rw_no0083_01.row.toRowW) s) (Hook.obs HK) (Hook.val HK) 4738 := by
  intro w
  have a := lft1 w
  have b := lft2 w
  revert a b
  cases openEnds treeTable PySem.Challenge.rw_no0083_01.row.toRowW.prog w 4738 with
  | none => intro a b; cases b
  | some s =>
    intro a b
    rw [Option.map_some] at a b ⊢
    rw [(Prod.mk.inj (Option.some.inj a)).1, Option.some.inj b]
noncomputable section
theorem cps {G : Prop} (h : ∀ R : Prop, (G → R) → R) : G := h G id
noncomputable abbrev Led := List (Addr × Obj)
noncomputable abbrev thePg : Program := Challenge.rw_no0083_01.row.prog
inductive D where
  | none | bool (b : Bool) | int (i : Int) | str (s : Str) | xs (n : Int) | by_ (n : Int) | tup (l : List D) | lst (l : List D)
inductive Bi where
  | len | max | min | sorted | range | list | bytes | int
noncomputable def Bi.val : Bi → Value
  | .len => .builtin "len" | .max => .builtin "max" | .min => .builtin "min" | .sorted => .builtin "sorted" | .range => .type "range" | .list => .type "list" | .bytes => .type "bytes" | .int => .type "int"
inductive V where
  | d (x : D) | g (i : Nat) | l (i : Nat) | top (a : Addr) | bi (b : Bi) | exc (c : Int)
inductive AObj where
  | inst (C : Addr) (fs : List (Str × D)) | lst (ds : List D) | sdict (kvs : List (Str × V)) | iset (ks : List Int) | box (x : Nat) (sd : Int)
structure St where
  W : List AObj
  Lc : List (Option (List D))
  vars : List (Str × V)
structure Cn where
  ga : List Addr
  la : List Addr
  imm : Led
noncomputable abbrev tupObj (vs : List Value) : Obj := { cls := .type "tuple", data := .seq vs.toArray }
noncomputable abbrev xsB (n : Nat) : List UInt8 := List.replicate n 120
theorem news_sub {h₀ h : Heap} {L : Addr} {l l' : Led} (N : News h₀ L h l) (hs : ∀ p ∈ l', p ∈ l) : News h₀ L h l' := fun p hp => N p (hs p hp)
mutual
noncomputable def BD (I : Led) : D → Value → Prop
  | .none, v => v = .none
  | .bool b, v => v = .bool b
  | .int i, v => ∃ t, v = .int i t
  | .str s, v => ∃ t, v = .str s t
  | .xs n, v => (0 ≤ n ∧ n ≤ 4096) ∧ ∃ t, v = .bytes (xsB n.toNat).toArray t
  | .by_ n, v => ∃ b t, v = .bytes (List.toArray b) t ∧ (b.length : Int) = n ∧ n ≤ 4096
  | .tup l, v => ∃ a ws, v = .ref a ∧ (a, tupObj ws) ∈ I ∧ BDs I l ws
  | .lst l, v => ∃ a ws n, v = .ref a ∧ (a, listOf ws.toArray n) ∈ I ∧ BDs I l ws ∧ l.length ≤ 4096
noncomputable def BDs (I : Led) : List D → List Value → Prop
  | [], vs => vs = []
  | d :: r, vs => ∃ v q, vs = v :: q ∧ BD I d v ∧ BDs I r q
end
theorem BDs.nil {I : Led} : BDs I [] [] := by simp only [BDs]
theorem BDs.cons {I : Led} {d : D} {v : Value} {r : List D} {q : List Value} (h : BD I d v) (t : BDs I r q) : BDs I (d :: r) (v :: q) := by simp only [BDs]; exact ⟨_, _, rfl, h, t⟩
theorem BDs.nil_inv {I : Led} {vs : List Value} (h : BDs I [] vs) : vs = [] := by simpa only [BDs] using h
theorem BDs.cons_inv {I : Led} {d : D} {r : List D} {vs : List Value} (h : BDs I (d :: r) vs) : ∃ v q, vs = v :: q ∧ BD I d v ∧ BDs I r q := by simpa only [BDs] using h
mutual
theorem BD.mono {I J : Led} (s : ∀ p ∈ I, p ∈ J) : ∀ {d : D} {v : Value}, BD I d v → BD J d v
  | .none, _, h => by simp only [BD] at *; exact h
  | .bool _, _, h => by simp only [BD] at *; exact h
  | .int _, _, h => by simp only [BD] at *; exact h
  | .str _, _, h => by simp only [BD] at *; exact h
  | .xs _, _, h => by simp only [BD] at *; exact h
  | .by_ _, _, h => by simp only [BD] at *; exact h
  | .tup l, _, h => by
    refine cps fun Zz zz => ?_
    simp only [BD] at *
    obtain ⟨a, ws, e, hm, hl⟩ := h
    refine zz ?_
    exact ⟨a, ws, e, s _ hm, BDs.mono s hl⟩
  | .lst l, _, h => by
    refine cps fun Zz zz => ?_
    simp only [BD] at *
    obtain ⟨a, ws, n, e, hm, hl, hz⟩ := h
    refine zz ?_
    exact ⟨a, ws, n, e, s _ hm, BDs.mono s hl, hz⟩
theorem BDs.mono {I J : Led} (s : ∀ p ∈ I, p ∈ J) : ∀ {l : List D} {vs : List Value}, BDs I l vs → BDs J l vs
  | [], _, h => by simp only [BDs] at *; exact h
  | d :: r, _, h => by
    obtain ⟨v, q, e, a, b⟩ := h.cons_inv
    subst e
    exact .cons (BD.mono s a) (BDs.mono s b)
end
theorem BDs.len {I : Led} : ∀ {l : List D} {vs : List Value}, BDs I l vs → vs.length = l.length
  | [], _, h => by rw [h.nil_inv]; rfl
  | d :: r, _, h => by
    obtain ⟨v, q, e, a, b⟩ := h.cons_inv
    subst e
    exact congrArg (· + 1) b.len
theorem BDs.app {I : Led} {l2 : List D} {vs2 : List Value} (h2 : BDs I l2 vs2) : ∀ {l : List D} {vs : List Value}, BDs I l vs → BDs I (l ++ l2) (vs ++ vs2)
  | [], _, h => by rw [h.nil_inv]; exact h2
  | d :: r, _, h => by
    obtain ⟨v, q, e, a, b⟩ := h.cons_inv
    subst e
    exact .cons a (BDs.app h2 b)
theorem BDs.at {I : Led} : ∀ {l : List D} {vs : List Value}, BDs I l vs → ∀ {i : Nat} {v : Value}, vs[i]? = some v → ∃ d, l[i]? = some d ∧ BD I d v
  | [], _, h, i, v, e => by rw [h.nil_inv] at e; simp at e
  | d :: r, _, h, i, v, e => by
    obtain ⟨w, q, e', a, b⟩ := h.cons_inv
    subst e'
    cases i with
    | zero => simp at e; subst e; exact ⟨d, rfl, a⟩
    | succ i => rw [List.getElem?_cons_succ] at e ⊢; exact b.at e
theorem BDs.get {I : Led} : ∀ {l : List D} {vs : List Value}, BDs I l vs → ∀ {i : Nat} {d : D}, l[i]? = some d → ∃ v, vs[i]? = some v ∧ BD I d v
  | [], _, h, i, v, e => by simp at e
  | d :: r, _, h, i, x, e => by
    obtain ⟨w, q, e', a, b⟩ := h.cons_inv
    subst e'
    cases i with
    | zero => simp at e; subst e; exact ⟨w, rfl, a⟩
    | succ i => rw [List.getElem?_cons_succ] at e ⊢; exact b.get e
theorem BD.handed {I : Led} {d : D} {v : Value} (h : BD I d v) : handedIn v = true := by
  cases d <;> simp only [BD] at h
  case none => subst h; rfl
  case bool => subst h; rfl
  case int => obtain ⟨t, rfl⟩ := h; rfl
  case str => obtain ⟨t, rfl⟩ := h; rfl
  case xs => obtain ⟨_, t, rfl⟩ := h; rfl
  case by_ => obtain ⟨b, t, rfl, _⟩ := h; rfl
  case tup => obtain ⟨a, ws, rfl, _⟩ := h; rfl
  case lst => obtain ⟨a, ws, n, rfl, _⟩ := h; rfl
noncomputable def ExcDict (od : Obj) (code : Int) : Prop := ∃ es n, od = dictOf es n ∧ ∃ tc, getL (Str.ofString "code") es = some (some (.int code tc))
noncomputable def BV (n : Cn) : V → Value → Prop
  | .d x, v => BD n.imm x v
  | .g i, v => ∃ a, n.ga[i]? = some a ∧ v = .ref a
  | .l i, v => ∃ a, n.la[i]? = some a ∧ v = .ref a
  | .top a, v => v = .ref a
  | .bi b, v => v = b.val
  | .exc c, v => ∃ e d vs sl od, v = .ref e ∧ (e, (⟨.ref 38, some d, .fields vs, sl⟩ : Obj)) ∈ n.imm ∧ (d, od) ∈ n.imm ∧ ExcDict od c
noncomputable def BVs (n : Cn) : List V → List Value → Prop
  | [], vs => vs = []
  | x :: r, vs => ∃ v q, vs = v :: q ∧ BV n x v ∧ BVs n r q
noncomputable def Pfx (l l' : List Addr) : Prop := ∀ (i : Nat) (a : Addr), l[i]? = some a → l'[i]? = some a
structure Cn.Le (n n' : Cn) : Prop where
  ga : Pfx n.ga n'.ga
  la : Pfx n.la n'.la
  imm : ∀ p ∈ n.imm, p ∈ n'.imm
theorem Cn.Le.refl {n : Cn} : n.Le n := ⟨fun _ _ h => h, fun _ _ h => h, fun _ h => h⟩
theorem Cn.Le.trans {a b c : Cn} (x : a.Le b) (y : b.Le c) : a.Le c := ⟨fun i q h => y.ga i q (x.ga i q h), fun i q h => y.la i q (x.la i q h), fun p h => y.imm p (x.imm p h)⟩
noncomputable abbrev Cn.noL (n : Cn) : Cn := ⟨n.ga, [], n.imm⟩
theorem Cn.Le.noL {n n' : Cn} (s : n.Le n') : n.noL.Le n'.noL := ⟨s.ga, fun _ _ h => h, s.imm⟩
theorem Cn.noL_le {n : Cn} : n.noL.Le n := ⟨fun _ _ h => h, fun i a h => by simp at h, fun _ h => h⟩
theorem BV.mono {n n' : Cn} (s : n.Le n') {x : V} {v : Value} (h : BV n x v) : BV n' x v := by
  cases x <;> simp only [BV] at *
  case d => exact BD.mono s.imm h
  case g => obtain ⟨a, e, r⟩ := h; exact ⟨a, s.ga _ _ e, r⟩
  case l => obtain ⟨a, e, r⟩ := h; exact ⟨a, s.la _ _ e, r⟩
  case top => exact h
  case bi => exact h
  case exc => obtain ⟨e, d, vs, sl, od, r, h1, h2, h3⟩ := h; exact ⟨e, d, vs, sl, od, r, s.imm _ h1, s.imm _ h2, h3⟩
theorem BVs.nil {n : Cn} : BVs n [] [] := rfl
theorem BVs.cons {n : Cn} {x : V} {v : Value} {r : List V} {q : List Value} (h : BV n x v) (t : BVs n r q) : BVs n (x :: r) (v :: q) := ⟨_, _, rfl, h, t⟩
theorem BVs.mono {n n' : Cn} (s : n.Le n') : ∀ {l : List V} {vs : List Value}, BVs n l vs → BVs n' l vs
  | [], _, h => h
  | _ :: _, _, ⟨v, q, e, a, b⟩ => ⟨v, q, e, a.mono s, b.mono s⟩
theorem BVs.len {n : Cn} : ∀ {l : List V} {vs : List Value}, BVs n l vs → vs.length = l.length
  | [], _, h => by rw [show _ = _ from h]; rfl
  | _ :: _, _, ⟨v, q, e, a, b⟩ => by subst e; exact congrArg (· + 1) b.len
theorem BVs.app {n : Cn} {l2 : List V} {vs2 : List Value} (h2 : BVs n l2 vs2) : ∀ {l : List V} {vs : List Value}, BVs n l vs → BVs n (l ++ l2) (vs ++ vs2)
  | [], _, h => by rw [show _ = _ from h]; exact h2
  | _ :: _, _, ⟨v, q, e, a, b⟩ => by subst e; exact .cons a (BVs.app h2 b)
noncomputable def okA (K : Frag) (C : Addr) (x : Str) : Bool := plainGet K C x && (match findIn K (.ref C) x with | some a => noGet K a | none => false) && (takerIn K C x == some none)
noncomputable def okC (K : Frag) (C : Addr) : Bool := hasDictIn K C && (plainOver K C && (findIn K (.ref C) (Str.ofString "__setattr__") == some (some (.builtin "object.__setattr__"))))
noncomputable def EsOk (P : Params) (I : Led) (C : Addr) : List (Str × D) → List DictEntry → Prop
  | [], es => es = []
  | x :: r, es => ∃ t v q, es = ⟨PyData.keyHash P x.1, .str x.1 t, v⟩ :: q ∧ BD I x.2 v ∧ okA (heapK P) C x.1 = true ∧ EsOk P I C r q
noncomputable def KvOk (n : Cn) : List (Str × V) → List (Str × Value) → Prop
  | [], kvs => kvs = []
  | x :: r, kvs => ∃ v q, kvs = (x.1, v) :: q ∧ BV n x.2 v ∧ KvOk n r q
theorem EsOk.mono {P : Params} {I J : Led} {C : Addr} (s : ∀ p ∈ I, p ∈ J) : ∀ {fs : List (Str × D)} {es : List DictEntry}, EsOk P I C fs es → EsOk P J C fs es
  | [], _, h => h
  | _ :: _, _, ⟨t, v, q, e, a, b, c⟩ => ⟨t, v, q, e, a.mono s, b, c.mono s⟩
theorem KvOk.mono {n n' : Cn} (s : n.Le n') : ∀ {fs : List (Str × V)} {es : List (Str × Value)}, KvOk n fs es → KvOk n' fs es
  | [], _, h => h
  | _ :: _, _, ⟨v, q, e, a, c⟩ => ⟨v, q, e, a.mono s, c.mono s⟩
noncomputable def RO (w : World) (n : Cn) (a : Addr) : AObj → Led → Prop
  | .inst C fs, f => ∃ d es m, f = [(a, instObj C d), (d, dictOf es m)] ∧ EsOk w.params n.imm C fs es ∧ okC (heapK w.params) C = true ∧ fs.length ≤ 100
  | .lst ds, f => ∃ ws m, f = [(a, listOf (List.toArray ws) m)] ∧ BDs n.imm ds ws ∧ ds.length ≤ 4096
  | .sdict kvs, f => ∃ o kvs', f = [(a, o)] ∧ o.IsDictOf (PySem.strKind thePg w) kvs' ∧ KvOk n.noL kvs kvs'
  | .iset ks, f => ∃ o kvs', f = [(a, o)] ∧ (a == sysModules) = false ∧ o.IsDictOf (PySem.intKind thePg w) kvs' ∧ kvs'.map (·.1) = ks
  | .box x sd, f => ∃ b t m, f = [(a, listOf #[.ref b, .int sd t] m)] ∧ n.ga[x]? = some b
noncomputable def RLo (n : Cn) (a : Addr) : Option (List D) → Led → Prop
  | none, f => f = []
  | some ds, f => ∃ ws m, f = [(a, listOf (List.toArray ws) m)] ∧ BDs n.imm ds ws ∧ ds.length ≤ 4096
theorem RO.mono {w : World} {n n' : Cn} (s : n.Le n') {a : Addr} {o : AObj} {f : Led} (h : RO w n a o f) : RO w n' a o f := by
  cases o <;> simp only [RO] at *
  case inst => obtain ⟨d, es, m, e, h1, h2⟩ := h; exact ⟨d, es, m, e, h1.mono s.imm, h2⟩
  case lst => obtain ⟨ws, m, e, h, z⟩ := h; exact ⟨ws, m, e, h.mono s.imm, z⟩
  case sdict => obtain ⟨o, k, e, h1, h2⟩ := h; exact ⟨o, k, e, h1, h2.mono s.noL⟩
  case iset => exact h
  case box => obtain ⟨b, t, m, e, h⟩ := h; exact ⟨b, t, m, e, s.ga _ _ h⟩
theorem RLo.mono {n n' : Cn} (s : n.Le n') {a : Addr} {o : Option (List D)} {f : Led} (h : RLo n a o f) : RLo n' a o f := by
  cases o <;> simp only [RLo] at *
  case none => exact h
  case some => obtain ⟨ws, m, e, h, z⟩ := h; exact ⟨ws, m, e, h.mono s.imm, z⟩
inductive Frs {α : Type} (R : Addr → α → Led → Prop) : List Addr → List α → Led → Prop
  | nil : Frs R [] [] []
  | cons {a x f as xs M} : R a x f → Frs R as xs M → Frs R (a :: as) (x :: xs) (f ++ M)
section
variable {α : Type} {R R' : Addr → α → Led → Prop}
theorem Frs.mono (s : ∀ a x f, R a x f → R' a x f) {as : List Addr} {xs : List α} {M : Led} (h : Frs R as xs M) : Frs R' as xs M := by
  induction h with
  | nil => exact .nil
  | cons a _ ih => exact .cons (s _ _ _ a) ih
theorem Frs.len {as : List Addr} {xs : List α} {M : Led} (h : Frs R as xs M) : as.length = xs.length := by
  induction h with
  | nil => rfl
  | cons a _ ih => exact congrArg (· + 1) ih
theorem Frs.lens {as : List Addr} {xs : List α} {M : Led} (h : Frs R as xs M) : ∀ {i : Nat} {x : α}, xs[i]? = some x → ∃ (a : Addr) (f pre post : Led), as[i]? = some a ∧ R a x f ∧ M = pre ++ (f ++ post) ∧ ∀ (x' : α) (f' : Led), R a x' f' → Frs R as (xs.set i x') (pre ++ (f' ++ post)) := by
  induction h with
  | nil => intro i x e; simp at e
  | cons hr ht ih =>
    rename_i a y f as xs M
    intro i x e
    cases i with
    | zero =>
      simp at e; subst e
      exact ⟨a, f, [], M, rfl, hr, rfl, fun x' f' h' => (Frs.cons h' ht : Frs R (a :: as) (x' :: xs) (f' ++ M))⟩
    | succ i =>
      refine cps fun Zz zz => ?_
      rw [List.getElem?_cons_succ] at e
      obtain ⟨b, g, pre, post, e1, e2, e3, e4⟩ := ih e
      refine zz ?_
      refine ⟨b, g, f ++ pre, post, e1, e2, by rw [e3, List.append_assoc], fun x' f' h' => ?_⟩
      rw [List.append_assoc]
      exact .cons hr (e4 x' f' h')
theorem Frs.lensG {as : List Addr} {xs : List α} {M : Led} (h : Frs R as xs M) {i : Nat} {x : α} (e : xs[i]? = some x) {Z : Prop} (k : ∀ (a : Addr) (f pre post : Led), as[i]? = some a → R a x f → M = pre ++ (f ++ post) → (∀ (x' : α) (f' : Led), R a x' f' → Frs R as (xs.set i x') (pre ++ (f' ++ post))) → Z) : Z := by
  obtain ⟨a, f, pre, post, e1, e2, e3, e4⟩ := h.lens e
  exact k a f pre post e1 e2 e3 e4
theorem Frs.snoc {as : List Addr} {xs : List α} {M : Led} (h : Frs R as xs M) {a : Addr} {x : α} {f : Led} (hx : R a x f) : Frs R (as ++ [a]) (xs ++ [x]) (M ++ f) := by
  induction h with
  | nil => simpa using Frs.cons hx .nil
  | cons hr _ ih => rw [List.append_assoc]; exact .cons hr ih
end
structure Cx where
  w : World
  p : Program
  loose : List Str
  mean : ExcName → Option Value
  mg : Str → Option Value
  mb : Str → Option Value
  dp : Nat
  un : Nat
  gd : Option (List Code)
  nm : Str
  sc : Scope
  L : Addr
  a : Addr
  cd : Value
  cl : List (Str × Addr)
  outer : List Env
  A₀ : Around
  base : Heap
  g₀ : Heap
  S : Bool
  hd : Option Value
  s₀ : Shared
  hk : sc.kind = .function
  room : Nat
  hdp : dp + 3 * room + 2 < recursionLimit
  hun : un + 40 * room + 200 < cLine
namespace Cx
noncomputable abbrev env (c : Cx) : Env := envX c.nm c.sc c.L c.a c.cd c.cl
noncomputable abbrev A (c : Cx) : Around := { handled := c.hd, depth := c.dp, frames := some (c.env :: c.outer), guards := c.gd, units := c.un }
noncomputable abbrev at_ (c : Cx) (h : Heap) (tk : Nat) : Shared := { c.s₀ with heap := h, toks := tk }
noncomputable abbrev M (c : Cx) : Model := model thePg c.w
noncomputable abbrev K (c : Cx) : Frag := heapK c.w.params
noncomputable abbrev fs (c : Cx) : List Addr := c.outer.filterMap (·.frame)
end Cx
noncomputable def Turn (c : Cx) (g : Heap) : Prop := match c.S with
  | false => g = c.g₀
  | true => KtsDicts c.fs g ∧ KtsTurn c.fs c.g₀ g ∧ c.K.In c.base ∧ Top c.p c.loose c.mean c.mg c.mb c.base
structure Amb (c : Cx) (g : Heap) : Prop where
  B : Below c.A₀ c.base c.outer g
  X : c.K.In g
  T : Top c.p c.loose c.mean c.mg c.mb g
  t : Turn c g
noncomputable def leqN : List Nat → List Nat → Bool
  | [], [] => true
  | a :: r, b :: q => match Nat.beq a b with
    | true => leqN r q
    | false => false
  | _, _ => false
noncomputable def seq (a b : Str) : Bool := leqN a.cps.toList b.cps.toList
theorem leqN_iff : ∀ a b : List Nat, leqN a b = true ↔ a = b
  | [], [] => ⟨fun _ => rfl, fun _ => rfl⟩
  | [], _ :: _ => ⟨fun h => (nomatch h), fun h => (nomatch h)⟩
  | _ :: _, [] => ⟨fun h => (nomatch h), fun h => (nomatch h)⟩
  | a :: r, b :: q => by
    unfold leqN
    cases e : Nat.beq a b with
    | true => rw [Nat.eq_of_beq_eq_true e]; simp [leqN_iff r q]
    | false => simp [Nat.ne_of_beq_eq_false e]
theorem seq_iff {a b : Str} : seq a b = true ↔ a = b := by
  unfold seq
  rw [leqN_iff]
  exact ⟨fun h => by cases a; cases b; exact congrArg Str.mk (Array.toList_inj.mp h), fun h => by rw [h]⟩
theorem seq_eq (a b : Str) : seq a b = (a == b) := by
  rw [Bool.eq_iff_iff, seq_iff, beq_iff_eq]
noncomputable def lk {α : Type} (x : Str) : List (Str × α) → Option α
  | [] => none
  | p :: r => match seq x p.1 with
    | true => some p.2
    | false => lk x r
noncomputable def isCellK : Option NameKind → Bool
  | some .cell => true
  | _ => false
noncomputable def VarsOk (c : Cx) (n : Cn) (pins : Led) (m : Str → Option Value) (vars : List (Str × V)) : Prop :=
  ∀ x y, lk x vars = some y → ∃ v, BV n y v ∧ (x == Str.ofString "__debug__") = false ∧ ((c.sc.names.lookup x = some .local ∧ m x = some v) ∨ (c.sc.names.lookup x = some .cell ∧ ∃ ca o, c.cl.lookup x = some ca ∧ (ca, o) ∈ pins ∧ o.data = .cell (some v)))
inductive Rel (c : Cx) (pins : Led) (n : Cn) (st : St) (h : Heap) : Prop
  | mk (g : Heap) (m : Str → Option Value) (MW ML : Led) (Am : Amb c g) (F : Fr g c.L h m) (N : News g c.L h (MW ++ (ML ++ (n.imm ++ pins)))) (ND : ((MW ++ (ML ++ (n.imm ++ pins))).map (·.1)).Nodup)
      (RW : Frs (RO c.w n) n.ga st.W MW) (RL : Frs (RLo n) n.la st.Lc ML) (RV : VarsOk c n pins m st.vars)
inductive Out (c : Cx) (pins : Led) {α β : Type} (R : Cn → β → α → Prop) (n : Cn) (k : β → St → Prop) (v : α) : Shared → Prop
  | mk (n' : Cn) (b : β) (st : St) (h : Heap) (tk : Nat) (le : n.Le n') (r : Rel c pins n' st h) (rv : R n' b v) (q : k b st) : Out c pins R n k v (c.at_ h tk)
end
noncomputable section
noncomputable abbrev excObj (d t : Addr) : Obj := { cls := .ref 38, dict := some d, data := .fields #[.ref t, .none, .none, .none, .bool false, .none] }
noncomputable abbrev excObj0 (t : Addr) : Obj := { cls := .ref 38, dict := none, data := .fields #[.ref t, .none, .none, .none, .bool false, .none] }
section
variable {h₀ : Heap} {L : Addr} {m : Str → Option Value}
theorem made_news {h h' : Heap} {e : Addr} {rest : List Value} {news : Led} (hm : Heap.MadeExcOf h h' e (.ref 38) rest) (F : Fr h₀ L h m) (N : News h₀ L h news) :
    ∃ t, Fr h₀ L h' m ∧ News h₀ L h' ((e, excObj0 t) :: news) ∧ (∀ p ∈ news, p.1 ≠ e) := by
  refine cps fun Zz zz => ?_
  obtain ⟨t, he, htn, ht⟩ := hm.there
  have fr : ∀ b, h.get? b = none → h₀.get? b = none := fun b hb => by
    cases q : h₀.get? b with
    | none => rfl
    | some o => have := F.keep b o q; rw [hb] at this; cases this
  have hL : ∀ b, h.get? b = none → b ≠ L := fun b hb q => by
    obtain ⟨o, _, _, ho, _⟩ := F.ns
    rw [q, ho] at hb; cases hb
  refine zz ?_
  refine ⟨t, F.after hm.keeps, fun q hq => ?_, fun q hq z => ?_⟩
  · rcases List.mem_cons.mp hq with rfl | hq
    · exact ⟨he, hL _ hm.new, fr _ hm.new⟩
    · exact ⟨hm.keeps _ _ (N q hq).1, (N q hq).2⟩
  · have := (N q hq).1; rw [z, hm.new] at this; cases this
end

section
open PySem.Builtin PySem.Builtin.ObjectAttr PySem.Builtin.Getset_descriptor
structure ExcCls (K : Frag) (cd : ClassData) : Prop where
  hc : clsIn K 38 = some cd
  hm : cd.mro = [.ref 38, .type "Exception", .type "BaseException", .type "object"]
  hd : cd.hasDict = true

section
variable {prog : Program} {w : World} {A : Around} {E : Value → Shared → Prop} {K : Frag} {cd : ClassData} {x : Addr} {s : Shared} {h₀ : Heap} {L : Addr} {m : Str → Option Value} {news news' : List (Addr × Obj)} {R : Result → Shared → Prop}
theorem exc_osa_open {ox : Obj} {od : Option Obj} {name : Str} {tk : Tok} {v : Value} (X : K.In s.heap) (I : InstAt s.heap x ox 38 od) (hp : ExcCls K cd) (ht : findIn K (.ref 38) name = some none)
    (h : wpAny (model prog w) A.in1 (storeInOwnDict (.ref x) (.ref 38) (.str name tk) name v false)
      (fun fin s' => match fin with | .done f => R (.ok f) s' | .again c' => c'.quiet = true ∧ codeAny (model prog w) A c' R s') (fun e s' => R (.error e) s') s) :
    codeAny (model prog w) A (.call (.builtin "object.__setattr__") ⟨[.ref x, .str name tk, v], []⟩) R s := by
  have SF := PySem.F.store_Exception
  have hc := hp.hc
  have hmro := hp.hm
  have sub : Looks (model prog w) s.heap (isInstance (.ref x) (.type "object")) true := I.type.andThen (looks_mroIn X (by unfold mroIn; rw [hc, Option.bind_some, hmro]; rfl))
  refine codeAny_call_builtin SF.slot.plain SF.entry (@check_slot (model prog w) _ _ s "object.__setattr__" "object" "__setattr__" (.ref x) [.str name tk, v] [] _ SF.kind SF.split sub (SF.args (.ref x) (.str name tk) v) ?_)
  have hm : Looks (model prog w) s.heap (mroOf (.ref 38)) cd.mro := (looks_clsIn X hc).andThen .now
  rw [osa_eq, refuse_eq]
  refine wpAny_bind (wpAny_bind (I.type.here (wpAny_bind (hm.here ?_))))
  rw [hmro, refuseLoop_ref, SF.passes]
  exact wpAny_pure (wpAny_bind (I.type.here (wpAny_bind ((looks_findIn X ht).here (wpAny_bind (wpAny_pure h))))))

theorem exc_osa_first {e t : Addr} {name : Str} {v : Value} {tk : Tok} (F : Fr h₀ L s.heap m) (X : K.In s.heap) (N : News h₀ L s.heap ((e, excObj0 t) :: news)) (hne : ∀ p ∈ news, p.1 ≠ e)
    (hp : ExcCls K cd) (ht : findIn K (.ref 38) name = some none)
    (h : ∀ d h', Fr h₀ L h' m → News h₀ L h' ((e, excObj d t) :: (d, dictOf [⟨PyData.keyHash w.params name, .str name s.toks, v⟩] 1) :: news) → (∀ p ∈ news, p.1 ≠ d) → @LT.lt Nat _ e d → R (.ok (.ret .none)) { s with heap := h', toks := s.toks + 1 }) :
    codeAny (model prog w) A (.call (.builtin "object.__setattr__") ⟨[.ref e, .str name tk, v], []⟩) R s := by
  have D := N (e, excObj0 t) (.head _)
  have I : InstAt s.heap e (excObj0 t) 38 none := ⟨D.1, rfl, rfl, trivial⟩
  refine exc_osa_open X I hp ht ?_
  have hc := hp.hc
  have hd' := hp.hd
  have N1 := News.push F N emptyDict
  have F1 := F.push emptyDict
  have he : e ≠ s.heap.objs.size := Nat.ne_of_lt (Heap.lt_size D.1)
  have hn : ∀ p ∈ news, p.1 ≠ s.heap.objs.size := fun p q => Nat.ne_of_lt (Heap.lt_size (N p (.tail _ q)).1)
  obtain ⟨F2, N2⟩ := news_upd (pre := [(s.heap.objs.size, emptyDict)]) (post := news) (d := e) (o := excObj0 t) (o' := excObj s.heap.objs.size t) (f := fun o => { o with dict := some s.heap.objs.size }) F1 N1
    (fun p q => by rw [List.mem_singleton.mp q]; exact he.symm) hne rfl rfl
  obtain ⟨F3, N3⟩ := news_upd (pre := []) (post := (e, excObj s.heap.objs.size t) :: news) (d := s.heap.objs.size) (o := emptyDict) (o' := dictOf [⟨PyData.keyHash w.params name, .str name s.toks, v⟩] 1)
    (f := Obj.putName name (PyData.keyHash w.params name) (.str name s.toks) v) F2 N2
    (fun _ q => nomatch q) (fun p q => by rcases List.mem_cons.mp q with rfl | q; exact he; exact hn p q) (by exact putName_dict name _ _ _ [] 0) rfl
  have D2 := (N2 _ (.head _)).1
  have D3 := (N3 _ (.head _)).1
  refine wpAny_bind (wpAny_pure (wpAny_bind (wpAny_bind (wpAny_loadPart D.1 (wpAny_bind ((looks_clsIn X hc).here ?_))))))
  rw [hd']
  refine wpAny_bind (wpAny_alloc (wpAny_bind (wpAny_update (Heap.get?_push_of_some _ D.1) ?_)))
  refine wpAny_pure (a := some s.heap.objs.size) (wpAny_bind (wpAny_pure (wpAny_bind ?_)))
  unfold nsSet
  refine wpAny_bind (wpAny_bind (wpAny_askSetting (wpAny_pure (wpAny_bind (wpAny_mkText (wpAny_bind (wpAny_loadPart D2 ?_)))))))
  refine wpAny_updatePart D2 ?_
  refine wpAny_bind (wpAny_lookBehind D3 (pastItsLine_dict (by rw [List.size_toArray, sizeLine_eq]; simp)) ?_)
  exact wpAny_pure (h _ _ F3 (news_sub N3 (fun p q => by simp only [List.nil_append, List.mem_cons] at q ⊢; rcases q with q | q | q <;> simp [q])) hn (Heap.lt_size D.1))

theorem exc_set_first {e t : Addr} {name : Str} {v : Value} {Q : Unit → Shared → Prop} (F : Fr h₀ L s.heap m) (X₀ : K.In h₀) {adr : List Addr} (N : News h₀ L s.heap ((e, excObj0 t) :: news)) (hne : ∀ p ∈ news, p.1 ≠ e) (off : OwnOff news adr)
    (hp : ExcCls K cd) (ht : findIn K (.ref 38) name = some none) (hs : findIn K (.ref 38) "__setattr__" = some (some (.builtin "object.__setattr__")))
    (h : ∀ d h' tk, Fr h₀ L h' m → News h₀ L h' ((e, excObj d t) :: (d, dictOf [⟨PyData.keyHash w.params name, .str name tk, v⟩] 1) :: news) → OwnOff news (d :: adr) → @LT.lt Nat _ e d → Q () { s with heap := h', toks := s.toks + 2 }) :
    wpAny (model prog w) A (setAttr (.ref e) name v) Q E s := by
  have X := X₀.keeps F.keep
  have D := N (e, excObj0 t) (.head _)
  have I : InstAt s.heap e (excObj0 t) 38 none := ⟨D.1, rfl, rfl, trivial⟩
  exact set_plain X I hs (exc_osa_first (s := { s with toks := s.toks + 1 }) F X N hne hp ht fun d h' F' N' a b => h d h' _ F' N' (fun p hp b hb => by rcases List.mem_cons.mp hb with rfl | hb; exact a p hp; exact off p hp b hb) b)

theorem exc_osa_dict {e t d : Addr} {name : Str} {v : Value} {tk : Tok} {es es' : List DictEntry} {n n' : Nat} (F : Fr h₀ L s.heap m) (X : K.In s.heap) (N : News h₀ L s.heap news) (he : (e, excObj d t) ∈ news) (hd : (d, dictOf es n) ∈ news)
    (hp : ExcCls K cd) (ht : findIn K (.ref 38) name = some none) (hl : (getL name es).isSome = true)
    (hput : (putL name (PyData.keyHash w.params name) (.str name s.toks) v es, putN name es n) = (es', n')) (U : Upd d (dictOf es n) (dictOf es' n') news news') (hz : es'.length ≤ 1000)
    (h : ∀ h', Fr h₀ L h' m → News h₀ L h' news' → R (.ok (.ret .none)) { s with heap := h', toks := s.toks + 1 }) :
    codeAny (model prog w) A (.call (.builtin "object.__setattr__") ⟨[.ref e, .str name tk, v], []⟩) R s := by
  obtain ⟨pre, post, rfl, rfl, a, b⟩ := U.split
  obtain ⟨e1, e2⟩ := Prod.mk.inj hput
  have D := (N _ he).1
  have Dd := (N (d, dictOf es n) hd).1
  have I : InstAt s.heap e (excObj d t) 38 (some (dictOf es n)) := ⟨D, rfl, rfl, Dd⟩
  refine exc_osa_open X I hp ht ?_
  have hc := hp.hc
  have hd' := hp.hd
  obtain ⟨U1, U2⟩ := news_upd (f := Obj.putName name (PyData.keyHash w.params name) (.str name s.toks) v) F N a b (by rw [putName_dict, e1, e2]) rfl
  have D' := (U2 (d, dictOf es' n') (by simp)).1
  refine wpAny_bind (wpAny_pure (wpAny_bind (wpAny_bind (wpAny_loadPart D (wpAny_bind ((looks_clsIn X hc).here ?_))))))
  rw [hd']
  refine wpAny_pure (a := some d) (wpAny_bind (wpAny_pure (wpAny_bind ?_)))
  unfold nsSet
  refine wpAny_bind (wpAny_bind (wpAny_askSetting (wpAny_pure (wpAny_bind (wpAny_mkText (wpAny_bind (wpAny_loadPart Dd ?_)))))))
  have c : (!es.toArray.any (·.key.isStr name) && es.toArray.any (·.refKey)) = false := by
    unfold getL at hl
    rw [← Array.any_toList, ← Array.any_toList]
    split at hl
    · rename_i en hen
      rw [List.any_eq_true.mpr ⟨en, List.mem_of_find?_eq_some hen, List.find?_some hen⟩]; rfl
    · split at hl
      · cases hl
      · rename_i z; rw [Bool.not_eq_true] at z; rw [z, Bool.and_false]
  dsimp only
  rw [aRefKeyMayBeTheName_at, c]
  refine wpAny_updatePart Dd ?_
  refine wpAny_bind (wpAny_lookBehind D' (pastItsLine_dict (by rw [List.size_toArray, sizeLine_eq]; omega)) ?_)
  exact wpAny_pure (h _ U1 U2)

theorem exc_set_dict {e t d : Addr} {name : Str} {v : Value} {es es' : List DictEntry} {n n' : Nat} {Q : Unit → Shared → Prop} (F : Fr h₀ L s.heap m) (X₀ : K.In h₀) (N : News h₀ L s.heap news) (he : (e, excObj d t) ∈ news) (hd : (d, dictOf es n) ∈ news)
    (hp : ExcCls K cd) (ht : findIn K (.ref 38) name = some none) (hs : findIn K (.ref 38) "__setattr__" = some (some (.builtin "object.__setattr__"))) (hl : (getL name es).isSome = true)
    (hput : (putL name (PyData.keyHash w.params name) (.str name (s.toks + 1)) v es, putN name es n) = (es', n')) (U : Upd d (dictOf es n) (dictOf es' n') news news') (hz : es'.length ≤ 1000)
    (h : ∀ h', Fr h₀ L h' m → News h₀ L h' news' → Q () { s with heap := h', toks := s.toks + 2 }) :
    wpAny (model prog w) A (setAttr (.ref e) name v) Q E s := by
  have X := X₀.keeps F.keep
  have I : InstAt s.heap e (excObj d t) 38 (some (dictOf es n)) := ⟨(N _ he).1, rfl, rfl, (N (d, dictOf es n) hd).1⟩
  exact set_plain X I hs (exc_osa_dict (s := { s with toks := s.toks + 1 }) F X N he hd hp ht hl hput U hz fun h' F' N' => h h' F' N')

theorem ExcF : ExcBaseFacts "Exception" "Exception.__new__" "Exception.__init__" [.type "Exception", .type "BaseException", .type "object"] := PySem.F.excBase_Exception

theorem exc_init_builtin {e t : Addr} {x : Value} {nm q : Str} {N₁ : Addr} {bs : List Value} {sn : List Str} {sub : List Value} {ab : Bool} {col : Option Bool} {dd : Option Addr} {k0 k1 k2 k3 k5 : Option Value} {Q : Value → Shared → Prop}
    (F : Fr h₀ L s.heap m) (X₀ : K.In h₀) (N : News h₀ L s.heap ((e, excObj0 t) :: news)) (hne : ∀ p ∈ news, p.1 ≠ e)
    (hK : K.lookup 38 = some (excClassObj nm q 38 N₁ bs [.type "Exception", .type "BaseException", .type "object"] true sn sub ab col dd k0 k1 k2 k3 k5 "Exception.__new__"))
    (h : ∀ t' h', Fr h₀ L h' m → News h₀ L h' ((e, excObj0 t') :: news) → Q .none { s with heap := h' }) :
    wpAny (model prog w) A (call (.builtin "Exception.__init__") [.ref e, x]) Q E s := by
  have D := (N _ (.head _)).1
  have N1 := News.push F N (tupObj [x])
  have F1 := F.push (tupObj [x])
  have he : e ≠ s.heap.objs.size := Nat.ne_of_lt (Heap.lt_size D)
  have hC := F.keep _ _ (X₀ _ _ hK)
  obtain ⟨F2, N2⟩ := news_upd (pre := [(s.heap.objs.size, tupObj [x])]) (post := news) (d := e) (o := excObj0 t) (o' := excObj0 s.heap.objs.size) (f := Obj.mapFields (·.setIfInBounds 0 (.ref s.heap.objs.size))) F1 N1
    (fun p q => by rw [List.mem_singleton.mp q]; exact he.symm) hne rfl rfl
  obtain ⟨hh, g, d, tk, os⟩ := s
  refine wpAny_call (codeAny_call_builtin ExcF.init.plain ExcF.initEntry (wpAny_check_init_sub ExcF hC D rfl ?_))
  wp_walk
  exact h _ _ F2 (news_sub N2 fun p q => .tail _ q)
end
end

noncomputable def Fly (l : List Env) (e d : Addr) (fl : Value) (B h : Heap) : Prop :=
  B.StaysIn h ∧ B.get? e = none ∧ h.FunFrames B l ∧ ∃ vs sl T oT ts, h.get? e = some ⟨.ref 38, some d, .fields vs, sl⟩ ∧ vs[1]? = some (.ref T) ∧ B.get? T = none ∧ T ≠ e ∧ h.get? T = some oT ∧ oT.data = .fields ts ∧ ts[3]? = some fl

section
variable {M : Model} {A : Around} {E : Value → Shared → Prop} {s : Shared} {B : Heap} {env : Env} {outer l : List Env} {L e d : Addr} {fl : Value} {Q : Unit → Shared → Prop}

theorem fly_entry {vs : Array Value} {sl : Array (Option Value)} {head : Value} {hadNext : Bool}
    (hfr : A.frames = some (env :: outer)) (hl : s.heap.FunFrames B (env :: outer)) (hf : env.frame = some L)
    (he : s.heap.get? e = some ⟨.ref 38, some d, .fields vs, sl⟩) (hkb : B.StaysIn s.heap) (hen : B.get? e = none) (hsz : 1 < vs.size)
    (h : ∀ h', Fly (env :: outer) e d (rawInt L) B h' → s.heap.UpToSlots h' → Q () { s with heap := h' }) :
    wpAny M A (do let a ← frameOf env; let pl ← entryPlaceOf L hadNext; let b ← EntryCells.newEntry head a .none (rawInt L) .none pl; setField (.ref e) 1 b) Q E s := by
  have hene : e ∉ (env :: outer).filterMap (·.frame) := fun hm => by
    obtain ⟨_, o, ho, hnf⟩ := hl.mem hm
    rw [he] at ho; injection ho with ho; subst ho; exact hnf vs rfl
  refine wpAny_bind (wpAny_frameOf_fun hfr hl hf fun h₁ hs₁ => ?_)
  refine wpAny_bind (wpAny_entryPlaceOf fun pl hpl => ?_)
  unfold EntryCells.newEntry newFields
  refine wpAny_bind (wpAny_newObj_type ?_ (hpl.sizeOk5 _ _ _ _ _))
  have he₁ : h₁.get? e = some ⟨.ref 38, some d, .fields vs, sl⟩ := (hs₁.2.1 e hene).trans he
  have kb₁ : B.StaysIn h₁ := fun b o hbo => (hs₁.2.1 b fun hm => by rw [(hl.mem hm).1] at hbo; cases hbo).trans (hkb b o hbo)
  generalize hts : ([head, .ref L, .none, rawInt L, .none] ++ (if pl.isEmpty then List.replicate 6 Value.none else pl)).toArray = ts
  have h3 : ts[3]? = some (rawInt L) := by
    rw [← hts]
    first | (simp; done) | (rcases hpl with rfl | ⟨_, _, _, _, _, _, _, rfl⟩ <;> simp)
  have he₂ := Heap.get?_push_of_some (h := h₁) { cls := .type "traceback", dict := none, data := .fields ts } he₁
  refine wpAny_setField he₂ rfl hsz (h _ ?_ ?_)
  · have hTe : h₁.objs.size ≠ e := Nat.ne_of_gt (Heap.lt_size he₁)
    refine ⟨fun b o hbo => ?_, hen, hl.of_keeps fun b o hb hnf => ?_, vs.setIfInBounds 1 (.ref h₁.objs.size), sl, h₁.objs.size, _, ts, ?_, by simp [hsz], kb₁.fresh, hTe,
      (Heap.get?_update_other _ _ (Ne.symm hTe)).trans (Heap.get?_push_size h₁ rfl), rfl, h3⟩
    · have hbe : b ≠ e := fun q => by rw [q, hen] at hbo; cases hbo
      rw [Heap.get?_update_other _ _ (Ne.symm hbe)]
      exact Heap.get?_push_of_some _ (kb₁ b o hbo)
    · obtain ⟨s2, hs⟩ := hs₁.2.2 b o hb
      have hbe : b ≠ e := fun q => by rw [q, he] at hb; cases hb; exact hnf vs rfl
      exact ⟨_, (Heap.get?_update_other _ _ (Ne.symm hbe)).trans (Heap.get?_push_of_some _ hs), rfl⟩
    · exact Heap.get?_update_self (Obj.mapFields (·.setIfInBounds 1 (Value.ref h₁.objs.size))) he₂ rfl
  · intro b o hb hnf
    obtain ⟨s2, hs⟩ := hs₁.2.2 b o hb
    have hbe : b ≠ e := fun q => by rw [q, he] at hb; cases hb; exact hnf vs rfl
    exact ⟨s2, (Heap.get?_update_other _ _ (Ne.symm hbe)).trans (Heap.get?_push_of_some _ hs)⟩

theorem fly_land (x : Fly l e d fl B s.heap) (h : ∀ h', Fly l e d .none B h' → s.heap.UpToSlots h' → Q () { s with heap := h' }) : wpAny M A (setFlight (.ref e) none) Q E s := by
  refine cps fun Zz zz => ?_
  obtain ⟨hkb, hen, hl, vs, sl, T, oT, ts, he, h1, hnT, hTe, hT, hdT, h3⟩ := x
  have hsz3 : 3 < ts.size := (Array.getElem?_eq_some_iff.mp h3).1
  have other : ∀ b, b ≠ T → (s.heap.update T (Obj.mapFields (·.setIfInBounds 3 ((none : Option Addr).elim Value.none fun f => rawInt f)))).get? b = s.heap.get? b := fun b hb => Heap.get?_update_other _ _ (Ne.symm hb)
  have noRecord : ∀ b o, s.heap.get? b = some o → (∀ vs, o.data ≠ .fields vs) → b ≠ T := fun b o hb hnf q => by
    rw [q, hT] at hb; injection hb with hb; subst hb; exact hnf ts hdT
  refine zz ?_
  unfold setFlight
  refine wpAny_bind (wpAny_field he rfl h1 ?_)
  rw [if_pos (show (Value.ref T != Value.none) = true from by simp)]
  refine wpAny_setField hT hdT hsz3 (h _ ⟨fun b o hbo => (other b fun q => by rw [q, hnT] at hbo; cases hbo).trans (hkb b o hbo), hen,
    hl.of_keeps fun b o hb hnf => ⟨o, (other b (noRecord b o hb hnf)).trans hb, rfl⟩, vs, sl, T, _, _, (other e (Ne.symm hTe)).trans he, h1, hnT, hTe,
    Heap.get?_update_self _ hT (Obj.isFreed_of_fields (Obj.data_mapFields hdT _)), Obj.data_mapFields hdT _, by simp [hsz3]⟩ fun b o hb hn => ⟨o.slots, (other b (noRecord b o hb hn)).trans hb⟩)

theorem fly_look (hfr : A.frames = some (env :: outer)) (hf : env.frame = some L) (x : Fly (env :: outer) e d .none B s.heap)
    (h : ∀ h', Fly (env :: outer) e d (rawInt L) B h' → s.heap.UpToSlots h' → Q () { s with heap := h' }) : wpAny M A (noteFrame (.ref e) env) Q E s := by
  refine cps fun Zz zz => ?_
  obtain ⟨hkb, hen, hl, vs, sl, T, oT, ts, he, h1, hnT, hTe, hT, hdT, h3⟩ := x
  refine zz ?_
  unfold noteFrame
  simp only [hf]
  refine wpAny_bind (wpAny_field he rfl h1 ?_)
  rw [if_pos (show (Value.ref T != Value.none) = true from by simp)]
  refine wpAny_bind (wpAny_field hT hdT h3 ?_)
  rw [if_neg (show ¬ ((Value.none == rawInt L) = true) from by simp [rawInt])]
  refine wpAny_bind (wpAny_setField hT hdT (Array.getElem?_eq_some_iff.mp h3).1 ?_)
  have other : ∀ b, b ≠ T → (s.heap.update T (Obj.mapFields (·.setIfInBounds 3 Value.none))).get? b = s.heap.get? b := fun b hb => Heap.get?_update_other _ _ (Ne.symm hb)
  have noRecord : ∀ b o, s.heap.get? b = some o → (∀ vs, o.data ≠ .fields vs) → b ≠ T := fun b o hb hnf q => by
    rw [q, hT] at hb; injection hb with hb; subst hb; exact hnf ts hdT
  refine fly_entry hfr (hl.of_keeps fun b o hb hnf => ⟨o, (other b (noRecord b o hb hnf)).trans hb, rfl⟩) hf ((other e (Ne.symm hTe)).trans he)
    (fun b o hbo => (other b fun q => by rw [q, hnT] at hbo; cases hbo).trans (hkb b o hbo)) hen (Array.getElem?_eq_some_iff.mp h1).1
    fun h' y u => h h' y fun b o hb hnf => u b o ((other b (noRecord b o hb hnf)).trans hb) hnf

theorem fly_first (hfr : A.frames = some (env :: outer)) (hf : env.frame = some L) {t : Addr} (hl : s.heap.FunFrames B (env :: outer)) (he : s.heap.get? e = some (excObj d t)) (hkb : B.StaysIn s.heap) (hen : B.get? e = none)
    (h : ∀ h', Fly (env :: outer) e d (rawInt L) B h' → s.heap.UpToSlots h' → Q () { s with heap := h' }) : wpAny M A (noteFrame (.ref e) env) Q E s := by
  unfold noteFrame
  simp only [hf]
  refine wpAny_bind (wpAny_field he rfl (x := .none) rfl ?_)
  rw [if_neg (by decide)]
  exact fly_entry hfr hl hf he hkb hen (by simp) h

theorem fly_tail (x : Fly (env :: outer) e d fl B s.heap) : Fly outer e d fl B s.heap := ⟨x.1, x.2.1, x.2.2.1.2.2, x.2.2.2⟩

theorem fly_leave_first (hfr : A.frames = some (env :: outer)) (hf : env.frame = some L) {t : Addr} (hl : s.heap.FunFrames B (env :: outer)) (he : s.heap.get? e = some (excObj d t)) (hkb : B.StaysIn s.heap) (hen : B.get? e = none)
    (h : ∀ h', Fly outer e d .none B h' → s.heap.UpToSlots h' → Q () { s with heap := h' }) : wpAny M A (leaving env (.ref e)) Q E s := by
  unfold leaving
  refine wpAny_bind (fly_first hfr hf hl he hkb hen fun h₁ x u => ?_)
  refine fly_land (s := { s with heap := h₁ }) x fun h₂ y v => ?_
  exact h h₂ (fly_tail (s := { s with heap := h₂ }) y) (u.trans v)
theorem fly_leave_next (hfr : A.frames = some (env :: outer)) (hf : env.frame = some L) (x : Fly (env :: outer) e d .none B s.heap)
    (h : ∀ h', Fly outer e d .none B h' → s.heap.UpToSlots h' → Q () { s with heap := h' }) : wpAny M A (leaving env (.ref e)) Q E s := by
  unfold leaving
  refine wpAny_bind (fly_look hfr hf x fun h₁ x u => ?_)
  refine fly_land (s := { s with heap := h₁ }) x fun h₂ y v => ?_
  exact h h₂ (fly_tail (s := { s with heap := h₂ }) y) (u.trans v)
end


noncomputable def RaisedQ (base G : Heap) (l : List Env) (e d : Addr) (news : Led) (h : Heap) : Prop :=
  ∃ B, base.StaysIn B ∧ (∀ b o, G.get? b = some o → b ∉ l.filterMap (·.frame) → B.get? b = some o) ∧ (∀ q ∈ news, B.get? q.1 = some q.2 ∧ G.get? q.1 = none ∧ base.get? q.1 = none) ∧ Fly l e d .none B h

section
variable {M : Model} {A : Around} {E : Value → Shared → Prop} {s' : Shared} {base g g₂ : Heap} {outer : List Env} {L a e d t : Addr} {m : Str → Option Value} {name : Str} {scope : Scope} {cd : Value} {Q : Unit → Shared → Prop} {news : Led}

theorem leave_q_first (K : Below A base outer g) (F : Fr g L s'.heap m) (N : News g L s'.heap ((e, excObj d t) :: news)) (hne : ∀ p ∈ news, p.1 ≠ e)
    (hQ : ∀ h', RaisedQ base g outer e d news h' → g.UpToSlots h' → Q () { s' with heap := h' }) (hk : scope.kind = .function := by rfl) :
    wpAny M (A.deeper (envOf name scope L a cd)) (leaving (envOf name scope L a cd) (.ref e)) Q E s' := by
  have K' := K.push (name := name) (a := a) (cd := cd) F hk
  have he := N _ (.head _)
  have hin : ∀ env ∈ (envOf name scope L a cd :: outer), ∀ b, env.frame = some b → b ∈ e :: (envOf name scope L a cd :: outer).filterMap (·.frame) := fun env he b hb => .tail _ (List.mem_filterMap.mpr ⟨env, he, hb⟩)
  have bne : ∀ b o, base.get? b = some o → b ≠ e := fun b o q z => by rw [z, fresh_of_stays K.stays he.2.2] at q; cases q
  have gne : ∀ b o, g.get? b = some o → b ≠ e := fun b o q z => by rw [z, he.2.2] at q; cases q
  have st : base.StaysIn (hideAll s'.heap (e :: (envOf name scope L a cd :: outer).filterMap (·.frame))) := fun b o q => hideAll_get _ (K'.stays b o q) fun hm => by
    rcases List.mem_cons.mp hm with z | hm
    · exact bne b o q z
    · rw [(K'.frames.mem hm).1] at q; cases q
  have sg : ∀ b o, g.get? b = some o → b ∉ outer.filterMap (·.frame) → (hideAll s'.heap (e :: (envOf name scope L a cd :: outer).filterMap (·.frame))).get? b = some o := fun b o q nm => hideAll_get _ (F.keep b o q) fun hm => by
    rcases List.mem_cons.mp hm with z | hm
    · exact gne b o q z
    · rcases kts_mem hm with z | z
      · rw [z, kts_self F] at q
        cases q
      · exact nm z
  have hl : ∀ q ∈ news, (hideAll s'.heap (e :: (envOf name scope L a cd :: outer).filterMap (·.frame))).get? q.1 = some q.2 ∧ g.get? q.1 = none ∧ base.get? q.1 = none := fun q hq => by
    have hq' := N q (.tail _ hq)
    refine ⟨hideAll_get _ hq'.1 fun hm => ?_, hq'.2.2, fresh_of_stays K.stays hq'.2.2⟩
    rcases List.mem_cons.mp hm with z | hm
    · exact hne q hq z
    · obtain ⟨env, he, hf⟩ := List.mem_filterMap.mp hm
      rcases List.mem_cons.mp he with rfl | he
      · exact hq'.2.1 (Option.some.inj hf).symm
      · obtain ⟨o, ho, _⟩ := (K.frames.mem (List.mem_filterMap.mpr ⟨env, he, hf⟩)).2
        rw [hq'.2.2] at ho; cases ho
  exact fly_leave_first (B := hideAll s'.heap (e :: (envOf name scope L a cd :: outer).filterMap (·.frame))) K'.stack rfl (funFrames_hide K'.frames hin) he.1 (fun b o q => of_hideAll _ q) (hideAll_none _ (.head _))
    fun h' x u => hQ h' ⟨_, st, sg, hl, x⟩ ((Heap.UpToSlots.of_keeps F.keep).trans u)

theorem leave_q_on (K : Below A base outer g) (F : Fr g L g₂ m) (R : RaisedQ base g₂ (envOf name scope L a cd :: outer) e d news s'.heap) (hsm : g₂.UpToSlots s'.heap)
    (hQ : ∀ h', RaisedQ base g outer e d news h' → g.UpToSlots h' → Q () { s' with heap := h' }) :
    wpAny M (A.deeper (envOf name scope L a cd)) (leaving (envOf name scope L a cd) (.ref e)) Q E s' := by
  obtain ⟨B, hB, hBG, hl, hfl⟩ := R
  refine fly_leave_next (Around.frames_deeper K.stack) rfl hfl fun h' x u => hQ h' ⟨B, hB, fun b o q nm => hBG b o (F.keep b o q) (fun hm => by
      rcases kts_mem hm with z | z
      · rw [z, kts_self F] at q
        cases q
      · exact nm z), fun q hq => ⟨(hl q hq).1, kts_none F.keep (hl q hq).2.1, (hl q hq).2.2⟩, x⟩ ((Heap.UpToSlots.of_keeps F.keep).trans (hsm.trans u))
end

section
variable {prog : Program} {w : World} {A₀ : Around} {E : Value → Shared → Prop} {s' : Shared} {base g g₀ G : Heap} {outer : List Env} {L a e d : Addr} {m : Str → Option Value} {name : Str} {scope : Scope} {cd : Value} {cl : List (Str × Addr)}
  {n : Str} {b₀ : Stmt} {suite : List Stmt} {pos np : Pos} {rest : List ExceptHandler} {Q : Flow → Shared → Prop} {news : Led} {KF : Frag}
  {p : Program} {loose : List Str} {mean : ExcName → Option Value} {mg mb : Str → Option Value} {x : Str}

theorem caught_x (R : RaisedQ base G (envX name scope L a cd cl :: outer) e d news s'.heap) (F : Fr g L G m) (K : Below A₀ base outer g) (hsm : G.UpToSlots s'.heap) (XB : KF.In base) (TB : Top p loose mean mg mb base)
    (D : KtsDicts (outer.filterMap (·.frame)) g) (T0 : KtsTurn (outer.filterMap (·.frame)) g₀ g)
    (ex : nsIn KF mainGlobals x = some (some (.ref 38))) {nm q' : Str} {N₉ : Addr} {bs bm : List Value} {hdct : Bool} {sn : List Str} {sub : List Value} {ab : Bool} {col : Option Bool} {dd : Option Addr} {k0 k1 k2 k3 k5 : Option Value} {newId : String} (hC : KF.lookup 38 = some (excClassObj nm q' 38 N₉ bs bm hdct sn sub ab col dd k0 k1 k2 k3 k5 newId)) (hbase : bm.contains (.type "BaseException") = true)
    (k : ∀ h' g' vs sl tk, KtsTurn (outer.filterMap (·.frame)) g₀ g' → Fr g' L h' (fun y => if y = n then some (.ref e) else m y) → News g' L h' ((e, ⟨.ref 38, some d, .fields vs, sl⟩) :: news) → Below A₀ base outer g' → KF.In g' → Top p loose mean mg mb g' → KtsDicts (outer.filterMap (·.frame)) g' →
      wpAny (model prog w) ((A₀.deeper (envX name scope L a cd cl)).mark (some (.ref e))) (execs (b₀ :: suite) (envX name scope L a cd cl))
        (fun f s₄ => wpAny (model prog w) (A₀.deeper (envX name scope L a cd cl)) (do bindName (envX name scope L a cd cl) n .none; unbindBehindTheSuite (envX name scope L a cd cl) n pos) (fun _ s₅ => Q f s₅) E s₄)
        (AsSuiteRaised (model prog w) ((A₀.deeper (envX name scope L a cd cl)).mark (some (.ref e))) (envX name scope L a cd cl) n pos (notedBy (model prog w) ((A₀.deeper (envX name scope L a cd cl)).mark (some (.ref e))) (envX name scope L a cd cl) (cameBackBy (model prog w) (A₀.deeper (envX name scope L a cd cl)) (envX name scope L a cd cl) E)))
        { s' with heap := h', toks := tk })
    (hk : scope.kind = .function := by rfl) (hlo : (envX name scope L a cd cl).kindOf n = some .local := by rfl) (hx : (envX name scope L a cd cl).kindOf x = some .globalImplicit := by rfl) (hd : (x == ("__debug__" : Str)) = false := by decide) :
    wpAny (model prog w) (A₀.deeper (envX name scope L a cd cl)) (noteFrame (.ref e) (envX name scope L a cd cl))
      (fun _ s₂ => wpAny (model prog w) (A₀.deeper (envX name scope L a cd cl)) (setFlight (.ref e) none) (fun _ s₃ =>
        wpAny (model prog w) (A₀.deeper (envX name scope L a cd cl)) (handleBy (.ref e) (envX name scope L a cd cl) (.ExceptHandler (some (.Name x np)) (some n) (b₀ :: suite) pos :: rest)) Q E s₃) E s₂) E s' := by
  refine cps fun Zz zz => ?_
  obtain ⟨B, hB, hBG, hl, hfl⟩ := R
  have hL : B.get? L = none := by
    obtain ⟨_, ⟨L', _, hf, hn', _⟩, _⟩ := hfl.2.2.1
    obtain rfl : L = L' := Option.some.inj hf
    exact hn'
  refine zz ?_
  refine fly_look (Around.frames_deeper K.stack) rfl hfl fun h₄ hheld₄ hsm₄ => ?_
  refine fly_land (s := { s' with heap := h₄ }) hheld₄ fun h₅ hheld hsm₅' => ?_
  refine cps fun Zz zz => ?_
  have hsm₅ := hsm₄.trans hsm₅'
  obtain ⟨g₅, T₅, F₅, K₅⟩ := kts_ground (name := name) (scope := scope) (a := a) (cd := cd) K F hBG hheld.1 (hsm.trans hsm₅)
  have X₅ : KF.In g₅ := XB.keeps K₅.stays
  have P₅ : TopRead p loose mg mb g₅ := topRead_of (TB.keeps K₅.stays)
  obtain ⟨vs₅, sl₅, _, _, _, hob, _⟩ := hheld.2.2.2
  have hC₅ := F₅.keep _ _ (X₅ _ _ hC)
  refine zz ?_
  refine wpAny_handleBy_cons (codeAny_handlers_test (nameX_K F₅ X₅ P₅ ex ?_ hk hx hd)) (by intro q; cases q)
  refine wpAny_excMatches_sub_self hC₅ hob rfl hbase (codeAny_handlers_suite_as ?_)
  refine fly_land (s := { s' with heap := h₅ }) hheld fun h₆ hfl₆ hsm₆ => ?_
  refine cps fun Zz zz => ?_
  obtain ⟨g₆, T₆, F₆, K₆⟩ := kts_ground (name := name) (scope := scope) (a := a) (cd := cd) K F hBG hfl₆.1 ((hsm.trans hsm₅).trans hsm₆)
  obtain ⟨vs, sl, T, oT, ts, hoe, _⟩ := hfl₆.2.2.2
  have ne₆ : g₆.get? e = none := T₆.none_ _ (kts_fresh (name := name) (scope := scope) (a := a) (cd := cd) F hBG hfl₆.2.1 fun o ho m => by
    obtain ⟨_, o', ho', hd⟩ := K.frames.mem m
    rw [ho] at ho'
    cases ho'
    obtain ⟨sl, hs⟩ := ((hsm.trans hsm₅).trans hsm₆) _ _ (F.keep _ _ ho) hd
    rw [hoe] at hs
    obtain ⟨oc, od, odt, osl⟩ := o
    cases hs
    exact hd _ rfl)
  have N₆ := News.more F₆ News.nil hoe (fun es n q => by cases q) ne₆
  have Nl : News g₆ L h₆ news := fun q hq => ⟨hfl₆.1 _ _ (hl q hq).1, (fun z => by have := (hl q hq).1; rw [z, hL] at this; cases this), T₆.none_ _ (kts_none F.keep (hl q hq).2.1)⟩
  have X₆ : KF.In g₆ := XB.keeps K₆.stays
  have P₆ : Top p loose mean mg mb g₆ := TB.keeps K₆.stays
  have D₆ : KtsDicts (outer.filterMap (·.frame)) g₆ := D.turn T₆
  refine zz ?_
  refine storeX_L F₆ (news := _ ++ news) (fun q hq => (List.mem_append.mp hq).elim (N₆ q) (Nl q)) (fun h₇ F₇ N₇ => ?_) hk hlo
  exact k h₇ g₆ vs sl _ (T0.trans T₆) F₇ N₇ K₆ X₆ P₆ D₆
end


section
variable {prog : Program} {w : World} {A : Around} {E : Value → Shared → Prop} {K : Frag} {s : Shared} {h₀ : Heap} {L : Addr} {m : Str → Option Value} {news : Led} {e d : Addr} {vs : Array Value} {sl : Array (Option Value)} {es : List DictEntry} {n : Nat} {name : Str} {v : Value} {expr : Bool} {Q : Value → Shared → Prop} {cd : ClassData}

theorem exc_get (F : Fr h₀ L s.heap m) (X₀ : K.In h₀) (N : News h₀ L s.heap news) (he : (e, (⟨.ref 38, some d, .fields vs, sl⟩ : Obj)) ∈ news) (hd : (d, dictOf es n) ∈ news) (hl : getL name es = some (some v))
    (hp : ExcCls K cd) (ht : findIn K (.ref 38) name = some none) (hga : findIn K (.ref 38) "__getattribute__" = some (some (.builtin "BaseException.__getattribute__"))) (hgh : findIn K (.ref 38) "__getattr__" = some none)
    (hh : handedIn v = true) (h : Q v { s with toks := s.toks + 1 }) : wpAny (model prog w) A (getAttr (.ref e) name expr) Q E s := by
  have X := X₀.keeps F.keep
  have I : InstAt s.heap e ⟨.ref 38, some d, .fields vs, sl⟩ 38 (some (dictOf es n)) := ⟨(N _ he).1, rfl, rfl, (N (d, dictOf es n) hd).1⟩
  have hf : findObj K 38 (some (dictOf es n)) name = some (.value v) := findObj_own (by unfold hasDictIn; rw [hp.hc]; exact hp.hd) ht rfl (by rw [lookIn_dict]; exact hl)
  have sub : Looks (model prog w) s.heap (isInstance (.ref e) (.type "BaseException")) true := I.type.andThen (looks_mroIn X (by unfold mroIn; rw [hp.hc, Option.bind_some, hp.hm]; rfl))
  obtain ⟨hp', g, dr, t, os⟩ := s
  have L0 := I.type (M := model prog w)
  have L1 := looks_findIn (M := model prog w) X hga
  have L2 := looks_findIn (M := model prog w) X hgh
  have L3 := looks_find (M := model prog w) X I hf
  have hbind := PySem.F.attr_Exception.ga.bind (.ref e)
  have hx2 : (Value.builtin "BaseException.__getattribute__" == Value.builtin "object.__getattribute__") = false := by decide +kernel
  unfold getAttr getAttrBy
  refine wpAny_bind (wpAny_mkText (wpAny_holding (wpAny_bind (L0.at (wpAny_bind (L1.at ?_))))))
  dsimp only
  rw [hx2, Bool.and_false, if_neg (by decide)]
  unfold getAttrByItsOwn hookBefore callGetattribute boundAndCalled
  refine wpAny_bind ?_
  rw [if_pos (show onTheHeap (Value.ref 38) = true from rfl)]
  refine L2.at ?_
  refine wpAny_bind (wpAny_attempt (wpAny_holding ?_))
  rw [if_neg (by cases expr <;> decide), hbind]
  refine wpAny_bind (wpAny_pure (wpAny_call (codeAny_call_builtin PySem.F.attr_Exception.ga.plain PySem.F.entry_bexc_ga (@check_slot (model prog w) _ _ _ "BaseException.__getattribute__" "BaseException" "__getattribute__" (.ref e) [.str name t] [] _ (by decide +kernel) (by decide +kernel) (by exact sub) (PySem.F.args_bexc_ga (.ref e) _) ?_))))
  unfold Builtin.«object.__getattribute__»
  refine wpAny_bind (wpAny_pure (wpAny_bind (wpAny_pure (wpAny_bind (L0.at (wpAny_bind (L3.at ?_)))))))
  refine wpAny_pure ?_
  show wpAny _ _ (handedOut v) _ _ _
  rw [handedOut_of hh]; exact wpAny_pure h
end

noncomputable def RaisePost (K : Frag) (E : Value → Shared → Prop) (v : Value) (s₁ : Shared) : Prop := ∃ e d t, v = .ref e ∧ s₁.heap.get? e = some (excObj d t) ∧ K.In s₁.heap ∧ E (.ref e) s₁
section
variable {prog : Program} {w : World} {A : Around} {E : Value → Shared → Prop} {K : Frag} {s : Shared} {h₀ : Heap} {L : Addr} {m : Str → Option Value}
theorem raise_q {exc : Expr} {env : Env} {pos : Pos} {nm q : Str} {N₁ : Addr} {bs : List Value} {sn : List Str} {sub : List Value} {ab : Bool} {col : Option Bool} {dd : Option Addr} {k0 k1 k2 k3 k5 : Option Value} {Q : Flow → Shared → Prop}
    (hh : A.handled = none) (_X₀ : K.In h₀)
    (hK : K.lookup 38 = some (excClassObj nm q 38 N₁ bs [.type "Exception", .type "BaseException", .type "object"] true sn sub ab col dd k0 k1 k2 k3 k5 "Exception.__new__"))
    (h : wpAny (model prog w) A (eval exc env) (RaisePost K E) E s) : wpAny (model prog w) A (exec (.Raise (some exc) none pos) env) Q E s := by
  have hcB : (Value.ref 38 :: [.type "Exception", .type "BaseException", .type "object"]).contains (.type "BaseException") = true := by decide
  rw [arm_exec_Raise]
  refine wpAny_bind (wpAny_standAt ?_)
  show wpAny _ _ (raiseStmt env (some (do let v ← eval exc env; standAt pos; pure v)) none) _ _ _
  unfold raiseStmt
  refine wpAny_bind (wpAny_bind (wpAny_mono h (fun v s₁ h₁ => ?_) fun _ _ x => x))
  obtain ⟨e, d, t, rfl, he, X, hE⟩ := h₁
  have hC := X _ _ hK
  obtain ⟨hp, g, dr, tk, os⟩ := s₁
  refine wpAny_bind (wpAny_standAt (wpAny_pure ?_))
  repeat (first | with_reducible refine wpAny_loadPart_at he ?_ | with_reducible refine wpAny_loadPart_at hC ?_ | (with_reducible refine wpAny_isSubtype_exc hC ?_; rw [hcB]) | wp_step)
  exact wpAny_raiseNew_none hh hE
end

section
open PySem.Builtin
theorem bb_lookup : typeLookup (.type "bytes") "__bytes__" = pure (some (.builtin "bytes.__bytes__")) := by rw [typeLookup_type, builtinLookup_eq_fast]; kernel_rfl
theorem bb_notstr (b : Array UInt8) (t : Tok) : (do return (← asStr? (.bytes b t)).isSome : Sem Bool) = pure false := by rfl
section
variable {prog : Program} {w : World} {A : Around} {E : Value → Shared → Prop} {s : Shared}
theorem bb_new {b : Array UInt8} {t : Tok} {Q : Value → Shared → Prop} (h : Q (.bytes b t) s) :
    codeAny (model prog w) A (.call (.builtin "bytes.__new__") ⟨[.type "bytes", .bytes b t], []⟩) (wants Q E) s := by
  refine codeAny_of_tree ?_
  show wpAny _ A.in1 (do checkBuiltinCall "bytes.__new__" ⟨[.type "bytes", .bytes b t], []⟩; again (.builtin "bytes.__new__" ⟨[.type "bytes", .bytes b t], []⟩)) _ _ s
  refine wpAny_bind (wpAny_of_eq (F.bm_newCall _) (wpAny_pure ⟨plainId_quiet F.bm_plain _, codeAny_builtin F.bm_entry ?_⟩))
  rw [Around.under_plainId F.bm_plain _]
  have hT : s.TypeIs (.bytes b t) "bytes" := PySem.W.typeIs_bytes _ _ _
  unfold Builtin.«bytes.__new__»
  refine wpAny_bind (wpAny_of_eq (a := true) rfl ?_)
  refine bm_if_false rfl ?_
  refine wpAny_bind (wpAny_of_eq F.bm_sub ?_)
  refine bm_if_false rfl ?_
  refine wpAny_bind (wpAny_of_eq (F.bm_bind _) ?_)
  refine wpAny_bind (wpAny_of_eq (a := ()) rfl ?_)
  refine wpAny_bind (wpAny_of_eq (a := ()) rfl ?_)
  refine bm_if_false rfl ?_
  refine wpAny_bind (wpAny_specialOf hT bb_lookup ?_)
  refine wpAny_bind (wpAny_rule (wpAny_bind (wpAny_typeOf hT ?_)))
  refine bm_if_true (by decide) ?_
  exact wpAny_pure h
theorem bytes_of_bytes {b : Array UInt8} {t : Tok} {Q : Value → Shared → Prop} (h : Q (.bytes b t) s) : wpAny (model prog w) A (call (.type "bytes") [.bytes b t]) Q E s := by
  refine callType_codes (Q₁ := fun obj s₁ => s₁.TypeIs obj "bytes" ∧ Q obj s₁) F.bm_called (F.bm_typeCall _) F.entry_object_init
    (bb_new ⟨PySem.W.typeIs_bytes _ _ _, h⟩) fun obj s₁ h₁ => ?_
  exact ⟨h₁.1, F.args_object_init_2 obj _, object_init_meets F.bm_called.init.lookup F.bm_called.made (by decide) prog w A.in1 _ s₁ ⟨h₁.1, rfl, h₁.2⟩⟩
end
end
end
noncomputable section
section
variable {prog : Program} {w : World} {A₀ A : Around} {s : Shared} {base h₀ g₀ : Heap} {outer : List Env} {L a : Addr} {m : Str → Option Value} {cn : Str} {cs : Scope} {ccd : Value} {news : Led} {K : Frag} {p : Program} {loose : List Str} {mean : ExcName → Option Value} {mg mb : Str → Option Value}
  {R : Result → Shared → Prop} {name qual : Str} {params : Arguments} {body : List Stmt} {scope : Scope} {dV kV doc pm cdv ct oc : Value} {an od : Option Addr} {osl : Array (Option Value)} {f : Addr} {args : Args} {binds : List (Str × Value)}
theorem leaveS_back (B : Below A₀ base outer h₀) (F : Fr h₀ L s.heap m) (N : News h₀ L s.heap news) (XB : K.In base) (TB : Top p loose mean mg mb base) (D : KtsDicts (outer.filterMap (·.frame)) h₀) (T0 : KtsTurn (outer.filterMap (·.frame)) g₀ h₀)
    (hA : A.frames = some (envOf cn cs L a ccd :: outer)) (hck : cs.kind = .function) {v : Value} {s' : Shared}
    (hl : LeaveS ((envOf cn cs L a ccd :: outer).filterMap (·.frame)) A₀ base outer K p loose mean mg mb g₀ h₀ L m (hideAll s.heap (news.map (·.1))) R v s') : R (.ok (.ret v)) s' := by
  obtain ⟨oL, es, ep, hLg, hLd, hN, hNs, st, B₂⟩ := kts_enter B F N hA hck
  have nL₀ : h₀.get? L = none := kts_self F
  have off : ∀ (b : Addr) (o : Obj), h₀.get? b = some o → b ∉ outer.filterMap (·.frame) → b ∉ (envOf cn cs L a ccd :: outer).filterMap (·.frame) := fun b o e nm hm => by
    rcases kts_mem hm with z | z
    · rw [z, nL₀] at e; cases e
    · exact nm z
  rcases hl with ⟨L', m', news', F', N', k⟩ | ⟨g', L', m', news', T', F', N', k⟩
  · have keep : ∀ b o, h₀.get? b = some o → s'.heap.get? b = some o := fun b o e => F'.keep b o (st b o e)
    refine k ⟨hN _ (F'.keep _ _ hLg), keep, F.above⟩ fun q hq => ⟨(N' q hq).1, fun e => ?_, kts_none st (N' q hq).2.2⟩
    have z := (N' q hq).2.2
    rw [e, hLg] at z; cases z
  · obtain ⟨sl, hs⟩ := T'.up hLg
    have old : ∀ b o, h₀.get? b = some o → b ∉ outer.filterMap (·.frame) → s'.heap.get? b = some o := fun b o e nm => F'.keep b o (T'.other b o (st b o e) (off b o e nm))
    obtain ⟨T₁, S₁⟩ := kts_turn_at (h := s'.heap) (fs := outer.filterMap (·.frame)) (g := h₀)
      (fun b hb => by
        obtain ⟨_, o, ho, _⟩ := B.frames.mem hb
        exact ⟨o, ho⟩) old
      (fun b o e _ => by
        obtain ⟨sl', hs'⟩ := T'.up (st b o e)
        exact ⟨sl', F'.keep _ _ hs'⟩)
    generalize ktsHeap s'.heap (outer.filterMap (·.frame)) h₀ = h₂ at T₁ S₁
    have B₃ : Below A₀ base outer h₂ := ⟨B.stack, fun b o e => T₁.other b o (B.stays b o e) (fun hm => by
      rw [(B.frames.mem hm).1] at e; cases e), B.frames.of_keeps fun b o e _ => by
      obtain ⟨sl', hs'⟩ := T₁.up e
      exact ⟨_, hs', rfl⟩⟩
    refine k h₂ (T0.trans T₁) ⟨hNs sl _ (F'.keep _ _ hs), S₁, by rw [T₁.size]; exact F.above⟩ (fun q hq => ⟨(N' q hq).1, fun e => ?_, T₁.none_ _ ?_⟩) B₃ (XB.keeps B₃.stays) (TB.keeps B₃.stays) (D.turn T₁)
    · have z := (N' q hq).2.2
      rw [e, hs] at z; cases z
    · cases e : h₀.get? q.1 with
      | none => rfl
      | some o =>
        obtain ⟨sl', hs'⟩ := T'.up (st _ _ e)
        have z := (N' q hq).2.2
        rw [hs'] at z; cases z
theorem code_defSC (B : Below A₀ base outer h₀) (F : Fr h₀ L s.heap m) (X₀ : K.In h₀) (N : News h₀ L s.heap news) (T : Top p loose mean mg mb h₀) (XB : K.In base) (TB : Top p loose mean mg mb base) (D : KtsDicts (outer.filterMap (·.frame)) h₀)
    (T0 : KtsTurn (outer.filterMap (·.frame)) g₀ h₀) (hA : A.frames = some (envOf cn cs L a ccd :: outer))
    (ho : K.lookup f = some ⟨oc, od, .func (fnOf name qual params body scope dV kV doc pm an cdv ct), osl⟩) (hcd : codeIn K cdv qual = true) (hroom : A.depth < recursionLimit)
    (hbind : BindsTo s (fnOf name qual params body scope dV kV doc pm an cdv ct) args binds) (hkind : (binds.all fun y => scope.names.lookup y.1 == some .local || scope.names.lookup y.1 == some .cell) = true)
    (hnd : ((cellsFrom 0 scope.names []).map (·.1)).Nodup)
    (h : ∀ g L' h₁ tk cells, Fr h₀ L g m → Fr g L' h₁ (bindL (envOfC qual scope L' f cdv).kindOf binds fun _ => none) → News g L' h₁ (cells ++ news) → CellsAre (bindC (envOfC qual scope L' f cdv).kindOf binds fun _ => none) (cellsFrom (L' + 1) scope.names []) cells →
      Below A base (envOf cn cs L a ccd :: outer) g → K.In g → Top p loose mean mg mb g → KtsDicts ((envOf cn cs L a ccd :: outer).filterMap (·.frame)) g → (∀ q ∈ news, @LT.lt Nat _ q.1 L') →
      wpAny (model prog w) (A.deeper (envOfC qual scope L' f cdv)) (execs body (envOfC qual scope L' f cdv))
        (fun fl s' => LeaveS ((envOf cn cs L a ccd :: outer).filterMap (·.frame)) A₀ base outer K p loose mean mg mb g₀ h₀ L m g R (match fl with | .ret v => v | _ => .none) s')
        (fun e s' => wpAny (model prog w) (A.deeper (envOfC qual scope L' f cdv)) (leaving (envOfC qual scope L' f cdv) e) (fun _ s'' => R (.error e) s'') (fun e' s'' => R (.error e') s'') s')
        { s with heap := h₁, toks := tk })
    (hck : cs.kind = .function) (hco : scope.isCoroutine = false) (hgen : scope.isGenerator = false) (hk : scope.kind = .function) : codeAny (model prog w) A (.call (.ref f) args) R s := by
  refine cps fun Zz zz => ?_
  obtain ⟨oL, es, ep, hLg, hLd, hN, hNs, st, B₂⟩ := kts_enter B F N hA hck
  refine zz ?_
  refine codeAny_call_function hroom ((X₀.keeps F.keep) _ _ ho) rfl hco hgen rfl (codeRec_of (X₀.keeps F.keep) hcd) (hbind _ _ _ _ ?_)
  refine wpAny_newFunctionEnv_cells hk (kindsX hkind _) fun env' he s' x => ?_
  subst he
  refine ⟨(T.nolimit.keeps F.keep).keeps x.toInCall.keep, codeAny_func ?_⟩
  refine cps fun Zz zz => ?_
  obtain ⟨h₁, tk, rfl, _⟩ := x.done
  have hk₁ := x.toInCall.keep
  obtain ⟨cells, NC, Y⟩ := Cl.news (h₀ := s.heap) (Nat.le_refl _) fun n c hm => ⟨x.cell n c (lookup_of_mem_nodup (cellsFrom_names scope.names 0 (s.heap.objs.size + 1) [] [] rfl ▸ hnd) hm), x.above n c hm⟩
  refine zz ?_
  refine wpAny_mono (h _ s.heap.objs.size h₁ tk cells ⟨hN _ hLg, st, F.above⟩ ⟨x.toInCall.ns, fun b o e => hk₁ b o (of_hideAll _ e), Nat.le_of_eq (hideAll_size _ _)⟩ (fun q hq => ?_) Y B₂ (X₀.keeps st) (T.keeps st) (fun b hb => ?_) fun q hq => Heap.lt_size (N q hq).1)
    (fun fl s' hl => leaveS_back B F N XB TB D T0 hA hck hl) fun _ _ y => y
  · rcases List.mem_append.mp hq with hq | hq
    · refine ⟨(NC q hq).1, (NC q hq).2.1, ?_⟩
      cases e : (hideAll s.heap (news.map (·.1))).get? q.1 with
      | none => rfl
      | some o => have z := of_hideAll _ e; rw [(NC q hq).2.2] at z; cases z
    · exact ⟨hk₁ _ _ (N q hq).1, Nat.ne_of_lt (Heap.lt_size (N q hq).1), hideAll_none _ (List.mem_map_of_mem hq)⟩
  · rcases kts_mem hb with rfl | hb
    · exact ⟨oL, es, ep, hLg, hLd⟩
    · refine cps fun Zz zz => ?_
      obtain ⟨o, es', n', ho', hd'⟩ := D b hb
      refine zz ?_
      exact ⟨o, es', n', st b o ho', hd'⟩
end
end
noncomputable section
noncomputable abbrev CallT := List V → List AObj → (V → List AObj → Prop) → (Int → List AObj → Prop) → Prop
inductive AFlow where
  | next | brk | cont | ret (x : D)
structure Inv where
  α : Type
  X : Type
  items : List α
  enc : α → D
  S : X → St
  J : Nat → X → Prop
structure WInv where
  X : Type
  S : X → St
  J : X → Prop
  m : X → Nat
structure GP where
  sc : Scope
  h : Bool
  s : Bool
  by0 : Bool
  glob : Str → Option V
  meth : Addr → Str → Option Addr
  okn : Addr → Str → Bool
  call : Addr → Option CallT
  inv : Nat → St → Option Inv
  winv : Nat → St → Option WInv
noncomputable def nth {α : Type} : List α → Nat → Option α
  | [], _ => none
  | x :: _, 0 => some x
  | _ :: r, n + 1 => nth r n
noncomputable def put {α : Type} : List α → Nat → α → List α
  | [], _, _ => []
  | _ :: r, 0, y => y :: r
  | x :: r, n + 1, y => x :: put r n y
noncomputable def lnth {α : Type} : List α → Nat
  | [] => 0
  | _ :: r => lnth r + 1
noncomputable def setV (x : Str) (y : V) : List (Str × V) → List (Str × V)
  | [] => [(x, y)]
  | p :: r => match seq x p.1 with
    | true => (p.1, y) :: r
    | false => p :: setV x y r
noncomputable def repK {α : Type} (x : Str) (y : α) : List (Str × α) → List (Str × α)
  | [] => []
  | p :: r => match seq x p.1 with
    | true => (p.1, y) :: r
    | false => p :: repK x y r
noncomputable def repA {α : Type} (x : Str) (y : α) : List (Str × α) → List (Str × α)
  | [] => []
  | p :: r => match seq x p.1 with
    | true => (p.1, y) :: repA x y r
    | false => p :: repA x y r
noncomputable def insK (x : Int) (ks : List Int) : List Int := if x ∈ ks then ks else ks ++ [x]
noncomputable def oM {α : Type} (o : Option α) (P : α → Prop) : Prop := o.casesOn False P
noncomputable def dOf (v : V) (P : D → Prop) : Prop := v.casesOn P (fun _ => False) (fun _ => False) (fun _ => False) (fun _ => False) (fun _ => False)
noncomputable def gOf (v : V) (P : Nat → Prop) : Prop := v.casesOn (fun _ => False) P (fun _ => False) (fun _ => False) (fun _ => False) (fun _ => False)
noncomputable def iOf (x : D) (P : Int → Prop) : Prop := x.casesOn False (fun _ => False) P (fun _ => False) (fun _ => False) (fun _ => False) (fun _ => False) (fun _ => False)
noncomputable def bOf (x : D) (P : Bool → Prop) : Prop := x.casesOn False P (fun _ => False) (fun _ => False) (fun _ => False) (fun _ => False) (fun _ => False) (fun _ => False)
noncomputable def sOf (x : D) (P : Str → Prop) : Prop := x.casesOn False (fun _ => False) (fun _ => False) P (fun _ => False) (fun _ => False) (fun _ => False) (fun _ => False)
noncomputable def xOf (x : D) (P : Int → Prop) : Prop := x.casesOn False (fun _ => False) (fun _ => False) (fun _ => False) P (fun _ => False) (fun _ => False) (fun _ => False)
noncomputable def yOf (x : D) (P : Int → Prop) : Prop := x.casesOn False (fun _ => False) (fun _ => False) (fun _ => False) (fun _ => False) P (fun _ => False) (fun _ => False)
noncomputable def tOf (x : D) (P : List D → Prop) : Prop := x.casesOn False (fun _ => False) (fun _ => False) (fun _ => False) (fun _ => False) (fun _ => False) P (fun _ => False)
noncomputable def lOf (x : D) (P : List D → Prop) : Prop := x.casesOn False (fun _ => False) (fun _ => False) (fun _ => False) (fun _ => False) (fun _ => False) (fun _ => False) P
noncomputable def int1 (v : V) (P : Int → Prop) : Prop := dOf v fun x => iOf x P
noncomputable def int2 (a b : V) (P : Int → Int → Prop) : Prop := int1 a fun x => int1 b (P x)
noncomputable def one1 {α : Type} (l : List α) (P : α → Prop) : Prop := l.casesOn False fun x r => r.casesOn (P x) fun _ _ => False
noncomputable def two1 {α : Type} (l : List α) (P : α → α → Prop) : Prop := l.casesOn False fun x r => one1 r (P x)
noncomputable def nil1 {α : Type} (l : List α) (P : Prop) : Prop := l.casesOn P fun _ _ => False
theorem oM_use {α : Type} {o : Option α} {P : α → Prop} (h : oM o P) : ∃ x, o = some x ∧ P x := by cases o <;> first | exact h.elim | exact ⟨_, rfl, h⟩
theorem dOf_use {v : V} {P : D → Prop} (h : dOf v P) : ∃ x, v = .d x ∧ P x := by cases v <;> first | exact h.elim | exact ⟨_, rfl, h⟩
theorem gOf_use {v : V} {P : Nat → Prop} (h : gOf v P) : ∃ x, v = .g x ∧ P x := by cases v <;> first | exact h.elim | exact ⟨_, rfl, h⟩
theorem iOf_use {v : D} {P : Int → Prop} (h : iOf v P) : ∃ x, v = .int x ∧ P x := by cases v <;> first | exact h.elim | exact ⟨_, rfl, h⟩
theorem bOf_use {v : D} {P : Bool → Prop} (h : bOf v P) : ∃ x, v = .bool x ∧ P x := by cases v <;> first | exact h.elim | exact ⟨_, rfl, h⟩
theorem sOf_use {v : D} {P : Str → Prop} (h : sOf v P) : ∃ x, v = .str x ∧ P x := by cases v <;> first | exact h.elim | exact ⟨_, rfl, h⟩
theorem yOf_use {v : D} {P : Int → Prop} (h : yOf v P) : ∃ x, v = .by_ x ∧ P x := by cases v <;> first | exact h.elim | exact ⟨_, rfl, h⟩
theorem tOf_use {v : D} {P : List D → Prop} (h : tOf v P) : ∃ x, v = .tup x ∧ P x := by cases v <;> first | exact h.elim | exact ⟨_, rfl, h⟩
theorem lOf_use {v : D} {P : List D → Prop} (h : lOf v P) : ∃ x, v = .lst x ∧ P x := by cases v <;> first | exact h.elim | exact ⟨_, rfl, h⟩
theorem int1_use {v : V} {P : Int → Prop} (h : int1 v P) : ∃ x, v = .d (.int x) ∧ P x := by
  obtain ⟨d, rfl, h⟩ := dOf_use h
  obtain ⟨x, rfl, h⟩ := iOf_use h
  exact ⟨x, rfl, h⟩
theorem int2_use {a b : V} {P : Int → Int → Prop} (h : int2 a b P) : ∃ x y, a = .d (.int x) ∧ b = .d (.int y) ∧ P x y := by
  obtain ⟨x, rfl, h1⟩ := int1_use (v := a) h
  obtain ⟨y, rfl, h2⟩ := int1_use (v := b) h1
  exact ⟨x, y, rfl, rfl, h2⟩
theorem one1_use {α : Type} {l : List α} {P : α → Prop} (h : one1 l P) : ∃ x, l = [x] ∧ P x := by
  cases l with
  | nil => exact h.elim
  | cons x r => cases r with
    | nil => exact ⟨x, rfl, h⟩
    | cons => exact h.elim
theorem two1_use {α : Type} {l : List α} {P : α → α → Prop} (h : two1 l P) : ∃ x y, l = [x, y] ∧ P x y := by
  cases l with
  | nil => exact h.elim
  | cons x r =>
    obtain ⟨y, rfl, h⟩ := one1_use (show one1 r (P x) from h)
    exact ⟨x, y, rfl, h⟩
theorem nil1_use {α : Type} {l : List α} {P : Prop} (h : nil1 l P) : l = [] ∧ P := by
  cases l with
  | nil => exact ⟨rfl, h⟩
  | cons => exact h.elim
noncomputable def eNm (e : PySem.Expr) (P : Str → Pos → Prop) : Prop := if h : e.ctorIdx = 23 then PySem.Expr.Name.elim (motive_1 := fun _ => Prop) e h P else False
noncomputable def eCl (e : PySem.Expr) (P : PySem.Expr → List PySem.Expr → List Keyword → Pos → Prop) : Prop := if h : e.ctorIdx = 16 then PySem.Expr.Call.elim (motive_1 := fun _ => Prop) e h P else False
noncomputable def eTu (e : PySem.Expr) (P : List PySem.Expr → Nat → Pos → Prop) : Prop := if h : e.ctorIdx = 25 then PySem.Expr.Tuple.elim (motive_1 := fun _ => Prop) e h P else False
noncomputable def eBn (e : PySem.Expr) (P : PySem.Expr → Operator → PySem.Expr → Pos → Prop) : Prop := if h : e.ctorIdx = 2 then PySem.Expr.BinOp.elim (motive_1 := fun _ => Prop) e h P else False
noncomputable def eCm (e : PySem.Expr) (P : PySem.Expr → List CmpOp → List PySem.Expr → Pos → Prop) : Prop := if h : e.ctorIdx = 15 then PySem.Expr.Compare.elim (motive_1 := fun _ => Prop) e h P else False
noncomputable def eSb (e : PySem.Expr) (P : PySem.Expr → PySem.Expr → Pos → Prop) : Prop := if h : e.ctorIdx = 21 then PySem.Expr.Subscript.elim (motive_1 := fun _ => Prop) e h P else False
noncomputable def eCo (e : PySem.Expr) (P : Const → Nat → Pos → Prop) : Prop := if h : e.ctorIdx = 19 then PySem.Expr.Constant.elim (motive_1 := fun _ => Prop) e h P else False
noncomputable def eSt (x : Const) (P : Str → Prop) : Prop := if h : x.ctorIdx = 5 then Const.str.elim (motive := fun _ => Prop) x h P else False
noncomputable def lL (o : Option (Option (List D))) : Option (List D) := o.casesOn none fun x => x
noncomputable def gL (o : Option AObj) : Option (List D) := o.casesOn none fun x => x.casesOn (fun _ _ => none) (fun ds => some ds) (fun _ => none) (fun _ => none) (fun _ _ => none)
noncomputable def dL (x : D) : Option (List D) := x.casesOn none (fun _ => none) (fun _ => none) (fun _ => none) (fun _ => none) (fun _ => none) (fun _ => none) (fun ds => some ds)
noncomputable def lstOf (st : St) (v : V) : Option (List D) := v.casesOn dL (fun i => gL (nth st.W i)) (fun i => lL (nth st.Lc i)) (fun _ => none) (fun _ => none) (fun _ => none)
theorem lL_use {o : Option (Option (List D))} {ds : List D} (h : lL o = some ds) : o = some (some ds) := by
  cases o with
  | none => cases h
  | some x => exact congrArg some h
theorem gL_use {o : Option AObj} {ds : List D} (h : gL o = some ds) : o = some (.lst ds) := by
  cases o with
  | none => cases h
  | some x => cases x <;> first | (cases (show some _ = some _ from h); rfl) | cases h
theorem dL_use {x : D} {ds : List D} (h : dL x = some ds) : x = .lst ds := by cases x <;> first | (cases (show some _ = some _ from h); rfl) | cases h
noncomputable def frz (v : V) (st : St) (k : D → St → Prop) : Prop := v.casesOn (fun x => k x st) (fun _ => False) (fun i => oM (nth st.Lc i) fun o => oM o fun ds => k (.lst ds) ⟨st.W, put st.Lc i none, st.vars⟩) (fun _ => False) (fun _ => False) (fun _ => False)
noncomputable def frzL : List V → St → (List D → St → Prop) → Prop
  | [], st, k => k [] st
  | v :: r, st, k => frz v st fun x st => frzL r st fun xs st => k (x :: xs) st
noncomputable def newL (ds : List D) (st : St) (k : V → St → Prop) : Prop := k (.l (lnth st.Lc)) ⟨st.W, st.Lc ++ [some ds], st.vars⟩
noncomputable def setW (i : Nat) (o : AObj) (st : St) : St := ⟨put st.W i o, st.Lc, st.vars⟩
noncomputable def setO (v : V) (ds : List D) (st : St) (k : St → Prop) : Prop := match v with
  | .l i => k ⟨st.W, put st.Lc i (some ds), st.vars⟩
  | .g i => k (setW i (.lst ds) st)
  | _ => False
noncomputable def isLocN : Option NameKind → Bool
  | some .local => true
  | _ => false
noncomputable def isGlobN : Option NameKind → Bool
  | some .globalImplicit => true
  | _ => false
noncomputable def kindN (sc : Scope) (x : Str) : Option NameKind := lk x sc.names
noncomputable def okVar (sc : Scope) (x : Str) : Bool := isLocN (kindN sc x) && !seq x (Str.ofString "__debug__")
noncomputable def isNoneD : D → Bool
  | .none => true
  | _ => false
noncomputable def orB (b : Bool) (P Q : Prop) : Prop := match b with
  | true => P
  | false => Q
theorem orB_use {b : Bool} {P : Prop} (h : orB b P False) : b = true ∧ P := by
  cases b with
  | true => exact ⟨rfl, h⟩
  | false => exact h.elim
theorem orB_no {b : Bool} {P : Prop} (h : orB b False P) : b = false ∧ P := by
  cases b with
  | true => exact h.elim
  | false => exact ⟨rfl, h⟩
section
variable {e : PySem.Expr} {R : Prop}
theorem eNm_go {P} (h : eNm e P) (k : ∀ x p, e = .Name x p → P x p → R) : R := by
  by_cases q : e.ctorIdx = 23
  · exact PySem.Expr.Name.elim (motive_1 := fun e => eNm e P → (∀ x p, e = .Name x p → P x p → R) → R) e q (fun x p h k => k x p rfl h) h k
  · exact False.elim ((dif_neg q).mp h)
theorem eCl_go {P} (h : eCl e P) (k : ∀ f a w p, e = .Call f a w p → P f a w p → R) : R := by
  by_cases q : e.ctorIdx = 16
  · exact PySem.Expr.Call.elim (motive_1 := fun e => eCl e P → (∀ f a w p, e = .Call f a w p → P f a w p → R) → R) e q (fun f a w p h k => k f a w p rfl h) h k
  · exact False.elim ((dif_neg q).mp h)
theorem eTu_go {P} (h : eTu e P) (k : ∀ l n p, e = .Tuple l n p → P l n p → R) : R := by
  by_cases q : e.ctorIdx = 25
  · exact PySem.Expr.Tuple.elim (motive_1 := fun e => eTu e P → (∀ l n p, e = .Tuple l n p → P l n p → R) → R) e q (fun l n p h k => k l n p rfl h) h k
  · exact False.elim ((dif_neg q).mp h)
theorem eBn_go {P} (h : eBn e P) (k : ∀ l o r p, e = .BinOp l o r p → P l o r p → R) : R := by
  by_cases q : e.ctorIdx = 2
  · exact PySem.Expr.BinOp.elim (motive_1 := fun e => eBn e P → (∀ l o r p, e = .BinOp l o r p → P l o r p → R) → R) e q (fun l o r p h k => k l o r p rfl h) h k
  · exact False.elim ((dif_neg q).mp h)
theorem eCm_go {P} (h : eCm e P) (k : ∀ l o r p, e = .Compare l o r p → P l o r p → R) : R := by
  by_cases q : e.ctorIdx = 15
  · exact PySem.Expr.Compare.elim (motive_1 := fun e => eCm e P → (∀ l o r p, e = .Compare l o r p → P l o r p → R) → R) e q (fun l o r p h k => k l o r p rfl h) h k
  · exact False.elim ((dif_neg q).mp h)
theorem eSb_go {P} (h : eSb e P) (k : ∀ o i p, e = .Subscript o i p → P o i p → R) : R := by
  by_cases q : e.ctorIdx = 21
  · exact PySem.Expr.Subscript.elim (motive_1 := fun e => eSb e P → (∀ o i p, e = .Subscript o i p → P o i p → R) → R) e q (fun o i p h k => k o i p rfl h) h k
  · exact False.elim ((dif_neg q).mp h)
theorem eCo_go {P} (h : eCo e P) (k : ∀ x n p, e = .Constant x n p → P x n p → R) : R := by
  by_cases q : e.ctorIdx = 19
  · exact PySem.Expr.Constant.elim (motive_1 := fun e => eCo e P → (∀ x n p, e = .Constant x n p → P x n p → R) → R) e q (fun x n p h k => k x n p rfl h) h k
  · exact False.elim ((dif_neg q).mp h)
theorem eSt_go {x : Const} {P} (h : eSt x P) (k : ∀ s, x = .str s → P s → R) : R := by
  by_cases q : x.ctorIdx = 5
  · exact Const.str.elim (motive := fun x => eSt x P → (∀ s, x = .str s → P s → R) → R) x q (fun s h k => k s rfl h) h k
  · exact False.elim ((dif_neg q).mp h)
theorem one1_go {α : Type} {l : List α} {P : α → Prop} (h : one1 l P) (k : ∀ x, l = [x] → P x → R) : R := by
  cases l with
  | nil => exact h.elim
  | cons x r => cases r with
    | nil => exact k x rfl h
    | cons => exact h.elim
theorem two1_go {α : Type} {l : List α} {P : α → α → Prop} (h : two1 l P) (k : ∀ x y, l = [x, y] → P x y → R) : R := by
  cases l with
  | nil => exact h.elim
  | cons x r => exact one1_go (show one1 r (P x) from h) fun y e h => k x y (congrArg (x :: ·) e) h
theorem nil1_go {α : Type} {l : List α} {P : Prop} (h : nil1 l P) (k : l = [] → P → R) : R := by
  cases l with
  | nil => exact k rfl h
  | cons => exact h.elim
theorem orB_go {b : Bool} {P : Prop} (h : orB b P False) (k : b = true → P → R) : R := by
  cases b with
  | true => exact k rfl h
  | false => exact h.elim
theorem oM_go {α : Type} {o : Option α} {P : α → Prop} (h : oM o P) (k : ∀ x, o = some x → P x → R) : R := by
  cases o with
  | none => exact h.elim
  | some x => exact k x rfl h
end
noncomputable def asB (v : V) (k : Bool → Prop) : Prop := dOf v fun x => bOf x k
noncomputable def boolV (v : V) : Option Bool := v.casesOn (fun x => x.casesOn none (fun b => some b) (fun _ => none) (fun _ => none) (fun _ => none) (fun _ => none) (fun _ => none) (fun _ => none)) (fun _ => none) (fun _ => none) (fun _ => none) (fun _ => none) (fun _ => none)
theorem boolV_use {v : V} {b : Bool} (h : boolV v = some b) : v = .d (.bool b) := by
  cases v with
  | d x => cases x <;> first | (cases (show some _ = some _ from h); rfl) | cases h
  | _ => cases h
noncomputable def storeV (G : GP) (x : Str) (v : V) (st : St) (k : St → Prop) : Prop := orB (okVar G.sc x) ((boolV v).casesOn (k ⟨st.W, st.Lc, setV x v st.vars⟩) fun b => orB b (k ⟨st.W, st.Lc, setV x (.d (.bool true)) st.vars⟩) (k ⟨st.W, st.Lc, setV x (.d (.bool false)) st.vars⟩)) False
noncomputable def brB (v : V) (P Q : Prop) : Prop := dOf v fun x => bOf x fun b => orB b P Q
noncomputable def byD (l : List UInt8) : Option D := (Nat.ble l.length 100).casesOn none (some (.by_ l.length))
noncomputable def xsD (l : List UInt8) : Option D := l.casesOn (some (.xs 0)) fun b r => r.casesOn ((Nat.beq b.toNat 120).casesOn none (some (.xs 1))) fun _ _ => byD l
noncomputable def constD (by0 : Bool) (c : Const) : Option D := c.casesOn (some .none) (fun b => some (.bool b)) (fun i => some (.int i)) (fun _ => none) (fun _ _ => none) (fun s => some (.str s)) (fun l => by0.casesOn (xsD l) (byD l)) none
noncomputable def addL (a b : V) (st : St) (k : V → St → Prop) : Prop := oM (lstOf st a) fun xs => oM (lstOf st b) fun ys => (xs.length : Int) + ys.length ≤ 4096 ∧ newL (xs ++ ys) st k
noncomputable def addD (x : D) (a b : V) (st : St) (k : V → St → Prop) : Prop := x.casesOn (addL a b st k) (fun _ => addL a b st k) (fun x => int1 b fun y => k (.d (.int (x + y))) st) (fun _ => addL a b st k)
  (fun x => dOf b fun y => y.casesOn False (fun _ => False) (fun _ => False) (fun _ => False) (fun y => x + y ≤ 4096 ∧ k (.d (.xs (x + y))) st) (fun y => x + y ≤ 4096 ∧ k (.d (.by_ (x + y))) st) (fun _ => False) (fun _ => False))
  (fun x => dOf b fun y => yOf y fun y => x + y ≤ 4096 ∧ k (.d (.by_ (x + y))) st) (fun _ => addL a b st k) (fun _ => addL a b st k)
noncomputable def vcAdd (a b : V) (st : St) (k : V → St → Prop) : Prop := a.casesOn (fun x => addD x a b st k) (fun _ => addL a b st k) (fun _ => addL a b st k) (fun _ => False) (fun _ => False) (fun _ => False)
noncomputable def vcMul (a b : V) (st : St) (k : V → St → Prop) : Prop := dOf a fun x => x.casesOn False (fun _ => False) (fun x => int1 b fun y => (-65536 ≤ y ∧ y ≤ 65536) ∧ k (.d (.int (x * y))) st) (fun _ => False)
  (fun x => int1 b fun y => (x = 1 ∧ (0 ≤ y ∧ y ≤ 4096)) ∧ k (.d (.xs y)) st) (fun _ => False) (fun _ => False) (fun _ => False)
noncomputable def vcBin (op : Operator) (a b : V) (st : St) (k : V → St → Prop) : Prop := match op with
  | .Add => vcAdd a b st k
  | .Sub => int2 a b fun x y => k (.d (.int (x - y))) st
  | .Mult => vcMul a b st k
  | .Mod => int2 a b fun x y => 0 < y ∧ k (.d (.int (Int.fmod x y))) st
  | .FloorDiv => int2 a b fun x y => (0 < y ∧ y ≤ 65536) ∧ k (.d (.int (Int.fdiv x y))) st
  | _ => False
noncomputable def twoL {α : Type} (l : List α) : Option (α × α) := l.casesOn none fun x r => r.casesOn none fun y q => q.casesOn (some (x, y)) fun _ _ => none
noncomputable def pXB (l : List D) : Option (Int × Bool) := match twoL l with
  | some (.xs a, .bool b) => some (a, b)
  | _ => none
noncomputable def pII (l : List D) : Option (Int × Int) := match twoL l with
  | some (.int a, .int b) => some (a, b)
  | _ => none
noncomputable def eqXB (l r : List D) : Option Bool := match pXB l, pXB r with
  | some p, some q => some (decide (p.1 = q.1) && (p.2 == q.2))
  | _, _ => none
noncomputable def eqII (l r : List D) : Option Bool := match pII l, pII r with
  | some p, some q => some (decide (p.1 = q.1) && decide (p.2 = q.2))
  | _, _ => none
noncomputable def oElse (a b : Option Bool) : Option Bool := match a with
  | some x => some x
  | none => b
noncomputable def eqD (a b : D) : Option Bool := a.casesOn
  (b.casesOn (some true) (fun _ => none) (fun _ => some false) (fun _ => none) (fun _ => none) (fun _ => none) (fun _ => some false) (fun _ => none))
  (fun x => b.casesOn none (fun y => some (x == y)) (fun _ => none) (fun _ => none) (fun _ => none) (fun _ => none) (fun _ => none) (fun _ => none))
  (fun x => b.casesOn (some false) (fun _ => none) (fun y => some (decide (x = y))) (fun _ => none) (fun _ => none) (fun _ => none) (fun _ => none) (fun _ => none))
  (fun x => b.casesOn none (fun _ => none) (fun _ => none) (fun y => some (x == y)) (fun _ => none) (fun _ => none) (fun _ => none) (fun _ => none))
  (fun _ => none) (fun _ => none)
  (fun x => b.casesOn (some false) (fun _ => none) (fun _ => none) (fun _ => none) (fun _ => none) (fun _ => none) (fun y => oElse (eqXB x y) (eqII x y)) (fun _ => none)) (fun _ => none)
noncomputable def neD (a b : D) : Option Bool := a.casesOn none
  (fun x => b.casesOn none (fun y => some (x == y)) (fun _ => none) (fun _ => none) (fun _ => none) (fun _ => none) (fun _ => none) (fun _ => none))
  (fun x => b.casesOn none (fun _ => none) (fun y => some (decide (x = y))) (fun _ => none) (fun _ => none) (fun _ => none) (fun _ => none) (fun _ => none))
  (fun x => b.casesOn none (fun _ => none) (fun _ => none) (fun y => some (x == y)) (fun _ => none) (fun _ => none) (fun _ => none) (fun _ => none))
  (fun _ => none) (fun _ => none)
  (fun x => b.casesOn none (fun _ => none) (fun _ => none) (fun _ => none) (fun _ => none) (fun _ => none) (fun y => eqII x y) (fun _ => none)) (fun _ => none)
noncomputable def strsOf : List D → Option (List Str)
  | [] => some []
  | d :: r => match d, strsOf r with
    | .str s, some l => some (s :: l)
    | _, _ => none
noncomputable def isNil {α : Type} : List α → Bool
  | [] => true
  | _ => false
noncomputable def eqNil (a : V) (j : Nat) (st : St) (k : Bool → St → Prop) : Prop := oM (lstOf st a) fun xs => oM (lstOf st (.l j)) fun ys => nil1 ys (k (isNil xs) st)
noncomputable def vcEq (eq : D → D → Option Bool) (a b : V) (st : St) (k : Bool → St → Prop) : Prop := b.casesOn (fun y => dOf a fun x => oM (eq x y) fun r => k r st) (fun _ => False) (fun j => eqNil a j st k) (fun _ => False) (fun _ => False) (fun _ => False)
noncomputable def isOn (o : AObj) (P : List Int → Prop) : Prop := o.casesOn (fun _ _ => False) (fun _ => False) (fun _ => False) P (fun _ _ => False)
noncomputable def sdOn (o : AObj) (P : List (Str × V) → Prop) : Prop := o.casesOn (fun _ _ => False) (fun _ => False) P (fun _ => False) (fun _ _ => False)
noncomputable def inOn (o : AObj) (P : Addr → List (Str × D) → Prop) : Prop := o.casesOn P (fun _ => False) (fun _ => False) (fun _ => False) (fun _ _ => False)
theorem isOn_use {o : AObj} {P} (h : isOn o P) : ∃ ks, o = .iset ks ∧ P ks := by cases o <;> first | exact h.elim | exact ⟨_, rfl, h⟩
theorem inOn_use {o : AObj} {P} (h : inOn o P) : ∃ C fs, o = .inst C fs ∧ P C fs := by cases o <;> first | exact h.elim | exact ⟨_, _, rfl, h⟩
noncomputable def vcIn (a b : V) (st : St) (k : Bool → St → Prop) : Prop := dOf a fun x => b.casesOn (fun y => sOf x fun s => tOf y fun l => oM (strsOf l) fun ys => k (ys.any (· == s)) st)
  (fun i => iOf x fun x => oM (nth st.W i) fun o => isOn o fun ks => k (decide (x ∈ ks)) st) (fun _ => False)
  (fun a => orB (Nat.beq a 180) (sOf x fun s => k ([Str.ofString "ready", Str.ofString "send"].any (· == s)) st) False) (fun _ => False) (fun _ => False)
noncomputable def vcCmp (op : CmpOp) (a b : V) (st : St) (k : V → St → Prop) : Prop := match op with
  | .Lt => int2 a b fun x y => k (.d (.bool (decide (x < y)))) st
  | .LtE => int2 a b fun x y => k (.d (.bool (decide (x ≤ y)))) st
  | .Gt => int2 a b fun x y => k (.d (.bool (decide (y < x)))) st
  | .GtE => int2 a b fun x y => k (.d (.bool (decide (y ≤ x)))) st
  | .Is => dOf a fun x => dOf b fun y => orB (isNoneD y) (k (.d (.bool (isNoneD x))) st) False
  | .IsNot => dOf a fun x => dOf b fun y => orB (isNoneD y) (k (.d (.bool (!isNoneD x))) st) False
  | .Eq => vcEq eqD a b st fun r st => k (.d (.bool r)) st
  | .NotEq => vcEq neD a b st fun r st => k (.d (.bool (!r))) st
  | .In => vcIn a b st fun r st => k (.d (.bool r)) st
  | .NotIn => vcIn a b st fun r st => k (.d (.bool (!r))) st
noncomputable def vcAttr (o : V) (x : Str) (st : St) (k : V → St → Prop) : Prop := o.casesOn (fun _ => False) (fun i => oM (nth st.W i) fun o => inOn o fun _ fs => oM (lk x fs) fun d => k (.d d) st) (fun _ => False) (fun _ => False) (fun _ => False)
  (fun c => orB (seq x (Str.ofString "code")) (k (.d (.int c)) st) False)
noncomputable def vcSetAttr (G : GP) (o : V) (x : Str) (v : V) (st : St) (k : St → Prop) : Prop := frz v st fun d st => match o with
  | .g i => match nth st.W i with
    | some (.inst C fs) => match lk x fs with
      | some _ => k (setW i (.inst C (repK x d fs)) st)
      | none => match G.okn C x with
        | true => orB (Nat.ble (lnth fs) 50) (k (setW i (.inst C (fs ++ [(x, d)])) st)) False
        | false => False
    | _ => False
  | _ => False
noncomputable def natI (x : Int) (P : Nat → Prop) : Prop := x.casesOn P fun _ => False
theorem natI_use {x : Int} {P : Nat → Prop} (h : natI x P) : ∃ j, x = .ofNat j ∧ P j := by cases x <;> first | exact h.elim | exact ⟨_, rfl, h⟩
noncomputable def subL (ds : List D) (iv : V) (st : St) (k : V → St → Prop) : Prop := int1 iv fun x => natI x fun j => oM (nth ds j) fun d => orB (Nat.ble j 100) (k (.d d) st) False
noncomputable def subBox (x : Nat) (sd : Int) (j : Nat) (st : St) (k : V → St → Prop) : Prop := j.casesOn (k (.g x) st) fun j => j.casesOn (k (.d (.int sd)) st) fun _ => False
noncomputable def vcSub (o i : V) (st : St) (k : V → St → Prop) : Prop := o.casesOn
  (fun x => x.casesOn False (fun _ => False) (fun _ => False) (fun _ => False) (fun _ => False) (fun _ => False) (fun ds => subL ds i st k) (fun ds => subL ds i st k))
  (fun w => dOf i fun x => oM (nth st.W w) fun o => o.casesOn (fun _ _ => False) (fun _ => False) (fun kvs => sOf x fun x => oM (lk x kvs) fun v => k v st) (fun _ => False) (fun b sd => iOf x fun x => natI x fun j => subBox b sd j st k))
  (fun _ => False) (fun _ => False) (fun _ => False) (fun _ => False)
noncomputable def vcSetItem (o i v : V) (st : St) (k : St → Prop) : Prop := dOf v fun d => gOf o fun w => dOf i fun x => oM (nth st.W w) fun o =>
  o.casesOn (fun _ _ => False) (fun _ => False) (fun kvs => sOf x fun x => oM (lk x kvs) fun _ => orB (Nat.ble (lnth kvs) 50) (k (setW w (.sdict (repA x (.d d) kvs)) st)) False)
    (fun ks => iOf x fun x => bOf d fun b => orB b ((ks.length : Int) ≤ 4096 ∧ k (setW w (.iset (insK x ks)) st)) False) (fun b _ => iOf x fun x => iOf d fun sd => x = 1 ∧ k (setW w (.box b sd) st))
noncomputable def vcSlice (o : V) (lo hi : Option V) (st : St) (k : V → St → Prop) : Prop := dOf o fun d => d.casesOn False (fun _ => False) (fun _ => False) (fun _ => False)
  (fun n => lo.casesOn (oM hi fun h => int1 h fun b => 0 ≤ b ∧ k (.d (.xs (min n b))) st) fun l => hi.casesOn (int1 l fun a => 0 ≤ a ∧ k (.d (.xs (max 0 (n - a)))) st) fun _ => False)
  (fun n => oM lo fun l => oM hi fun h => int2 l h fun a b => (0 ≤ a ∧ (a ≤ b ∧ b ≤ n)) ∧ k (.d (.by_ (b - a))) st) (fun _ => False) (fun _ => False)
noncomputable abbrev Pcs := List (Int × Nat)
noncomputable abbrev encP (p : Int × Nat) : D := .tup [.int p.1, .xs p.2]
noncomputable abbrev SepR (p q : Int × Nat) : Prop := p.1 + p.2 < q.1
noncomputable def lenL (v : V) (st : St) (k : V → St → Prop) : Prop := oM (lstOf st v) fun ds => k (.d (.int (ds.length : Nat))) st
noncomputable def vcLen (v : V) (st : St) (k : V → St → Prop) : Prop := v.casesOn (fun x => x.casesOn False (fun _ => False) (fun _ => False) (fun _ => False) (fun n => k (.d (.int n)) st) (fun n => k (.d (.int n)) st) (fun _ => False) (fun _ => lenL v st k))
  (fun _ => lenL v st k) (fun _ => lenL v st k) (fun _ => False) (fun _ => False) (fun _ => False)
noncomputable def vcBytes (v : V) (st : St) (k : V → St → Prop) : Prop := dOf v fun x => x.casesOn False (fun _ => False) (fun _ => False) (fun _ => False) (fun n => k (.d (.xs n)) st) (fun n => k (.d (.by_ n)) st) (fun _ => False) (fun _ => False)
noncomputable def vcBi (b : Bi) (args : List V) (st : St) (k : V → St → Prop) : Prop := b.casesOn
  (one1 args fun v => vcLen v st k)
  (two1 args fun a b => int2 a b fun x y => k (.d (.int (max x y))) st)
  (two1 args fun a b => int2 a b fun x y => k (.d (.int (min x y))) st)
  (one1 args fun v => oM (lstOf st v) fun ds => ∃ PA PB b n, ds = (PA ++ PB ++ [(b, n)]).map encP ∧ ((PA ++ (b, n) :: PB).Pairwise SepR ∧ (PA.length + PB.length < 8 ∧ newL ((PA ++ (b, n) :: PB).map encP) st k)))
  False
  (one1 args fun v => oM (lstOf st v) fun ds => newL ds st k)
  (one1 args fun v => vcBytes v st k)
  (one1 args fun v => dOf v fun x => bOf x fun b => k (.d (.int (bif b then 1 else 0))) st)
noncomputable def isStar (e : PySem.Expr) : Bool := Nat.beq e.ctorIdx 22
noncomputable def isCompE (e : PySem.Expr) : Bool := Nat.ble 8 e.ctorIdx && Nat.ble e.ctorIdx 10
noncomputable def isNameE (e : PySem.Expr) : Bool := Nat.beq e.ctorIdx 23
noncomputable def plainO : PySem.Expr → Bool
  | .Name .. => true
  | .Subscript o .. => isNameE o
  | .Attribute o .. => isNameE o
  | _ => false
noncomputable def plainT (e : PySem.Expr) : Bool := Nat.beq e.ctorIdx 16 || (Nat.ble 19 e.ctorIdx && (Nat.ble e.ctorIdx 23 && !Nat.beq e.ctorIdx 22))
noncomputable def vcL (f : PySem.Expr → St → (V → St → Prop) → Prop) : List PySem.Expr → St → (List V → St → Prop) → Prop
  | [], st, k => k [] st
  | e :: r, st, k => f e st fun v st => vcL f r st fun vs st => k (v :: vs) st
noncomputable def noL : List V → Bool
  | [] => true
  | v :: r => v.casesOn (fun _ => noL r) (fun _ => noL r) (fun _ => false) (fun _ => noL r) (fun _ => noL r) (fun _ => noL r)
noncomputable def callT (G : GP) (ex : Bool → Int → St → Prop) (f : Addr) (vs : List V) (st : St) (k : V → St → Prop) : Prop := match G.call f with
  | some T => orB (noL vs) (T vs st.W (fun v W => k v ⟨W, st.Lc, st.vars⟩) (fun c W => ex false c ⟨W, st.Lc, st.vars⟩)) False
  | none => False
noncomputable def vcCall (G : GP) (ex : Bool → Int → St → Prop) (fv : V) (vs : List V) (st : St) (k : V → St → Prop) : Prop := match fv with
  | .top f => callT G ex f vs st k
  | .bi b => orB G.h (vcBi b vs st k) False
  | _ => False
noncomputable def okFv (G : GP) : V → Bool
  | .top f => (G.call f).isSome
  | .bi _ => G.h
  | _ => false
noncomputable def appX (v x : V) (st : St) (k : V → St → Prop) : Prop := frz x st fun d st => oM (lstOf st v) fun ds => (ds.length : Int) + 1 ≤ 4096 ∧ setO v (ds ++ [d]) st fun st => k (.d .none) st
noncomputable def popX (v : V) (ds : List D) (st : St) (k : V → St → Prop) : Prop := ds.casesOn False fun y r => setO v r st fun st => k (.d y) st
noncomputable def vcListM (v : V) (ds : List D) (a : Str) (vs : List V) (st : St) (k : V → St → Prop) : Prop := one1 vs fun x => (seq a (Str.ofString "append")).casesOn
  (int1 x fun i => orB (seq a (Str.ofString "pop")) (i = 0 ∧ popX v ds st k) False) (appX v x st k)
noncomputable def vcLM (v : V) (a : Str) (vs : List V) (st : St) (k : V → St → Prop) : Prop := oM (lstOf st v) fun ds => vcListM v ds a vs st k
noncomputable def vcAndT (f : PySem.Expr → St → (V → St → Prop) → Prop) : List PySem.Expr → St → (V → St → Prop) → Prop
  | [], st, k => k (.d (.bool true)) st
  | e :: r, st, k => f e st fun v st => brB v (vcAndT f r st k) (k (.d (.bool false)) st)
noncomputable def vcOrT (f : PySem.Expr → St → (V → St → Prop) → Prop) : List PySem.Expr → St → (V → St → Prop) → Prop
  | [], st, k => k (.d (.bool false)) st
  | e :: r, st, k => f e st fun v st => brB v (k (.d (.bool true)) st) (vcOrT f r st k)
noncomputable def vcAndV (f : PySem.Expr → St → (V → St → Prop) → Prop) : List PySem.Expr → St → (V → St → Prop) → Prop
  | [], _, _ => False
  | [e], st, k => f e st k
  | e :: e2 :: r, st, k => f e st fun v st => brB v (vcAndV f (e2 :: r) st k) (k v st)
noncomputable def vcOrV (f : PySem.Expr → St → (V → St → Prop) → Prop) : List PySem.Expr → St → (V → St → Prop) → Prop
  | [], _, _ => False
  | [e], st, k => f e st k
  | e :: e2 :: r, st, k => f e st fun v st => brB v (k v st) (vcOrV f (e2 :: r) st k)
noncomputable def dispV (v : V) (st : St) (k : V → St → Prop) : Prop := v.casesOn (fun x => k (.d x) st) (fun x => k (.g x) st) (fun i => oM (nth st.Lc i) fun o => oM o fun ds => k (.g (lnth st.W)) ⟨st.W ++ [.lst ds], put st.Lc i none, st.vars⟩)
  (fun x => k (.top x) st) (fun x => k (.bi x) st) (fun x => k (.exc x) st)
noncomputable def vcD (f : PySem.Expr → St → (V → St → Prop) → Prop) : List (Option PySem.Expr) → List PySem.Expr → St → (List (Str × V) → St → Prop) → Prop
  | [], es, st, k => nil1 es (k [] st)
  | o :: r, es, st, k => es.casesOn False fun e es => oM o fun c => eCo c fun c _ _ => eSt c fun x => f e st fun v st => vcD f r es st fun vs st => dispV v st fun v st => k ((x, v) :: vs) st
noncomputable def memS (x : Str) : List Str → Bool
  | [] => false
  | y :: r => seq x y || memS x r
noncomputable def distS : List Str → Bool
  | [] => true
  | x :: r => !memS x r && distS r
noncomputable def strC (c : Const) : Option Str := c.casesOn none (fun _ => none) (fun _ => none) (fun _ => none) (fun _ _ => none) (fun s => some s) (fun _ => none) none
noncomputable def strE (e : PySem.Expr) : Option Str := if h : e.ctorIdx = 19 then PySem.Expr.Constant.elim (motive_1 := fun _ => Option Str) e h (fun c _ _ => strC c) else none
theorem strE_use {e : PySem.Expr} {x : Str} (h : strE e = some x) : ∃ j p, e = .Constant (.str x) j p := by
  by_cases q : e.ctorIdx = 19
  · refine PySem.Expr.Constant.elim (motive_1 := fun e => strE e = some x → ∃ j p, e = .Constant (.str x) j p) e q (fun c j p h => ?_) h
    have h : strC c = some x := h
    cases c <;> first | (cases (show some _ = some _ from h); exact ⟨j, p, rfl⟩) | cases h
  · have : (none : Option Str) = some x := (dif_neg q).symm.trans h
    cases this
noncomputable def keyNames : List (Option PySem.Expr) → Option (List Str)
  | [] => some []
  | o :: r => o.casesOn none fun e => (strE e).casesOn none fun x => (keyNames r).casesOn none fun l => some (x :: l)
theorem keyNames_cons {o : Option PySem.Expr} {r : List (Option PySem.Expr)} {xs : List Str} (h : keyNames (o :: r) = some xs) : ∃ x j p l, o = some (.Constant (.str x) j p) ∧ keyNames r = some l ∧ xs = x :: l := by
  cases o with
  | none => cases h
  | some e =>
    have h' : (strE e).casesOn none (fun x => (keyNames r).casesOn none fun l => some (x :: l)) = some xs := h
    cases q : strE e with
    | none => rw [q] at h'; cases h'
    | some x =>
      rw [q] at h'
      obtain ⟨j, p, rfl⟩ := strE_use q
      cases q2 : keyNames r with
      | none => rw [q2] at h'; cases h'
      | some l => rw [q2] at h'; cases h'; exact ⟨x, j, p, l, rfl, rfl, rfl⟩
noncomputable def okKeys (ks : List (Option PySem.Expr)) : Bool := match keyNames ks with
  | some l => distS l && Nat.ble (lnth ks) 15
  | none => false
noncomputable abbrev encS (p : Int × Nat) : D := .tup [.int p.1, .int (p.1 + p.2)]
noncomputable def allNotCell : List (Str × NameKind) → Bool
  | [] => true
  | (_, .cell) :: _ => false
  | _ :: r => allNotCell r
noncomputable def locsOk (l : List (Str × NameKind)) : List (Str × NameKind) → Bool
  | [] => true
  | (x, .local) :: r => isLocN (lk x l) && locsOk l r
  | _ :: r => locsOk l r
noncomputable def isFunK : ScopeKind → Bool
  | .function => true
  | _ => false
noncomputable def noFree : List (Str × NameKind) → Bool
  | [] => true
  | (_, .free) :: _ => false
  | _ :: r => noFree r
noncomputable def isFreeN : Option NameKind → Bool
  | some .free => true
  | _ => false
noncomputable def oneFree (h : Str) : List (Str × NameKind) → Bool
  | [] => true
  | (x, .free) :: r => seq x h && oneFree h r
  | _ :: r => oneFree h r
noncomputable def compSc (sc : Scope) : Bool := isFunK sc.kind && (allNotCell sc.names && locsOk sc.names sc.names)
noncomputable def isBi (i : Nat) (o : Option V) : Bool := o.casesOn false fun v => v.casesOn (fun _ => false) (fun _ => false) (fun _ => false) (fun _ => false) (fun b => Nat.beq b.ctorIdx i) (fun _ => false)
noncomputable def isLenG (o : Option V) : Bool := isBi 0 o
noncomputable def isRangeG (o : Option V) : Bool := isBi 4 o
noncomputable def isTopG (a : Addr) (o : Option V) : Bool := o.casesOn false fun v => v.casesOn (fun _ => false) (fun _ => false) (fun _ => false) (fun b => Nat.beq b a) (fun _ => false) (fun _ => false)
theorem isBi_use {i : Nat} {o : Option V} (h : isBi i o = true) : ∃ b, o = some (.bi b) ∧ b.ctorIdx = i := by
  cases o with
  | none => cases h
  | some v => cases v <;> first | cases h | exact ⟨_, rfl, Nat.eq_of_beq_eq_true h⟩
theorem isLenG_use {o : Option V} (h : isLenG o = true) : o = some (.bi .len) := by
  obtain ⟨b, rfl, e⟩ := isBi_use h
  clear h
  cases b <;> first | rfl | cases e
theorem isRangeG_use {o : Option V} (h : isRangeG o = true) : o = some (.bi .range) := by
  obtain ⟨b, rfl, e⟩ := isBi_use h
  clear h
  cases b <;> first | rfl | cases e
theorem isTopG_use {a : Addr} {o : Option V} (h : isTopG a o = true) : o = some (.top a) := by
  cases o with
  | none => cases h
  | some v => cases v <;> first | cases h | exact congrArg (fun a => some (V.top a)) (Nat.eq_of_beq_eq_true h)
noncomputable def isMethN (a : Str) : Bool := seq a (Str.ofString "append") || seq a (Str.ofString "pop")
noncomputable def eT2 (e : PySem.Expr) (P : PySem.Expr → PySem.Expr → Prop) : Prop := eTu e fun l _ _ => two1 l P
noncomputable def eF1 (e : PySem.Expr) (P : Str → Str → Prop) : Prop := eCl e fun f as ks _ => nil1 ks (eNm f fun fn _ => one1 as fun b => eNm b fun b _ => P fn b)
noncomputable def eAf (e : PySem.Expr) (P : Str → Str → Str → Prop) : Prop := eBn e fun l op r _ => orB (Nat.beq op.ctorIdx 0) (eNm l fun a _ => eF1 r (P a)) False
noncomputable def eDs (e : PySem.Expr) (P : Str → Str → Prop) : Prop := eSb e fun o i _ => eNm o fun h _ => eCo i fun c _ _ => eSt c fun s => P h s
noncomputable def eF2 (e : PySem.Expr) (P : Str → PySem.Expr → PySem.Expr → Prop) : Prop := eCl e fun f as ks _ => nil1 ks (eNm f fun fn _ => two1 as (P fn))
noncomputable def eNi (e : PySem.Expr) (P : Str → PySem.Expr → Prop) : Prop := eCm e fun l ops rs _ => eNm l fun x _ => one1 ops fun op => one1 rs fun q => orB (Nat.beq op.ctorIdx 9) (P x q) False
section
variable {e : PySem.Expr} {R : Prop}
theorem eT2_go {P} (h : eT2 e P) (k : ∀ a b j p, e = .Tuple [a, b] j p → P a b → R) : R :=
  eTu_go h fun l j p e1 h => two1_go h fun a b e2 h => k a b j p (by rw [e1, e2]) h
theorem eF1_go {P} (h : eF1 e P) (k : ∀ fn b p1 p2 p3, e = .Call (.Name fn p1) [.Name b p2] [] p3 → P fn b → R) : R :=
  eCl_go h fun f as ks p3 e1 h => nil1_go h fun e2 h => eNm_go h fun fn p1 e3 h => one1_go h fun b e4 h => eNm_go h fun y p2 e5 h => k fn y p1 p2 p3 (by rw [e1, e2, e3, e4, e5]) h
theorem eAf_go {P} (h : eAf e P) (k : ∀ a fn b p1 p2 p3 p4 p5, e = .BinOp (.Name a p1) .Add (.Call (.Name fn p2) [.Name b p3] [] p4) p5 → P a fn b → R) : R :=
  eBn_go h fun l op r p5 e1 h => orB_go h fun o h => eNm_go h fun a p1 e2 h => eF1_go h fun fn b p2 p3 p4 e3 h => k a fn b p1 p2 p3 p4 p5 (by rw [e1, e2, e3, show op = .Add by cases op <;> first | rfl | cases o]) h
theorem eDs_go {P} (h : eDs e P) (k : ∀ x s p1 j p2 p3, e = .Subscript (.Name x p1) (.Constant (.str s) j p2) p3 → P x s → R) : R :=
  eSb_go h fun o i p3 e1 h => eNm_go h fun x p1 e2 h => eCo_go h fun c j p2 e3 h => eSt_go h fun s e4 h => k x s p1 j p2 p3 (by rw [e1, e2, e3, e4]) h
theorem eF2_go {P} (h : eF2 e P) (k : ∀ fn a b p1 p2, e = .Call (.Name fn p1) [a, b] [] p2 → P fn a b → R) : R :=
  eCl_go h fun f as ks p2 e1 h => nil1_go h fun e2 h => eNm_go h fun fn p1 e3 h => two1_go h fun a b e4 h => k fn a b p1 p2 (by rw [e1, e2, e3, e4]) h
theorem eNi_go {P} (h : eNi e P) (k : ∀ x q p1 p2, e = .Compare (.Name x p1) [.NotIn] [q] p2 → P x q → R) : R :=
  eCm_go h fun l ops rs p2 e1 h => eNm_go h fun x p1 e2 h => one1_go h fun op e3 h => one1_go h fun q e4 h => orB_go h fun o h => k x q p1 p2 (by rw [e1, e2, e3, e4, show op = .NotIn by cases op <;> first | rfl | cases o]) h
end
section
variable {R : Prop}
theorem dOf_go {v : V} {P : D → Prop} (h : dOf v P) (k : ∀ x, v = .d x → P x → R) : R := by cases v <;> first | exact k _ rfl h | exact h.elim
theorem iOf_go {x : D} {P : Int → Prop} (h : iOf x P) (k : ∀ i, x = .int i → P i → R) : R := by cases x <;> first | exact k _ rfl h | exact h.elim
theorem lOf_go {x : D} {P : List D → Prop} (h : lOf x P) (k : ∀ i, x = .lst i → P i → R) : R := by cases x <;> first | exact k _ rfl h | exact h.elim
theorem gOf_go {v : V} {P : Nat → Prop} (h : gOf v P) (k : ∀ x, v = .g x → P x → R) : R := by cases v <;> first | exact k _ rfl h | exact h.elim
theorem int1_go {v : V} {P : Int → Prop} (h : int1 v P) (k : ∀ i, v = .d (.int i) → P i → R) : R := dOf_go h fun x e h => iOf_go h fun i e2 h => k i (e.trans (congrArg V.d e2)) h
theorem isOn_go {o : AObj} {P} (h : isOn o P) (k : ∀ ks, o = .iset ks → P ks → R) : R := by cases o <;> first | exact k _ rfl h | exact h.elim
theorem sdOn_go {o : AObj} {P} (h : sdOn o P) (k : ∀ ks, o = .sdict ks → P ks → R) : R := by cases o <;> first | exact k _ rfl h | exact h.elim
end
noncomputable def viewA (elt : PySem.Expr) (g : Comprehension) (P : Str → Str → Str → Str → Prop) : Prop :=
  eT2 elt fun q1 q2 => eNm q1 fun a1 _ => eAf q2 fun a2 fn b1 => eT2 g.target fun x y => eNm x fun x _ => eNm y fun y _ => eNm g.iter fun z _ => nil1 g.ifs (orB (decide (g.is_async = 0) && (seq a1 x && (seq a2 x && seq b1 y))) (P fn x y z) False)
theorem viewA_go {elt : PySem.Expr} {g : Comprehension} {P} {R : Prop} (h : viewA elt g P) (k : ∀ fn x y z p1 p2 p3 p4 p5 p6 p7 j p8 p9 j2 p10 p11, (∀ sc pos, PySem.Expr.ListComp elt [g] sc pos = .ListComp (.Tuple [.Name x p1, .BinOp (.Name x p2) .Add (.Call (.Name fn p3) [.Name y p4] [] p5) p6] j p7) [⟨.Tuple [.Name x p8, .Name y p9] j2 p10, .Name z p11, [], 0⟩] sc pos) → P fn x y z → R) : R := by
  obtain ⟨tg, it, ifs, as⟩ := g
  refine eT2_go h fun q1 q2 j p7 e1 h => eNm_go h fun a1 p1 e2 h => eAf_go h fun a2 fn b1 p2 p3 p4 p5 p6 e3 h => eT2_go h fun x y j2 p10 e4 h => eNm_go h fun x' p8 e5 h => eNm_go h fun y' p9 e6 h => eNm_go h fun z p11 e7 h => nil1_go h fun e8 h => orB_go h fun e9 h =>
    k fn x' y' z p1 p2 p3 p4 p5 p6 p7 j p8 p9 j2 p10 p11 (fun sc pos => ?_) h
  simp only [Bool.and_eq_true, decide_eq_true_eq] at e9
  obtain ⟨i1, i2, i3, i4⟩ := e9
  rw [e1, e2, e3, show tg = _ from e4, e5, e6, show it = _ from e7, show ifs = _ from e8, show as = 0 from i1, seq_iff.mp i2, seq_iff.mp i3, seq_iff.mp i4]
noncomputable def compA (G : GP) (elt : PySem.Expr) (g : Comprehension) (sc : Scope) (st : St) (k : V → St → Prop) : Prop := viewA elt g fun fn x y z =>
  orB (G.h && (!seq x y && (compSc sc && (noFree sc.names && (okVar sc x && (okVar sc y && (isGlobN (kindN sc fn) && isLenG (G.glob fn))))))))
    (oM (lk z st.vars) fun v => dOf v fun d => lOf d fun ds => ∃ ps, ds = List.map encP ps ∧ ((∀ p ∈ ps, -4096 ≤ p.1 ∧ p.1 ≤ 4096) ∧ newL (ps.map encS) st k)) False
noncomputable def intAt (s : Str) (kvs : List (Str × V)) (P : Int → Prop) : Prop := oM (lk s kvs) fun v => int1 v P
noncomputable def viewB (elt : PySem.Expr) (g : Comprehension) (P : Str → Str → Str → Str → Str → Str → Prop) : Prop :=
  eNm elt fun x1 _ => eNm g.target fun x _ => eF2 g.iter fun rn lo hi => eDs lo fun h s1 => eDs hi fun h2 s2 => one1 g.ifs fun c => eNi c fun x2 q => eDs q fun h3 s3 => orB (decide (g.is_async = 0) && (seq x1 x && (seq x2 x && (seq h2 h && seq h3 h)))) (P x rn h s1 s2 s3) False
theorem viewB_go {elt : PySem.Expr} {g : Comprehension} {P} {R : Prop} (h : viewB elt g P) (k : ∀ x rn h s1 s2 s3 p1 p2 p3 p4 q1 q2 q3 q4 q5 q6 q7 q8 q9 j1 j2 j3 p5 p6, (∀ sc pos, PySem.Expr.ListComp elt [g] sc pos = .ListComp (.Name x p1) [⟨.Name x p2,
    .Call (.Name rn p3) [.Subscript (.Name h q1) (.Constant (.str s1) j1 q2) q3, .Subscript (.Name h q4) (.Constant (.str s2) j2 q5) q6] [] p4, [.Compare (.Name x p5) [.NotIn] [.Subscript (.Name h q7) (.Constant (.str s3) j3 q8) q9] p6], 0⟩] sc pos) → P x rn h s1 s2 s3 → R) : R := by
  obtain ⟨tg, it, ifs, as⟩ := g
  refine eNm_go h fun x1 p1 e1 h => eNm_go h fun x p2 e2 h => eF2_go h fun rn lo hi p3 p4 e3 h => eDs_go h fun y1 s1 q1 j1 q2 q3 e4 h => eDs_go h fun y2 s2 q4 j2 q5 q6 e5 h => one1_go h fun c e6 h => eNi_go h fun x2 q p5 p6 e7 h => eDs_go h fun y3 s3 q7 j3 q8 q9 e8 h => orB_go h fun e9 h =>
    k x rn y1 s1 s2 s3 p1 p2 p3 p4 q1 q2 q3 q4 q5 q6 q7 q8 q9 j1 j2 j3 p5 p6 (fun sc pos => ?_) h
  simp only [Bool.and_eq_true, decide_eq_true_eq] at e9
  obtain ⟨i1, i2, i3, i4, i5⟩ := e9
  rw [e1, show tg = _ from e2, show it = _ from e3, e4, e5, show ifs = _ from e6, e7, e8, show as = 0 from i1, seq_iff.mp i2, seq_iff.mp i3, seq_iff.mp i4, seq_iff.mp i5]
noncomputable def compB (G : GP) (elt : PySem.Expr) (g : Comprehension) (sc : Scope) (st : St) (k : V → St → Prop) : Prop := viewB elt g fun x rn h s1 s2 s3 =>
  orB (G.h && (compSc sc && (oneFree h sc.names && (okVar sc x && (isFreeN (kindN sc h) && (isCellK (kindN G.sc h) && (isGlobN (kindN G.sc rn) && isRangeG (G.glob rn))))))))
    (oM (lk h st.vars) fun v => gOf v fun i => oM (nth st.W i) fun o => sdOn o fun kvs => intAt s1 kvs fun a => intAt s2 kvs fun b => oM (lk s3 kvs) fun v => gOf v fun j => oM (nth st.W j) fun o => isOn o fun ks =>
      (-2000 ≤ a ∧ (a ≤ 2000 ∧ (-2000 ≤ b ∧ b ≤ 2000))) ∧ ∀ zs : List Int, (zs = [] ↔ ∀ x, (a ≤ x ∧ x < b) → x ∈ ks) → zs.length ≤ 4096 → newL (zs.map D.int) st k) False
noncomputable def compX (G : GP) (elt : PySem.Expr) (gs : List Comprehension) (sc : Scope) (st : St) (k : V → St → Prop) : Prop := one1 gs fun g => (isNameE elt).casesOn (compA G elt g sc st k) (compB G elt g sc st k)
noncomputable def subX (f : PySem.Expr → St → (V → St → Prop) → Prop) (o i : PySem.Expr) (st : St) (k : V → St → Prop) : Prop := f o st fun v st => f i st fun iv st => vcSub v iv st k
noncomputable def partX (f : PySem.Expr → St → (V → St → Prop) → Prop) (e : Option PySem.Expr) (st : St) (k : Option V → St → Prop) : Prop := e.casesOn (k none st) fun e => f e st fun v st => k (some v) st
noncomputable def sliceX (f : PySem.Expr → St → (V → St → Prop) → Prop) (o : PySem.Expr) (lo hi stp : Option PySem.Expr) (st : St) (k : V → St → Prop) : Prop :=
  stp.casesOn (f o st fun v st => partX f lo st fun a st => partX f hi st fun b st => vcSlice v a b st k) fun _ => False
noncomputable def callN (G : GP) (ex : Bool → Int → St → Prop) (f : PySem.Expr → St → (V → St → Prop) → Prop) (fn : PySem.Expr) (args : List PySem.Expr) (st : St) (k : V → St → Prop) : Prop :=
  orB (args.any isStar) False (f fn st fun fv st => orB (okFv G fv) (vcL f args st fun vs st => vcCall G ex fv vs st k) False)
noncomputable def callI (G : GP) (ex : Bool → Int → St → Prop) (f : PySem.Expr → St → (V → St → Prop) → Prop) (ov : V) (C : Addr) (fs : List (Str × D)) (a : Str) (args : List PySem.Expr) (st : St) (k : V → St → Prop) : Prop :=
  (lk a fs).casesOn (oM (G.meth C a) fun m => orB (okFv G (.top m)) (vcL f args st fun vs st => callT G ex m (ov :: vs) st k) False) fun _ => False
noncomputable def callL (f : PySem.Expr → St → (V → St → Prop) → Prop) (ov : V) (a : Str) (args : List PySem.Expr) (st : St) (k : V → St → Prop) : Prop := orB (isMethN a) (vcL f args st fun vs st => vcLM ov a vs st k) False
noncomputable def callM (G : GP) (ex : Bool → Int → St → Prop) (f : PySem.Expr → St → (V → St → Prop) → Prop) (o : PySem.Expr) (a : Str) (ap : Pos) (args : List PySem.Expr) (p2 : Pos) (st : St) (k : V → St → Prop) : Prop :=
  orB (plainO o && (Nat.ble args.length 20 && (!args.any isStar && Nat.beq ap.endLine p2.line))) (f o st fun ov st => ov.casesOn (fun _ => False)
    (fun i => oM (nth st.W i) fun x => x.casesOn (fun C fs => callI G ex f ov C fs a args st k) (fun _ => callL f ov a args st k) (fun _ => False) (fun _ => False) (fun _ _ => False))
    (fun i => oM (nth st.Lc i) fun x => oM x fun _ => callL f ov a args st k) (fun _ => False) (fun _ => False) (fun _ => False)) False
noncomputable def callX (G : GP) (ex : Bool → Int → St → Prop) (f : PySem.Expr → St → (V → St → Prop) → Prop) (fn : PySem.Expr) (args : List PySem.Expr) (p2 : Pos) (st : St) (k : V → St → Prop) : Prop := match fn with
  | .Name x p => callN G ex f (.Name x p) args st k
  | .Attribute o a ap => callM G ex f o a ap args p2 st k
  | _ => False
noncomputable def nameX (G : GP) (x : Str) (st : St) (k : V → St → Prop) : Prop := (lk x st.vars).casesOn (oM (G.glob x) fun v => orB (isGlobN (kindN G.sc x)) (k v st) False) fun v => k v st
noncomputable def dictX (f : PySem.Expr → St → (V → St → Prop) → Prop) (ks : List (Option PySem.Expr)) (vs : List PySem.Expr) (st : St) (k : V → St → Prop) : Prop :=
  ks.casesOn (nil1 vs (k (.g (lnth st.W)) ⟨st.W ++ [.iset []], st.Lc, st.vars⟩)) fun _ _ => orB (okKeys ks && Nat.beq (lnth ks) (lnth vs)) (vcD f ks vs st fun kvs st => k (.g (lnth st.W)) ⟨st.W ++ [.sdict kvs], st.Lc, st.vars⟩) False
noncomputable def cmp1 (f : PySem.Expr → St → (V → St → Prop) → Prop) (l : PySem.Expr) (op : CmpOp) (r : PySem.Expr) (st : St) (k : V → St → Prop) : Prop := orB (behindInMarks op r) False (f l st fun a st => f r st fun b st => vcCmp op a b st k)
noncomputable def cmp2 (f : PySem.Expr → St → (V → St → Prop) → Prop) (l : PySem.Expr) (op op2 : CmpOp) (r r2 : PySem.Expr) (st : St) (k : V → St → Prop) : Prop :=
  orB (lastMarks [op, op2] [r, r2]) False (f l st fun a st => f r st fun b st => vcCmp op a b st fun v st => brB v (f r2 st fun c st => vcCmp op2 b c st fun v st => asB v fun _ => k v st) (k (.d (.bool false)) st))
noncomputable def cmpT (f : PySem.Expr → St → (V → St → Prop) → Prop) (l : PySem.Expr) (ops : List CmpOp) (rs : List PySem.Expr) (st : St) (k : V → St → Prop) : Prop :=
  ops.casesOn False fun op os => os.casesOn (one1 rs fun r => cmp1 f l op r st fun v st => asB v fun _ => k v st) fun op2 os => nil1 os (two1 rs fun r r2 => cmp2 f l op op2 r r2 st k)
noncomputable def isAnd (op : BoolOp) : Bool := Nat.beq op.ctorIdx 0
noncomputable def isNot (op : UnaryOp) : Bool := Nat.beq op.ctorIdx 1
noncomputable def vcX (G : GP) (ex : Bool → Int → St → Prop) : Nat → Bool → PySem.Expr → St → (V → St → Prop) → Prop
  | 0, _, _, _, _ => False
  | n + 1, false, e, st, k => match e with
    | .Constant c _ _ => oM (constD G.by0 c) fun d => k (.d d) st
    | .Name x _ => nameX G x st k
    | .BinOp l op r _ => vcX G ex n false l st fun a st => vcX G ex n false r st fun b st => vcBin op a b st k
    | .Compare l ops rs _ => one1 ops fun op => one1 rs fun r => cmp1 (vcX G ex n false) l op r st k
    | .IfExp t b o _ => vcX G ex n true t st fun v st => brB v (vcX G ex n false b st k) (vcX G ex n false o st k)
    | .BoolOp op es _ => (isAnd op).casesOn (vcOrV (vcX G ex n false) es st k) (vcAndV (vcX G ex n false) es st k)
    | .UnaryOp op e _ => orB (isNot op) (vcX G ex n false e st fun v st => asB v fun b => k (.d (.bool (!b))) st) False
    | .Attribute o a _ => eNm o fun x p => vcX G ex n false (.Name x p) st fun v st => vcAttr v a st k
    | .Subscript o i _ => match i with
      | .Slice lo hi stp _ => sliceX (vcX G ex n false) o lo hi stp st k
      | i => subX (vcX G ex n false) o i st k
    | .Tuple es _ _ => orB (es.any isStar) False (vcL (vcX G ex n false) es st fun vs st => orB (Nat.ble (lnth vs) 50) (frzL vs st fun ds st => k (.d (.tup ds)) st) False)
    | .List es _ => orB (es.any isStar) False (vcL (vcX G ex n false) es st fun vs st => orB (Nat.ble (lnth vs) 50) (frzL vs st fun ds st => newL ds st k) False)
    | .Dict ks vs _ => dictX (vcX G ex n false) ks vs st k
    | .Call fn args ks p2 => nil1 ks (callX G ex (vcX G ex n false) fn args p2 st k)
    | .ListComp elt gs sc _ => compX G elt gs sc st k
    | _ => False
  | n + 1, true, e, st, k => match e with
    | .Compare l ops rs _ => cmpT (vcX G ex n false) l ops rs st k
    | .IfExp t b o _ => vcX G ex n true t st fun v st => brB v (vcX G ex n true b st k) (vcX G ex n true o st k)
    | .BoolOp op es _ => (isAnd op).casesOn (vcOrT (vcX G ex n true) es st k) (vcAndT (vcX G ex n true) es st k)
    | .UnaryOp op e _ => orB (isNot op) (vcX G ex n true e st fun v st => asB v fun b => k (.d (.bool (!b))) st) False
    | e => orB (plainT e) (vcX G ex n false e st fun v st => asB v fun _ => k v st) False
end
noncomputable section
noncomputable def vcB (f : Stmt → St → (AFlow → St → Prop) → Prop) : List Stmt → St → (AFlow → St → Prop) → Prop
  | [], st, k => k .next st
  | s :: r, st, k => f s st fun fl st => match fl with
    | .next => vcB f r st k
    | .brk => k .brk st
    | .cont => k .cont st
    | .ret x => k (.ret x) st
noncomputable def nmO (e : PySem.Expr) : Option Str := if h : e.ctorIdx = 23 then some (PySem.Expr.Name.elim (motive_1 := fun _ => Str) e h fun x _ => x) else none
theorem nmO_use {e : PySem.Expr} {x : Str} (h : nmO e = some x) : ∃ p, e = .Name x p := by
  by_cases q : e.ctorIdx = 23
  · exact PySem.Expr.Name.elim (motive_1 := fun e => nmO e = some x → ∃ p, e = .Name x p) e q (fun y p h => ⟨p, by cases (show some y = some x from h); rfl⟩) h
  · have : (none : Option Str) = some x := (dif_neg q).symm.trans h
    cases this
noncomputable def namesOf : List PySem.Expr → Option (List Str)
  | [] => some []
  | e :: r => (nmO e).casesOn none fun x => (namesOf r).casesOn none fun l => some (x :: l)
theorem namesOf_cons {e : PySem.Expr} {r : List PySem.Expr} {xs : List Str} (h : namesOf (e :: r) = some xs) : ∃ x p l, e = .Name x p ∧ namesOf r = some l ∧ xs = x :: l := by
  have h' : (nmO e).casesOn none (fun x => (namesOf r).casesOn none fun l => some (x :: l)) = some xs := h
  cases q : nmO e with
  | none => rw [q] at h'; cases h'
  | some x =>
    rw [q] at h'
    obtain ⟨p, rfl⟩ := nmO_use q
    cases q2 : namesOf r with
    | none => rw [q2] at h'; cases h'
    | some l => rw [q2] at h'; cases h'; exact ⟨x, p, l, rfl, rfl, rfl⟩
noncomputable def storeAll (G : GP) : List Str → List V → St → (St → Prop) → Prop
  | [], [], st, k => k st
  | x :: xs, v :: vs, st, k => storeV G x v st fun st => storeAll G xs vs st k
  | _, _, _, _ => False
noncomputable def vcUnpack (G : GP) (es : List PySem.Expr) (v : V) (st : St) (k : St → Prop) : Prop := oM (namesOf es) fun xs => dOf v fun d => tOf d fun ds => storeAll G xs (ds.map V.d) st k
noncomputable def vcTarget (G : GP) (t : PySem.Expr) (v : V) (st : St) (k : St → Prop) : Prop := match t with
  | .Name x _ => storeV G x v st k
  | .Tuple es _ _ => orB (es.any isStar) False (vcUnpack G es v st k)
  | _ => False
noncomputable def subVars : List (Str × V) → List (Str × V) → Prop
  | [], _ => True
  | (x, v) :: r, vs => lk x vs = some v ∧ subVars r vs
noncomputable def subSt (s t : St) : Prop := s.W = t.W ∧ (s.Lc = t.Lc ∧ subVars s.vars t.vars)
noncomputable def loopK (J : St → Prop) (k : AFlow → St → Prop) (fl : AFlow) (st : St) : Prop := match fl with
  | .next => J st
  | .cont => J st
  | .brk => k .next st
  | .ret x => k (.ret x) st
noncomputable def unroll (b : D → St → (AFlow → St → Prop) → Prop) : List D → St → (AFlow → St → Prop) → Prop
  | [], st, k => k .next st
  | d :: r, st, k => b d st (loopK (fun st => unroll b r st k) k)
noncomputable def isDisp (e : PySem.Expr) : Option (List PySem.Expr) := if h : e.ctorIdx = 25 then some (PySem.Expr.Tuple.elim (motive_1 := fun _ => List PySem.Expr) e h fun l _ _ => l) else none
theorem isDisp_use {e : PySem.Expr} {l : List PySem.Expr} (h : isDisp e = some l) : ∃ n p, e = .Tuple l n p := by
  by_cases q : e.ctorIdx = 25
  · exact PySem.Expr.Tuple.elim (motive_1 := fun e => isDisp e = some l → ∃ n p, e = .Tuple l n p) e q (fun l' n p h => ⟨n, p, by cases (show some l' = some l from h); rfl⟩) h
  · have : (none : Option (List PySem.Expr)) = some l := (dif_neg q).symm.trans h
    cases this
theorem isDisp_no {e : PySem.Expr} (h : isDisp e = none) : e.ctorIdx ≠ 25 := fun q =>
  PySem.Expr.Tuple.elim (motive_1 := fun e => isDisp e = none → False) e q (fun l n p h => by cases (show some l = none from h)) h
noncomputable def lineOf (p : Pos) : Nat := p.line
noncomputable def ncT (i : Nat) : Bool := Nat.beq i 15 || (Nat.beq i 16 || Nat.beq i 24)
noncomputable def ncA (e : PySem.Expr) : Bool := ncT e.ctorIdx || (if h : e.ctorIdx = 2 then PySem.Expr.BinOp.elim (motive_1 := fun _ => Bool) e h (fun _ _ r _ => Nat.beq r.ctorIdx 16) else false)
noncomputable def sameLine (l : Nat) : List PySem.Expr → Bool
  | [] => true
  | e :: r => Nat.beq e.pos.line l && sameLine l r
noncomputable def headLine (l : List PySem.Expr) : Nat := (l.head?.map (·.pos.line)).getD 0
noncomputable def swapOk (sc : Scope) (ts vs : List PySem.Expr) : Bool := (namesOf ts).casesOn false fun xs => (Nat.beq (lnth ts) 2 || Nat.beq (lnth ts) 3) && (Nat.beq (lnth vs) (lnth ts) && (!vs.any isStar && (sameLine (headLine ts) ts && (distS xs && (xs.all (okVar sc) && vs.any ncA)))))
noncomputable def delV (x : Str) : List (Str × V) → List (Str × V)
  | [] => []
  | p :: r => match seq x p.1 with
    | true => delV x r
    | false => p :: delV x r
noncomputable def litErr (c : Int) (x : Str) : Bool := c.casesOn (fun m => Nat.ble m 9) (fun _ => false) && Nat.ble (lnth x.cps.toList) 100
noncomputable def isQE (o : Option V) : Bool := isTopG 38 o
noncomputable def noEx (_ : Bool) (_ : Int) (_ : St) : Prop := False
noncomputable def isNT (e : PySem.Expr) : Bool := Nat.beq e.ctorIdx 23 || Nat.beq e.ctorIdx 25
noncomputable def rangeV (vs : List V) (P : Int → Int → Prop) : Prop := vs.casesOn False fun v r => int1 v fun a => r.casesOn (P 0 a) fun w q => q.casesOn (int1 w fun b => P a b) fun _ _ => False
theorem rangeV_use {vs : List V} {P : Int → Int → Prop} (h : rangeV vs P) : ∃ a b, (a = 0 ∧ vs = [.d (.int b)] ∨ vs = [.d (.int a), .d (.int b)]) ∧ P a b := by
  cases vs with
  | nil => exact h.elim
  | cons v r =>
    obtain ⟨a, rfl, h⟩ := int1_use (v := v) h
    cases r with
    | nil => exact ⟨0, a, .inl ⟨rfl, rfl⟩, h⟩
    | cons w q => cases q with
      | nil =>
        obtain ⟨b, rfl, h⟩ := int1_use (v := w) h
        exact ⟨a, b, .inr rfl, h⟩
      | cons => exact h.elim
noncomputable def errV (vs : List V) (P : Int → Str → Prop) : Prop := vs.casesOn False fun v r => two1 r fun u w => int1 v fun c => dOf u fun _ => dOf w fun d => sOf d fun x => P c x
theorem errV_use {vs : List V} {P : Int → Str → Prop} (h : errV vs P) : ∃ c y x, vs = [.d (.int c), .d y, .d (.str x)] ∧ P c x := by
  cases vs with
  | nil => exact h.elim
  | cons v r =>
    obtain ⟨u, w, rfl, h⟩ := two1_use (l := r) h
    obtain ⟨c, rfl, h⟩ := int1_use (v := v) h
    obtain ⟨y, rfl, h⟩ := dOf_use (v := u) h
    obtain ⟨d, rfl, h⟩ := dOf_use (v := w) h
    obtain ⟨x, rfl, h⟩ := sOf_use (v := d) h
    exact ⟨c, y, x, rfl, h⟩
noncomputable def forRange (I : Option Inv) (a b' : Int) (tg : V → St → (St → Prop) → Prop) (bd : St → (AFlow → St → Prop) → Prop) (st : St) (k : AFlow → St → Prop) : Prop := match I with
  | some I => (-4096 ≤ a ∧ (a ≤ 4096 ∧ (-4096 ≤ b' ∧ b' ≤ 4096))) ∧ ((∃ x, I.J 0 x ∧ subSt (I.S x) st) ∧
      ((∀ (i : Nat) (x : I.X), (a + i < b' ∧ I.J i x) → tg (.d (.int (a + i))) (I.S x) fun st => bd st (loopK (fun st => ∃ x, I.J (i + 1) x ∧ subSt (I.S x) st) k)) ∧
       ∀ x : I.X, I.J (b' - a).toNat x → k .next (I.S x)))
  | none => False
noncomputable def forList (I : Option Inv) (ds : List D) (tg : V → St → (St → Prop) → Prop) (bd : St → (AFlow → St → Prop) → Prop) (st : St) (k : AFlow → St → Prop) : Prop := match I with
  | some I => ds = I.items.map I.enc ∧ ((∃ x, I.J 0 x ∧ subSt (I.S x) st) ∧
      ((∀ (i : Nat) (y : I.α) (x : I.X), (I.items[i]? = some y ∧ I.J i x) → tg (.d (I.enc y)) (I.S x) fun st => bd st (loopK (fun st => ∃ x, I.J (i + 1) x ∧ subSt (I.S x) st) k)) ∧
       ∀ x : I.X, I.J I.items.length x → k .next (I.S x)))
  | none => unroll (fun d st k => tg (.d d) st fun st => bd st k) ds st k
noncomputable def joinK (I : Inv) (k : AFlow → St → Prop) (fl : AFlow) (st : St) : Prop := match fl with
  | .next => ∃ x, I.J 0 x ∧ subSt (I.S x) st
  | .cont => k .cont st
  | .brk => k .brk st
  | .ret x => k (.ret x) st
noncomputable abbrev FX := PySem.Expr → St → (V → St → Prop) → Prop
noncomputable abbrev FB := List Stmt → St → (AFlow → St → Prop) → Prop
noncomputable def asgT (G : GP) (f : FX) (ts : List PySem.Expr) (v : PySem.Expr) (st : St) (k : St → Prop) : Prop := (isDisp v).casesOn
  (orB (G.h && (!isCompE v && !ts.any isStar)) (f v st fun v st => vcUnpack G ts v st k) False)
  fun es => orB (G.h && swapOk G.sc ts es) (vcL f es st fun vs st => oM (namesOf ts) fun xs => storeAll G xs.reverse vs.reverse st k) False
noncomputable def asgX (G : GP) (f : FX) (t v : PySem.Expr) (st : St) (k : St → Prop) : Prop := match t with
  | .Name x _ => orB (isCompE v) False (f v st fun v st => storeV G x v st k)
  | .Tuple ts _ _ => asgT G f ts v st k
  | .Attribute o a _ => orB (isCompE v) False (f v st fun v st => f o st fun ov st => vcSetAttr G ov a v st k)
  | .Subscript o i _ => orB (isCompE v) False (f v st fun v st => f o st fun ov st => f i st fun iv st => vcSetItem ov iv v st k)
  | _ => False
noncomputable def eAt (e : PySem.Expr) (P : PySem.Expr → Str → Pos → Prop) : Prop := if h : e.ctorIdx = 20 then PySem.Expr.Attribute.elim (motive_1 := fun _ => Prop) e h P else False
theorem eAt_go {e : PySem.Expr} {P} {R : Prop} (h : eAt e P) (k : ∀ o a p, e = .Attribute o a p → P o a p → R) : R := by
  by_cases q : e.ctorIdx = 20
  · exact PySem.Expr.Attribute.elim (motive_1 := fun e => eAt e P → (∀ o a p, e = .Attribute o a p → P o a p → R) → R) e q (fun o a p h k => k o a p rfl h) h k
  · exact False.elim ((dif_neg q).mp h)
noncomputable def augX (G : GP) (f : FX) (t : PySem.Expr) (op : Operator) (v : PySem.Expr) (st : St) (k : St → Prop) : Prop := eAt t fun o a _ => orB (Nat.beq op.ctorIdx 0) (f o st fun ov st => vcAttr ov a st fun old st => f v st fun v st => int2 old v fun x y => vcSetAttr G ov a (.d (.int (x + y))) st k) False
noncomputable def raiseX (G : GP) (f : FX) (e : PySem.Expr) (st : St) (P : Int → St → Prop) : Prop := eCl e fun fn args ks _ => nil1 ks (eNm fn fun q _ => orB (G.h && (isQE (G.glob q) && (isGlobN (kindN G.sc q) && !args.any isStar)))
  (vcL f args st fun vs st => errV vs fun c x => orB (litErr c x) (P c st) False) False)
noncomputable def forX (G : GP) (f : FX) (fb : FB) (t it : PySem.Expr) (p : Pos) (b : List Stmt) (st : St) (k : AFlow → St → Prop) : Prop := match it with
  | .Call fn args ks _ => nil1 ks (eNm fn fun rn _ => orB (G.h && (isRangeG (G.glob rn) && (isGlobN (kindN G.sc rn) && (!args.any isStar && isNameE t))))
    (vcL f args st fun vs st => rangeV vs fun a b' => forRange (G.inv (lineOf p) st) a b' (vcTarget G t) (fb b) st k) False)
  | .Name z zp => orB (G.h && isNT t) (f (.Name z zp) st fun v st => dOf v fun d => lOf d fun ds => forList (G.inv (lineOf p) st) ds (vcTarget G t) (fb b) st k) False
  | _ => False
noncomputable def retOf (fl : AFlow) (P : D → Prop) : Prop := fl.casesOn False False False P
theorem retOf_use {fl : AFlow} {P : D → Prop} (h : retOf fl P) : ∃ d, fl = .ret d ∧ P d := by cases fl <;> first | exact h.elim | exact ⟨_, rfl, h⟩
noncomputable abbrev GP.off (G : GP) : GP := ⟨G.sc, false, false, G.by0, G.glob, G.meth, G.okn, fun _ => none, G.inv, G.winv⟩
noncomputable def hdX (G : GP) (ty : Option PySem.Expr) (nm : Option Str) (body : List Stmt) (P : Str → Stmt → List Stmt → Prop) : Prop := oM ty fun q => eNm q fun q _ => oM nm fun w => body.casesOn False fun h0 hb => orB (G.h && (G.s && (isQE (G.glob q) && (isGlobN (kindN G.sc q) && okVar G.sc w)))) (P w h0 hb) False
noncomputable def hnd1 (hs : List ExceptHandler) (P : Option PySem.Expr → Option Str → List Stmt → Pos → Prop) : Prop := one1 hs fun h => match h with
  | .ExceptHandler ty nm body p => P ty nm body p
noncomputable def whileX (G : GP) (I : Option WInv) (ft : St → (V → St → Prop) → Prop) (fb : St → (AFlow → St → Prop) → Prop) (st : St) (k : AFlow → St → Prop) : Prop := match I with
  | some I => (∃ x, I.J x ∧ subSt (I.S x) st) ∧ ∀ x : I.X, I.J x → ft (I.S x) fun v st => brB v (fb st (loopK (fun st => ∃ y : I.X, (I.J y ∧ I.m y < I.m x) ∧ subSt (I.S y) st) k)) (k .next st)
  | none => False
noncomputable def ifX (I : Option Inv) (ft : (V → St → Prop) → Prop) (fb fo : St → (AFlow → St → Prop) → Prop) (k : AFlow → St → Prop) : Prop := match I with
  | none => ft fun v st => brB v (fb st k) (fo st k)
  | some I => (ft fun v st => brB v (fb st (joinK I k)) (fo st (joinK I k))) ∧ ∀ x : I.X, I.J 0 x → k .next (I.S x)
noncomputable def vcS (G : GP) : Nat → (Bool → Int → St → Prop) → Stmt → St → (AFlow → St → Prop) → Prop
  | 0, _, _, _, _ => False
  | n + 1, ex, s, st, k => match s with
    | .If t b o p => ifX (G.inv (lineOf p + 100000) st) (vcX G ex n true t st) (vcB (vcS G n ex) b) (vcB (vcS G n ex) o) k
    | .Return e _ => oM e fun e => vcX G ex n false e st fun v st => frz v st fun d st => k (.ret d) st
    | .Assign ts v _ => one1 ts fun t => asgX G (vcX G ex n false) t v st (k .next)
    | .AugAssign t op v _ => augX G (vcX G ex n false) t op v st (k .next)
    | .Expr e _ => orB (isCompE e) False (vcX G ex n false e st fun _ st => k .next st)
    | .Pass _ => k .next st
    | .Raise e c _ => oM e fun e => c.casesOn (raiseX G (vcX G ex n false) e st (ex true)) fun _ => False
    | .For t it b els p => nil1 els (forX G (vcX G ex n false) (vcB (vcS G n noEx)) t it p b st k)
    | .While t b els p => nil1 els (orB G.h (whileX G (G.winv (lineOf p) st) (vcX G noEx n true t) (vcB (vcS G n noEx) b) st k) False)
    | .Try b hs els fin _ => nil1 els (nil1 fin (hnd1 hs fun ty nm body _ => hdX G ty nm body fun w h0 hb => vcB (vcS G n fun md c st => md.casesOn
        (vcB (vcS G.off n noEx) (h0 :: hb) ⟨st.W, st.Lc, setV w (.exc c) st.vars⟩ fun fl st => retOf fl fun d => k (.ret d) ⟨st.W, st.Lc, delV w st.vars⟩) False) b st k))
    | _ => False
end
noncomputable section
inductive XOut (c : Cx) (pins : Led) (n : Cn) (ex : Bool → Int → St → Prop) : Value → Shared → Prop
  | first (n' : Cn) (st : St) (code : Int) (h : Heap) (tk : Nat) (e d t : Addr) (od : Obj) (g : Heap) (m : Str → Option Value) (MW ML : Led) (le : n.Le n') (Am : Amb c g) (F : Fr g c.L h m)
      (N : News g c.L h ((e, excObj d t) :: (d, od) :: (MW ++ (ML ++ (n'.imm ++ pins))))) (ND : (((e, excObj d t) :: (d, od) :: (MW ++ (ML ++ (n'.imm ++ pins)))).map (·.1)).Nodup) (hx : ExcDict od code)
      (RW : Frs (RO c.w n') n'.ga st.W MW) (RL : Frs (RLo n') n'.la st.Lc ML) (q : ex true code st) : XOut c pins n ex (.ref e) (c.at_ h tk)
  | on (n' : Cn) (st : St) (code : Int) (h : Heap) (tk : Nat) (e d t : Addr) (od : Obj) (g G : Heap) (m : Str → Option Value) (MW ML : Led) (le : n.Le n') (Am : Amb c g) (F : Fr g c.L G m)
      (R : RaisedQ c.base G (c.env :: c.outer) e d ((d, od) :: (MW ++ (ML ++ (n'.imm ++ pins)))) h) (us : G.UpToSlots h) (ND : (((e, excObj d t) :: (d, od) :: (MW ++ (ML ++ (n'.imm ++ pins)))).map (·.1)).Nodup) (hx : ExcDict od code)
      (RW : Frs (RO c.w n') n'.ga st.W MW) (RL : Frs (RLo n') n'.la st.Lc ML) (RV : VarsOk c n' pins m st.vars) (q : ex false code st) : XOut c pins n ex (.ref e) (c.at_ h tk)
noncomputable def WP (c : Cx) {α β : Type} (R : Cn → β → α → Prop) (t : Sem α) (n : Cn) (st : St) (k : β → St → Prop) (ex : Bool → Int → St → Prop) : Prop :=
  ∀ pins h tk, Rel c pins n st h → wpAny c.M c.A t (Out c pins R n k) (XOut c pins n ex) (c.at_ h tk)
section
variable {c : Cx} {pins : Led} {α β γ δ : Type} {R : Cn → β → α → Prop} {n n' n₀ : Cn} {st st' : St} {k : β → St → Prop} {ex : Bool → Int → St → Prop}
theorem Out.le (l : n₀.Le n) {v : α} {s : Shared} (o : Out c pins R n k v s) : Out c pins R n₀ k v s := by
  cases o with
  | mk n' b st h tk le r rv q => exact .mk n' b st h tk (l.trans le) r rv q
theorem XOut.le (l : n₀.Le n) {v : Value} {s : Shared} (o : XOut c pins n ex v s) : XOut c pins n₀ ex v s := by
  cases o with
  | first n' st code h tk e d t od g m MW ML le Am F N ND hx RW RL q => exact .first n' st code h tk e d t od g m MW ML (l.trans le) Am F N ND hx RW RL q
  | on n' st code h tk e d t od g G m MW ML le Am F R us ND hx RW RL RV q => exact .on n' st code h tk e d t od g G m MW ML (l.trans le) Am F R us ND hx RW RL RV q
theorem XOut.mono {ex' : Bool → Int → St → Prop} (hq : ∀ b i st, ex b i st → ex' b i st) {v : Value} {s : Shared} (o : XOut c pins n ex v s) : XOut c pins n ex' v s := by
  cases o with
  | first n' st code h tk e d t od g m MW ML le Am F N ND hx RW RL q => exact .first n' st code h tk e d t od g m MW ML le Am F N ND hx RW RL (hq _ _ _ q)
  | on n' st code h tk e d t od g G m MW ML le Am F R us ND hx RW RL RV q => exact .on n' st code h tk e d t od g G m MW ML le Am F R us ND hx RW RL RV (hq _ _ _ q)
theorem XOut.no {v : Value} {s : Shared} (o : XOut c pins n (fun _ _ _ => False) v s) : False := by cases o <;> assumption
theorem WP.use {t : Sem α} (W : WP c R t n st k ex) (l : n₀.Le n) {h : Heap} {tk : Nat} (r : Rel c pins n st h) {Q : α → Shared → Prop}
    (hq : ∀ n' b v st' h' tk', n.Le n' → Rel c pins n' st' h' → R n' b v → k b st' → Q v (c.at_ h' tk')) : wpAny c.M c.A t Q (XOut c pins n₀ ex) (c.at_ h tk) :=
  wpAny_mono (W pins h tk r) (fun v s' o => by cases o with | mk n' b st h tk le r rv q => exact hq n' b v st h tk le r rv q) fun _ _ x => x.le l
theorem WP.go {t : Sem α} (W : WP c R t n st k ex) (l : n₀.Le n) {h : Heap} {tk : Nat} (r : Rel c pins n st h) : wpAny c.M c.A t (Out c pins R n₀ k) (XOut c pins n₀ ex) (c.at_ h tk) :=
  wpAny_mono (W pins h tk r) (fun _ _ o => o.le l) fun _ _ x => x.le l
theorem Out.done (r : Rel c pins n st h) (l : n₀.Le n) {v : α} {b : β} {tk : Nat} (rv : R n b v) (q : k b st) : Out c pins R n₀ k v (c.at_ h tk) := .mk n b st h tk l r rv q
theorem WP.mono {t : Sem α} {k' : β → St → Prop} {ex' : Bool → Int → St → Prop} (W : WP c R t n st k ex) (hk : ∀ b st, k b st → k' b st) (he : ∀ b i st, ex b i st → ex' b i st) : WP c R t n st k' ex' :=
  fun pins h tk r => wpAny_mono (W pins h tk r) (fun _ _ o => by cases o with | mk n' b st h tk le r rv q => exact .mk n' b st h tk le r rv (hk _ _ q)) fun _ _ x => x.mono he
end
noncomputable def RU (_ : Cn) (_ : Unit) (_ : Unit) : Prop := True
noncomputable def RB (_ : Cn) (b b' : Bool) : Prop := b = b'
noncomputable def RF (n : Cn) : AFlow → Flow → Prop
  | .next, f => f = .next
  | .brk, f => f = .brk
  | .cont, f => f = .cont
  | .ret x, f => ∃ v, f = .ret v ∧ BV n (.d x) v
theorem kindN_eq {sc : Scope} {x : Str} : kindN sc x = sc.names.lookup x := by
  unfold kindN
  generalize sc.names = l
  induction l with
  | nil => rfl
  | cons p r ih =>
    obtain ⟨y, v⟩ := p
    unfold lk
    rw [List.lookup_cons, seq_eq, ih]
    cases x == y <;> rfl
theorem okVar_use {sc : Scope} {x : Str} (h : okVar sc x = true) : sc.names.lookup x = some .local ∧ (x == Str.ofString "__debug__") = false := by
  unfold okVar at h
  rw [kindN_eq, Bool.and_eq_true, seq_eq, Bool.not_eq_true'] at h
  refine ⟨?_, h.2⟩
  replace h := h.1
  revert h
  cases sc.names.lookup x with
  | none => intro h; cases h
  | some k => cases k <;> intro h <;> first | rfl | cases h
theorem nth_eq {α : Type} : ∀ (l : List α) (i : Nat), nth l i = l[i]?
  | [], _ => by simp [nth]
  | _ :: _, 0 => by simp [nth]
  | _ :: r, i + 1 => by simp [nth, nth_eq r i]
theorem put_eq {α : Type} : ∀ (l : List α) (i : Nat) (y : α), put l i y = l.set i y
  | [], _, _ => rfl
  | _ :: _, 0, _ => rfl
  | _ :: r, i + 1, y => by simp [put, put_eq r i y]
theorem lnth_eq {α : Type} : ∀ l : List α, lnth l = l.length
  | [] => rfl
  | _ :: r => congrArg (· + 1) (lnth_eq r)
theorem lk_setV {x y : Str} {v : V} : ∀ {l : List (Str × V)}, lk y (setV x v l) = if y = x then some v else lk y l
  | [] => by
    simp only [setV, lk]
    by_cases e : y = x
    · rw [if_pos e, seq_iff.mpr e]
    · rw [if_neg e]
      cases q : seq y x with
      | true => exact absurd (seq_iff.mp q) e
      | false => rfl
  | p :: r => by
    simp only [setV]
    cases q : seq x p.1 with
    | true =>
      have e := seq_iff.mp q
      simp only [lk]
      by_cases e2 : y = x
      · rw [if_pos e2, show seq y p.1 = true from seq_iff.mpr (e2.trans e)]
      · rw [if_neg e2]
        cases q2 : seq y p.1 with
        | true => exact absurd ((seq_iff.mp q2).trans e.symm) e2
        | false => rfl
    | false =>
      simp only [lk]
      rw [lk_setV (l := r)]
      by_cases e2 : y = x
      · rw [if_pos e2, if_pos e2]
        cases q2 : seq y p.1 with
        | true => rw [e2, q] at q2; cases q2
        | false => rfl
      · rw [if_neg e2, if_neg e2]
section
variable {c : Cx} {pins : Led} {n n' : Cn} {m : Str → Option Value} {vars : List (Str × V)}
theorem VarsOk.mono (s : n.Le n') (h : VarsOk c n pins m vars) : VarsOk c n' pins m vars := fun x y e => by
  obtain ⟨v, a, b⟩ := h x y e
  exact ⟨v, a.mono s, b⟩
theorem VarsOk.store {x : Str} {y : V} {v : Value} (h : VarsOk c n pins m vars) (hx : okVar c.sc x = true) (hv : BV n y v) : VarsOk c n pins (fun z => if z = x then some v else m z) (setV x y vars) := fun z w e => by
  rw [lk_setV] at e
  by_cases q : z = x
  · rw [if_pos q] at e
    cases e
    exact ⟨v, hv, by rw [q]; exact (okVar_use hx).2, .inl ⟨by rw [q]; exact (okVar_use hx).1, if_pos q⟩⟩
  · rw [if_neg q] at e
    obtain ⟨u, a, b⟩ := h z w e
    refine ⟨u, a, b.1, b.2.imp (fun b => ⟨b.1, (if_neg q).trans b.2⟩) id⟩
end
section
variable {c : Cx} {α β : Type} {n : Cn} {st : St} {ex : Bool → Int → St → Prop}
theorem Rel.more {pins : Led} {g : Heap} {m : Str → Option Value} {MW ML : Led} {h' : Heap} {a : Addr} {o : Obj} (Am : Amb c g) (F : Fr g c.L h' m) (N : News g c.L h' ((a, o) :: (MW ++ (ML ++ (n.imm ++ pins)))))
    (ND : ((MW ++ (ML ++ (n.imm ++ pins))).map (·.1)).Nodup) (lt : ∀ p ∈ MW ++ (ML ++ (n.imm ++ pins)), p.1 ≠ a) (RW : Frs (RO c.w n) n.ga st.W MW) (RL : Frs (RLo n) n.la st.Lc ML) (RV : VarsOk c n pins m st.vars) :
    n.Le ⟨n.ga, n.la, (a, o) :: n.imm⟩ ∧ Rel c pins ⟨n.ga, n.la, (a, o) :: n.imm⟩ st h' := by
  have le : n.Le ⟨n.ga, n.la, (a, o) :: n.imm⟩ := ⟨fun _ _ h => h, fun _ _ h => h, fun p hp => .tail _ hp⟩
  refine ⟨le, g, m, MW, ML, Am, F, news_sub N fun p hp => ?_, ?_, RW.mono fun _ _ _ => RO.mono le, RL.mono fun _ _ _ => RLo.mono le, RV.mono le⟩
  · simp only [List.mem_append, List.mem_cons] at hp ⊢
    rcases hp with h | h | (h | h) | h <;> simp [h]
  · have : (((a, o) :: (MW ++ (ML ++ (n.imm ++ pins)))).map (·.1)).Nodup := by
      rw [List.map_cons, List.nodup_cons]
      refine ⟨fun h => ?_, ND⟩
      obtain ⟨p, hp, e⟩ := List.mem_map.mp h
      exact lt p hp e
    refine (List.Perm.nodup_iff (List.Perm.map _ ?_)).mp this
    show ((a, o) :: (MW ++ (ML ++ (n.imm ++ pins)))).Perm (MW ++ (ML ++ ((a, o) :: (n.imm ++ pins))))
    rw [← List.append_assoc, ← List.append_assoc MW]
    exact List.perm_middle.symm
theorem Rel.newL {pins : Led} {g : Heap} {m : Str → Option Value} {MW ML : Led} {h' : Heap} {a : Addr} {ws : List Value} {ds : List D} {q : Nat} (Am : Amb c g) (F : Fr g c.L h' m) (N : News g c.L h' ((a, listOf ws.toArray q) :: (MW ++ (ML ++ (n.imm ++ pins)))))
    (ND : ((MW ++ (ML ++ (n.imm ++ pins))).map (·.1)).Nodup) (lt : ∀ p ∈ MW ++ (ML ++ (n.imm ++ pins)), p.1 ≠ a) (RW : Frs (RO c.w n) n.ga st.W MW) (RL : Frs (RLo n) n.la st.Lc ML) (RV : VarsOk c n pins m st.vars) (hd : BDs n.imm ds ws) (hz : ds.length ≤ 4096) :
    n.Le ⟨n.ga, n.la ++ [a], n.imm⟩ ∧ Rel c pins ⟨n.ga, n.la ++ [a], n.imm⟩ ⟨st.W, st.Lc ++ [some ds], st.vars⟩ h' ∧ BV ⟨n.ga, n.la ++ [a], n.imm⟩ (.l (lnth st.Lc)) (.ref a) := by
  have le : n.Le ⟨n.ga, n.la ++ [a], n.imm⟩ := ⟨fun _ _ h => h, fun i b h => by
    show (n.la ++ [a])[i]? = some b
    rw [List.getElem?_append_left (List.getElem?_eq_some_iff.mp h).1]; exact h, fun p hp => hp⟩
  have RL' : Frs (RLo ⟨n.ga, n.la ++ [a], n.imm⟩) (n.la ++ [a]) (st.Lc ++ [some ds]) (ML ++ [(a, listOf ws.toArray q)]) := (RL.mono fun _ _ _ => RLo.mono le).snoc ⟨ws, q, rfl, hd, hz⟩
  refine ⟨le, ⟨g, m, MW, _, Am, F, news_sub N fun p hp => ?_, ?_, RW.mono fun _ _ _ => RO.mono le, RL', RV.mono le⟩, a, ?_, rfl⟩
  · simp only [List.mem_append, List.mem_cons, List.not_mem_nil, or_false] at hp ⊢
    rcases hp with h | (h | h) | h | h <;> simp [h]
  · have : (((a, listOf ws.toArray q) :: (MW ++ (ML ++ (n.imm ++ pins)))).map (·.1)).Nodup := by
      rw [List.map_cons, List.nodup_cons]
      refine ⟨fun h => ?_, ND⟩
      obtain ⟨p, hp, e⟩ := List.mem_map.mp h
      exact lt p hp e
    refine (List.Perm.nodup_iff (List.Perm.map _ ?_)).mp this
    show ((a, listOf ws.toArray q) :: (MW ++ (ML ++ (n.imm ++ pins)))).Perm (MW ++ ((ML ++ [(a, listOf ws.toArray q)]) ++ (n.imm ++ pins)))
    rw [List.append_assoc, List.singleton_append, ← List.append_assoc, ← List.append_assoc MW]
    exact List.perm_middle.symm
  · show (n.la ++ [a])[lnth st.Lc]? = some a
    rw [lnth_eq, ← RL.len]
    simp
end
end
noncomputable section
section
variable {n : Cn} {v : Value}
theorem BV.none (h : BV n (.d .none) v) : v = .none := by simpa only [BV, BD] using h
theorem BV.bool {b : Bool} (h : BV n (.d (.bool b)) v) : v = .bool b := by simpa only [BV, BD] using h
theorem BV.int {i : Int} (h : BV n (.d (.int i)) v) : ∃ t, v = .int i t := by simpa only [BV, BD] using h
theorem BV.str {s : Str} (h : BV n (.d (.str s)) v) : ∃ t, v = .str s t := by simpa only [BV, BD] using h
theorem BV.xs {i : Int} (h : BV n (.d (.xs i)) v) : (0 ≤ i ∧ i ≤ 4096) ∧ ∃ t, v = .bytes (xsB i.toNat).toArray t := by simpa only [BV, BD] using h
theorem BV.by_ {i : Int} (h : BV n (.d (.by_ i)) v) : ∃ b t, v = .bytes (List.toArray b) t ∧ (b.length : Int) = i ∧ i ≤ 4096 := by simpa only [BV, BD] using h
theorem BV.tup {l : List D} (h : BV n (.d (.tup l)) v) : ∃ a ws, v = .ref a ∧ (a, tupObj ws) ∈ n.imm ∧ BDs n.imm l ws := by simpa only [BV, BD] using h
theorem BV.none' : BV n (.d .none) .none := by simp only [BV, BD]
theorem BV.bool' {b : Bool} : BV n (.d (.bool b)) (.bool b) := by simp only [BV, BD]
theorem BV.int' {i : Int} {t : Tok} : BV n (.d (.int i)) (.int i t) := by simp only [BV, BD]; exact ⟨t, rfl⟩
theorem BV.str' {s : Str} {t : Tok} : BV n (.d (.str s)) (.str s t) := by simp only [BV, BD]; exact ⟨t, rfl⟩
theorem BV.xs' {i : Int} {t : Tok} (h0 : 0 ≤ i) (h1 : i ≤ 4096) : BV n (.d (.xs i)) (.bytes (xsB i.toNat).toArray t) := by simp only [BV, BD]; exact ⟨⟨h0, h1⟩, t, rfl⟩
theorem BV.by' {i : Int} {b : List UInt8} {t : Tok} (e : (b.length : Int) = i) (h1 : i ≤ 4096) : BV n (.d (.by_ i)) (.bytes b.toArray t) := by simp only [BV, BD]; exact ⟨b, t, rfl, e, h1⟩
theorem BV.tup' {l : List D} {a : Addr} {ws : List Value} (hm : (a, tupObj ws) ∈ n.imm) (h : BDs n.imm l ws) : BV n (.d (.tup l)) (.ref a) := by simp only [BV, BD]; exact ⟨a, ws, rfl, hm, h⟩
theorem BV.lst' {l : List D} {a : Addr} {ws : List Value} {q : Nat} (hm : (a, listOf ws.toArray q) ∈ n.imm) (h : BDs n.imm l ws) (hz : l.length ≤ 4096) : BV n (.d (.lst l)) (.ref a) := by simp only [BV, BD]; exact ⟨a, ws, q, rfl, hm, h, hz⟩
end
theorem mem4 {A B C E : Led} {p : Addr × Obj} : p ∈ A ++ (B ++ (C ++ E)) ↔ p ∈ A ∨ p ∈ B ∨ p ∈ C ∨ p ∈ E := by simp only [List.mem_append]
section
variable {c : Cx} {n : Cn} {st : St} {MW ML pins : Led}
theorem lstOf_mem (RW : Frs (RO c.w n) n.ga st.W MW) (RL : Frs (RLo n) n.la st.Lc ML) {x : V} {v : Value} {ds : List D} (hv : BV n x v) (e : lstOf st x = some ds) :
    ∃ a ws q, v = .ref a ∧ BDs n.imm ds ws ∧ ds.length ≤ 4096 ∧ (a, listOf (List.toArray ws) q) ∈ MW ++ (ML ++ (n.imm ++ pins)) := by
  cases x with
  | d x =>
    refine cps fun Zz zz => ?_
    cases dL_use e
    simp only [BV, BD] at hv
    obtain ⟨a, ws, q, rfl, hm, hb, hz⟩ := hv
    refine zz ?_
    exact ⟨a, ws, q, rfl, hb, hz, mem4.mpr (.inr (.inr (.inl hm)))⟩
  | l i =>
    refine cps fun Zz zz => ?_
    have e' := lL_use e
    rw [nth_eq] at e'
    obtain ⟨a, ha, rfl⟩ := hv
    refine RL.lensG e' fun b f pre post e1 e2 e3 _ => ?_
    rw [ha] at e1
    cases e1
    obtain ⟨ws, q, rfl, hb, hz⟩ := e2
    refine zz ?_
    exact ⟨a, ws, q, rfl, hb, hz, mem4.mpr (.inr (.inl (by rw [e3]; simp)))⟩
  | g i =>
    refine cps fun Zz zz => ?_
    have e' := gL_use e
    rw [nth_eq] at e'
    obtain ⟨a, ha, rfl⟩ := hv
    refine RW.lensG e' fun b f pre post e1 e2 e3 _ => ?_
    rw [ha] at e1
    cases e1
    obtain ⟨ws, q, rfl, hb, hz⟩ := e2
    refine zz ?_
    exact ⟨a, ws, q, rfl, hb, hz, mem4.mpr (.inl (by rw [e3]; simp))⟩
  | top => cases e
  | bi => cases e
  | exc => cases e
end
section
variable {c : Cx} {n : Cn} {st : St} {k : V → St → Prop} {ex : Bool → Int → St → Prop} {va vb : Value} {a b : V}
theorem lstOf_go (RW : Frs (RO c.w n) n.ga st.W MW) (RL : Frs (RLo n) n.la st.Lc ML) {x : V} {v : Value} {ds : List D} (hv : BV n x v) (e : lstOf st x = some ds) {Z : Prop} (kz : ∀ a ws q, v = .ref a → BDs n.imm ds ws → ds.length ≤ 4096 → (a, listOf (List.toArray ws) q) ∈ MW ++ (ML ++ (n.imm ++ pins)) → Z) : Z := by
  obtain ⟨a, ws, q, h1, h2, h3, h4⟩ := lstOf_mem (pins := pins) RW RL hv e
  exact kz a ws q h1 h2 h3 h4
theorem ite_max {x y : Int} : (if y > x then y else x) = max x y := by split <;> lia
theorem ite_min {x y : Int} : (if y < x then y else x) = min x y := by split <;> lia
theorem xs_app {x y : Int} (h0 : 0 ≤ x) (h1 : 0 ≤ y) : xsB x.toNat ++ xsB y.toNat = xsB (x + y).toNat := by
  rw [xsB, xsB, xsB, List.replicate_append_replicate, show x.toNat + y.toNat = (x + y).toNat by lia]
theorem addL_sound (h : addL a b st k) (ha : BV n a va) (hb : BV n b vb) : WP c BV (binaryOp .Add va vb) n st k ex := by
  refine cps fun Zz zz => ?_
  obtain ⟨xs, ea, h⟩ := oM_use h
  obtain ⟨ys, eb, hz, h⟩ := oM_use h
  refine zz ?_
  intro pins hp tk r
  refine cps fun Zz zz => ?_
  obtain ⟨g, m, MW, ML, Am, F, N, ND, RW, RL, RV⟩ := r
  refine lstOf_go (pins := pins) RW RL ha ea fun l1 ws1 q1 u9 b1 z1 m1 => ?_
  subst u9
  refine lstOf_go (pins := pins) RW RL hb eb fun l2 ws2 q2 u9 b2 z2 m2 => ?_
  subst u9
  have s1 := b1.len
  have s2 := b2.len
  refine zz ?_
  refine add_arrays F N (News.isList N m1) (News.isList N m2) (fun h' F' N' => ?_) (by simp only [List.size_toArray]; rw [sizeLine_eq]; lia)
  refine cps fun Zz zz => ?_
  obtain ⟨le, r', bv⟩ := Rel.newL (ds := xs ++ ys) (q := 0) (ws := ws1 ++ ws2) Am F' (by simpa using N') ND (fun p hp => Nat.ne_of_lt (Heap.lt_size (N p hp).1)) RW RL RV (BDs.app b2 b1) (by rw [List.length_append]; lia)
  refine zz ?_
  exact Out.done r' le bv h
theorem vcAdd_sound (h : vcAdd a b st k) (ha : BV n a va) (hb : BV n b vb) : WP c BV (binaryOp .Add va vb) n st k ex := by
  cases a with
  | d x =>
    cases x with
    | int x =>
      replace h := int1_use h
      obtain ⟨y, rfl, h⟩ := h
      obtain ⟨t, rfl⟩ := ha.int; obtain ⟨u, rfl⟩ := hb.int
      exact fun pins hp tk r => add_int (Out.done r .refl .int' h)
    | xs x =>
      replace h := dOf_use h
      obtain ⟨y, rfl, h⟩ := h
      cases y with
      | xs y =>
        obtain ⟨⟨x0, x1⟩, t, rfl⟩ := ha.xs; obtain ⟨⟨y0, y1⟩, u, rfl⟩ := hb.xs
        exact fun pins hp tk r => bytes_add_K (by simp only [List.size_toArray, List.length_replicate]; lia) (xs_app x0 y0) fun t' k' => Out.done r .refl (.xs' (by lia) h.1) h.2
      | by_ y =>
        obtain ⟨⟨x0, x1⟩, t, rfl⟩ := ha.xs; obtain ⟨b2, u, rfl, e2, z2⟩ := hb.by_
        exact fun pins hp tk r => bytes_add_K (by simp only [List.size_toArray, List.length_replicate]; lia) rfl fun t' k' => Out.done r .refl (.by' (by rw [List.length_append, List.length_replicate]; lia) h.1) h.2
      | _ => exact h.elim
    | by_ x =>
      replace h := dOf_use h
      obtain ⟨y, rfl, h⟩ := h
      replace h := yOf_use h
      obtain ⟨y, rfl, h⟩ := h
      obtain ⟨b1, t, rfl, e1, z1⟩ := ha.by_; obtain ⟨b2, u, rfl, e2, z2⟩ := hb.by_
      exact fun pins hp tk r => bytes_add_K (by simp only [List.size_toArray]; lia) rfl fun t' k' => Out.done r .refl (.by' (by rw [List.length_append]; lia) h.1) h.2
    | none => exact addL_sound (a := .d .none) (b := b) h ha hb
    | bool x => exact addL_sound (a := .d (.bool x)) (b := b) h ha hb
    | str x => exact addL_sound (a := .d (.str x)) (b := b) h ha hb
    | tup x => exact addL_sound (a := .d (.tup x)) (b := b) h ha hb
    | lst x => exact addL_sound (a := .d (.lst x)) (b := b) h ha hb
  | g x => exact addL_sound (a := .g x) (b := b) h ha hb
  | l x => exact addL_sound (a := .l x) (b := b) h ha hb
  | _ => exact h.elim
theorem vcMul_sound (h : vcMul a b st k) (ha : BV n a va) (hb : BV n b vb) : WP c BV (binaryOp .Mult va vb) n st k ex := by
  replace h := dOf_use h
  obtain ⟨x, rfl, h⟩ := h
  cases x with
  | int x =>
    replace h := int1_use h
    obtain ⟨y, rfl, ⟨h1, h2⟩, h⟩ := h
    obtain ⟨t, rfl⟩ := ha.int; obtain ⟨u, rfl⟩ := hb.int
    exact fun pins hp tk r => PyProof.Rows.mul_int (Out.done r .refl .int' h) (PySem.IntMulOk.of_right (PySem.intBits_le_64 (by lia) (by lia)))
  | xs x =>
    obtain ⟨y, rfl, ⟨rfl, h0, h1⟩, h2⟩ := int1_use h
    obtain ⟨⟨x0, x1⟩, t, rfl⟩ := ha.xs; obtain ⟨u, rfl⟩ := hb.int
    refine fun pins hp tk r => bytes_mul_any (b := [120]) (by simp) (by lia) (by lia) (by simp) fun t' k' => ?_
    have e : ∀ m : Nat, (List.replicate m ([120] : List UInt8)).flatten = xsB m := fun m => by
      induction m with
      | zero => rfl
      | succ m ih => rw [List.replicate_succ, List.flatten_cons, ih]; rfl
    rw [e]
    exact Out.done r .refl (.xs' h0 h1) h2
  | _ => exact h.elim
theorem vcBin_sound {op : Operator} (h : vcBin op a b st k) (ha : BV n a va) (hb : BV n b vb) : WP c BV (binaryOp op va vb) n st k ex := by
  cases op with
  | Add => exact vcAdd_sound h ha hb
  | Sub =>
    refine cps fun Zz zz => ?_
    replace h := int2_use h
    obtain ⟨x, y, rfl, rfl, h⟩ := h
    obtain ⟨t, rfl⟩ := ha.int; obtain ⟨u, rfl⟩ := hb.int
    refine zz ?_
    exact fun pins hp tk r => sub_int (Out.done r .refl .int' h)
  | Mult => exact vcMul_sound h ha hb
  | Mod =>
    refine cps fun Zz zz => ?_
    replace h := int2_use h
    obtain ⟨x, y, rfl, rfl, h0, h⟩ := h
    obtain ⟨t, rfl⟩ := ha.int; obtain ⟨u, rfl⟩ := hb.int
    refine zz ?_
    exact fun pins hp tk r => mod_int' (by omega) (Out.done r .refl .int' h)
  | FloorDiv =>
    refine cps fun Zz zz => ?_
    replace h := int2_use h
    obtain ⟨x, y, rfl, rfl, ⟨h1, h2⟩, h⟩ := h
    obtain ⟨t, rfl⟩ := ha.int; obtain ⟨u, rfl⟩ := hb.int
    refine zz ?_
    exact fun pins hp tk r => floordiv_int (by omega) (Out.done r .refl .int' h) (.inl (PyProof.noPylong_small (by omega)))
  | _ => exact h.elim
theorem Rel.imm_mem {pins : Led} {h : Heap} (r : Rel c pins n st h) {a : Addr} {o : Obj} (hm : (a, o) ∈ n.imm) : h.get? a = some o := by
  obtain ⟨g, m, MW, ML, Am, F, N, ND, RW, RL, RV⟩ := r
  exact (N _ (mem4.mpr (.inr (.inr (.inl hm))))).1
theorem isTup_of {h : Heap} {a : Addr} {ws : List Value} (e : h.get? a = some (tupObj ws)) : h.IsTuple a ws.toArray := ⟨_, e, rfl, 0, rfl⟩
theorem eqAt_bytes {A : Around} {s : Shared} {b d : Array UInt8} {t u : Tok} : SeqAt.EqAt A s (.bytes b t) (.bytes d u) (b.toList == d.toList) := fun prog w E Q hq => by
  unfold eqBool
  refine wpAny_holding ?_
  refine wpAny_ite_split (fun e => ?_) (fun _ => ?_)
  · have e' : b = d := by
      have := eq_of_beq e
      cases this; rfl
    subst e'
    rw [beq_self_eq_true] at hq
    exact wpAny_bind (wpAny_rule (wpAny_pure hq))
  · exact wpAny_bind (eq_bytes (wpAny_truthy_bool hq))
theorem xsB_eq {x y : Int} (h0 : 0 ≤ x) (h1 : 0 ≤ y) : ((xsB x.toNat).toArray.toList == (xsB y.toNat).toArray.toList) = decide (x = y) := by
  by_cases e : x = y
  · subst e; rw [beq_self_eq_true, decide_eq_true rfl]
  · rw [decide_eq_false e]
    refine beq_eq_false_iff_ne.mpr fun q => e ?_
    have := congrArg (fun l => l.length) q
    simp only [List.length_replicate] at this
    lia
theorem un_lt (c : Cx) : c.un + 200 < cLine := by have := c.hun; lia
theorem twoL_use {α : Type} {l : List α} {p : α × α} (h : twoL l = some p) : l = [p.1, p.2] := by
  cases l with
  | nil => cases h
  | cons x r => cases r with
    | nil => cases h
    | cons y q => cases q with
      | nil => cases (show some _ = some _ from h); rfl
      | cons => cases h
theorem pXB_use {l : List D} {p : Int × Bool} (h : pXB l = some p) : l = [.xs p.1, .bool p.2] := by
  unfold pXB at h
  cases e : twoL l with
  | none => rw [e] at h; cases h
  | some q =>
    rw [e] at h
    obtain ⟨x, y⟩ := q
    cases x <;> first | cases h | skip
    cases y <;> first | cases h | skip
    exact twoL_use e
theorem pII_use {l : List D} {p : Int × Int} (h : pII l = some p) : l = [.int p.1, .int p.2] := by
  unfold pII at h
  cases e : twoL l with
  | none => rw [e] at h; cases h
  | some q =>
    rw [e] at h
    obtain ⟨x, y⟩ := q
    cases x <;> first | cases h | skip
    cases y <;> first | cases h | skip
    exact twoL_use e
theorem iiOf {l : List D} {p : Int × Int} {r : D} (e : l = [.int p.1, .int p.2]) (ha : BV n (.d (.tup l)) va) : ∃ a t1 t2, va = .ref a ∧ (a, tupObj [.int p.1 t1, .int p.2 t2]) ∈ n.imm := by
  refine cps fun Zz zz => ?_
  subst e
  obtain ⟨a1, ws1, rfl, m1, b1⟩ := ha.tup
  obtain ⟨v1, q1, rfl, p1, b1⟩ := b1.cons_inv
  obtain ⟨v2, q2, rfl, p2, b1⟩ := b1.cons_inv
  refine zz ?_
  cases b1.nil_inv
  refine cps fun Zz zz => ?_
  obtain ⟨t1, rfl⟩ := BV.int (n := n) (by simpa only [BV] using p1)
  obtain ⟨t2, rfl⟩ := BV.int (n := n) (by simpa only [BV] using p2)
  refine zz ?_
  exact ⟨a1, t1, t2, rfl, m1⟩
theorem xbOf {l : List D} {p : Int × Bool} (e : l = [.xs p.1, .bool p.2]) (ha : BV n (.d (.tup l)) va) : ∃ a t1, va = .ref a ∧ (a, tupObj [.bytes (xsB p.1.toNat).toArray t1, .bool p.2]) ∈ n.imm ∧ 0 ≤ p.1 := by
  refine cps fun Zz zz => ?_
  subst e
  obtain ⟨a1, ws1, rfl, m1, b1⟩ := ha.tup
  obtain ⟨v1, q1, rfl, p1, b1⟩ := b1.cons_inv
  obtain ⟨v2, q2, rfl, p2, b1⟩ := b1.cons_inv
  refine zz ?_
  cases b1.nil_inv
  refine cps fun Zz zz => ?_
  obtain ⟨⟨x0, x1⟩, t, rfl⟩ := BV.xs (n := n) (by simpa only [BV] using p1)
  refine zz ?_
  cases BV.bool (n := n) (by simpa only [BV] using p2)
  exact ⟨a1, t, rfl, m1, x0⟩
theorem eqII_sound {l r : List D} {z : Bool} (e : eqII l r = some z) (ha : BV n (.d (.tup l)) va) (hb : BV n (.d (.tup r)) vb) (h : k (.d (.bool z)) st) : WP c BV (compareOp .Eq va vb) n st k ex := by
  have hu := un_lt c
  unfold eqII at e
  cases e1 : pII l with
  | none => rw [e1] at e; cases e
  | some p =>
    cases e2 : pII r with
    | none => rw [e1, e2] at e; cases e
    | some q =>
      refine cps fun Zz zz => ?_
      rw [e1, e2] at e
      cases e
      obtain ⟨a1, t1, t2, rfl, m1⟩ := iiOf (r := .none) (pII_use e1) ha
      obtain ⟨a2, t3, t4, rfl, m2⟩ := iiOf (r := .none) (pII_use e2) hb
      refine zz ?_
      refine fun pins hp tk r => PyProof.Rows.eq_dataH (reads_tuple_at (r.imm_mem m1) rfl rfl (ReadsAll.cons (Reads.int _ t1) (ReadsAll.cons (Reads.int _ t2) .nil))) (reads_tuple_at (r.imm_mem m2) rfl rfl (ReadsAll.cons (Reads.int _ t3) (ReadsAll.cons (Reads.int _ t4) .nil))) rfl rfl (by show c.un + 64 < cLine; lia) ?_
      refine Out.done r .refl (b := .d (.bool _)) ?_ h
      simp [BV, BD, PyData.eqv, PyData.eqvAll]
      rfl
theorem neII_sound {l r : List D} {z : Bool} (e : eqII l r = some z) (ha : BV n (.d (.tup l)) va) (hb : BV n (.d (.tup r)) vb) (h : k (.d (.bool (!z))) st) : WP c BV (compareOp .NotEq va vb) n st k ex := by
  have hu := un_lt c
  unfold eqII at e
  cases e1 : pII l with
  | none => rw [e1] at e; cases e
  | some p =>
    cases e2 : pII r with
    | none => rw [e1, e2] at e; cases e
    | some q =>
      rw [e1, e2] at e
      cases e
      obtain ⟨a1, t1, t2, rfl, m1⟩ := iiOf (r := .none) (pII_use e1) ha
      obtain ⟨a2, t3, t4, rfl, m2⟩ := iiOf (r := .none) (pII_use e2) hb
      refine fun pins hp tk r => PyProof.Rows.ne_dataH (reads_tuple_at (r.imm_mem m1) rfl rfl (ReadsAll.cons (Reads.int _ t1) (ReadsAll.cons (Reads.int _ t2) .nil))) (reads_tuple_at (r.imm_mem m2) rfl rfl (ReadsAll.cons (Reads.int _ t3) (ReadsAll.cons (Reads.int _ t4) .nil))) rfl rfl (by show c.un + 64 < cLine; omega) ?_
      refine Out.done r .refl (b := .d (.bool _)) ?_ h
      simp [BV, BD, PyData.eqv, PyData.eqvAll]
      rfl
theorem eqXB_sound {l r : List D} {z : Bool} (e : eqXB l r = some z) (ha : BV n (.d (.tup l)) va) (hb : BV n (.d (.tup r)) vb) (h : k (.d (.bool z)) st) : WP c BV (compareOp .Eq va vb) n st k ex := by
  have hu := un_lt c
  unfold eqXB at e
  cases e1 : pXB l with
  | none => rw [e1] at e; cases e
  | some p =>
    cases e2 : pXB r with
    | none => rw [e1, e2] at e; cases e
    | some q =>
      rw [e1, e2] at e
      cases e
      obtain ⟨a1, t1, rfl, m1, x0⟩ := xbOf (pXB_use e1) ha
      obtain ⟨a2, t2, rfl, m2, y0⟩ := xbOf (pXB_use e2) hb
      refine fun pins hp tk r => SeqAt.eq_tupleAt (e := fun j => match j with | 0 => decide (p.1 = q.1) | _ => p.2 == q.2) (isTup_of (r.imm_mem m1)) (isTup_of (r.imm_mem m2)) (by show c.un < cLine; lia) (fun j h1 h2 => ?_) ?_
      · match j, h1, h2 with
        | 0, _, _ => exact xsB_eq x0 y0 ▸ eqAt_bytes
        | 1, _, _ => exact SeqAt.EqAt.bool_bool _ _
      · refine Out.done r .refl (b := .d (.bool _)) ?_ h
        show BV n _ (.bool ((List.range 2).all _ && true))
        rw [show ((List.range 2).all (fun j => match j with | 0 => decide (p.1 = q.1) | _ => p.2 == q.2) && true) = (decide (p.1 = q.1) && (p.2 == q.2)) by simp [List.range_succ]]
        exact .bool'
theorem eqD_sound {x y : D} {r : Bool} (e : eqD x y = some r) (ha : BV n (.d x) va) (hb : BV n (.d y) vb) (h : k (.d (.bool r)) st) : WP c BV (compareOp .Eq va vb) n st k ex := by
  have hu := un_lt c
  cases x with
  | none =>
    cases ha.none
    cases y <;> first | cases e | skip
    · cases hb.none
      exact fun pins hp tk r => SeqAt.RcAt.none_none _ _ _ _ (Out.done r .refl .bool' h)
    · obtain ⟨u, rfl⟩ := hb.int
      exact fun pins hp tk r => SeqAt.RcAt.none_int _ _ _ _ _ _ (Out.done r .refl .bool' h)
    · obtain ⟨b, ws, rfl, hm, _⟩ := hb.tup
      exact fun pins hp tk r => SeqAt.RcAt.none_tuple (isTup_of (r.imm_mem hm)) (by show c.un < cLine; lia) _ _ _ _ (Out.done r .refl .bool' h)
  | bool x =>
    cases y <;> first | cases e | skip
    cases ha.bool; cases hb.bool
    exact fun pins hp tk r => eq_bool (Out.done r .refl .bool' h)
  | int x =>
    obtain ⟨t, rfl⟩ := ha.int
    cases y <;> first | cases e | skip
    · cases hb.none
      exact fun pins hp tk r => SeqAt.RcAt.int_none _ _ _ _ _ _ (Out.done r .refl .bool' h)
    · obtain ⟨u, rfl⟩ := hb.int
      exact fun pins hp tk r => eq_int (Out.done r .refl .bool' h)
  | str x =>
    cases y <;> first | cases e | skip
    obtain ⟨t, rfl⟩ := ha.str; obtain ⟨u, rfl⟩ := hb.str
    exact fun pins hp tk r => eq_str (Out.done r .refl .bool' h)
  | tup x =>
    cases y <;> first | cases e | skip
    · obtain ⟨b, ws, rfl, hm, _⟩ := ha.tup; cases hb.none
      exact fun pins hp tk r => SeqAt.RcAt.tuple_none (isTup_of (r.imm_mem hm)) (by show c.un < cLine; lia) _ _ _ _ (Out.done r .refl .bool' h)
    · rename_i y
      have e : oElse (eqXB x y) (eqII x y) = some r := e
      cases e1 : eqXB x y with
      | none => rw [e1] at e; exact eqII_sound e ha hb h
      | some z => rw [e1] at e; cases e; exact eqXB_sound e1 ha hb h
  | _ => cases e
theorem neD_sound {x y : D} {r : Bool} (e : neD x y = some r) (ha : BV n (.d x) va) (hb : BV n (.d y) vb) (h : k (.d (.bool (!r))) st) : WP c BV (compareOp .NotEq va vb) n st k ex := by
  cases x with
  | bool x =>
    cases y <;> first | cases e | skip
    cases ha.bool; cases hb.bool
    exact fun pins hp tk r => ne_bool (Out.done r .refl .bool' h)
  | int x =>
    cases y <;> first | cases e | skip
    obtain ⟨t, rfl⟩ := ha.int; obtain ⟨u, rfl⟩ := hb.int
    exact fun pins hp tk r => ne_int (Out.done r .refl .bool' h)
  | str x =>
    cases y <;> first | cases e | skip
    obtain ⟨t, rfl⟩ := ha.str; obtain ⟨u, rfl⟩ := hb.str
    exact fun pins hp tk r => ne_str (Out.done r .refl .bool' h)
  | tup x =>
    cases y <;> first | cases e | skip
    exact neII_sound e ha hb h
  | _ => cases e
theorem nil_eq {x : V} {j : Nat} {xs : List D} (e1 : lstOf st x = some xs) (e2 : lstOf st (.l j) = some []) (ha : BV n x va) (hb : BV n (.l j) vb) (h : k (.d (.bool (isNil xs))) st) : WP c BV (compareOp .Eq va vb) n st k ex := by
  have hu := un_lt c
  intro pins hp tk r
  refine cps fun Zz zz => ?_
  have r0 := r
  obtain ⟨g, m, MW, ML, Am, F, N, ND, RW, RL, RV⟩ := r
  refine lstOf_go (pins := pins) RW RL ha e1 fun l1 ws1 q1 u9 b1 z1 m1 => ?_
  subst u9
  refine lstOf_go (pins := pins) RW RL hb e2 fun l2 ws2 q2 u9 b2 z2 m2 => ?_
  subst u9
  refine zz ?_
  cases b2.nil_inv
  cases xs with
  | nil =>
    cases b1.nil_inv
    exact ke_eq_ints (xs := []) (ys := []) (ns := []) (ms := []) (News.isList N m1) (News.isList N m2) .nil .nil (by show c.un + 64 < cLine; lia) (Out.done r0 .refl .bool' h)
  | cons x xs =>
    refine cps fun Zz zz => ?_
    obtain ⟨v, q, rfl, _, _⟩ := b1.cons_inv
    refine zz ?_
    exact SeqAt.eq_list_lengthsAt (News.isList N m1) (News.isList N m2) (by simp) (by show c.un < cLine; lia) (Out.done r0 .refl .bool' h)
theorem nil_ne {x : V} {j : Nat} {xs : List D} (e1 : lstOf st x = some xs) (e2 : lstOf st (.l j) = some []) (ha : BV n x va) (hb : BV n (.l j) vb) (h : k (.d (.bool (!isNil xs))) st) : WP c BV (compareOp .NotEq va vb) n st k ex := by
  have hu := un_lt c
  intro pins hp tk r
  refine cps fun Zz zz => ?_
  have r0 := r
  obtain ⟨g, m, MW, ML, Am, F, N, ND, RW, RL, RV⟩ := r
  refine lstOf_go (pins := pins) RW RL ha e1 fun l1 ws1 q1 u9 b1 z1 m1 => ?_
  subst u9
  refine lstOf_go (pins := pins) RW RL hb e2 fun l2 ws2 q2 u9 b2 z2 m2 => ?_
  subst u9
  refine zz ?_
  cases b2.nil_inv
  cases xs with
  | nil =>
    cases b1.nil_inv
    exact ke_ne_ints (xs := []) (ys := []) (ns := []) (ms := []) (News.isList N m1) (News.isList N m2) .nil .nil (by show c.un + 64 < cLine; omega) (Out.done r0 .refl .bool' h)
  | cons x xs =>
    refine cps fun Zz zz => ?_
    obtain ⟨v, q, rfl, _, _⟩ := b1.cons_inv
    refine zz ?_
    exact (SeqAt.RcNeAt.lists_lengths (News.isList N m1) (News.isList N m2) (by simp) (by show c.un < cLine; omega)) _ _ _ _ (Out.done r0 .refl .bool' h)
theorem strsOf_sound {I : Led} : ∀ {l : List D} {ws : List Value} {ys : List Str}, strsOf l = some ys → BDs I l ws → StrsAre ws ys
  | [], _, _, e, h => by cases e; cases h.nil_inv; exact .nil
  | d :: r, _, _, e, h => by
    obtain ⟨v, q, rfl, a, b⟩ := h.cons_inv
    have e : (match d, strsOf r with | .str s, some l => some (s :: l) | _, _ => none) = some _ := e
    cases d <;> first | cases e | skip
    simp only [BD] at a
    obtain ⟨t, rfl⟩ := a
    cases q : strsOf r with
    | none => rw [q] at e; cases e
    | some l => rw [q] at e; cases e; exact .cons _ _ (strsOf_sound q b)
theorem open_at (w : World) : (heapK w.params).lookup 180 = some (tupObj [.str (Str.ofString "ready") 465, .str (Str.ofString "send") 467]) := by kernel_rfl
theorem open_strs {t u : Tok} : StrsAre [.str (Str.ofString "ready") t, .str (Str.ofString "send") u] [Str.ofString "ready", Str.ofString "send"] := .cons _ _ (.cons _ _ .nil)
theorem Rel.open_tup {pins : Led} {h : Heap} (r : Rel c pins n st h) : h.IsTuple 180 [.str (Str.ofString "ready") 465, .str (Str.ofString "send") 467].toArray := by
  obtain ⟨g, m, MW, ML, Am, F, N, ND, RW, RL, RV⟩ := r
  exact ⟨_, F.keep _ _ (Am.X _ _ (open_at c.w)), rfl, 0, rfl⟩
theorem some_in {x : Int} : ∀ {kvs : List (Int × Value)}, (valueAt kvs x).isSome = decide (x ∈ kvs.map (·.1))
  | [] => by simp [valueAt]
  | (y, v) :: r => by
    have ih := some_in (x := x) (kvs := r)
    unfold valueAt at ih ⊢
    by_cases e : y = x
    · subst e; simp
    · rw [List.find?_cons_of_neg (by simpa using e), ih]
      simp [Ne.symm e]
theorem vcIn_go {P : Bool → St → Prop} {T : Value → Value → Prop} (h : vcIn a b st P) (ha : BV n a va) (hb : BV n b vb)
    (k1 : ∀ s t a1 ys, P (ys.any (· == s)) st → (∀ (pins : Led) (hp : Heap), Rel c pins n st hp → ∃ ws : List Value, hp.IsTuple a1 ws.toArray ∧ StrsAre ws ys) → T (.str s t) (.ref a1))
    (k2 : ∀ x t a1 ks, P (decide (x ∈ ks)) st → (∀ (pins : Led) (hp : Heap) (Z : Prop), Rel c pins n st hp → (∀ g m l o kvs, News g c.L hp l → (a1, o) ∈ l → (a1 == sysModules) = false → o.IsDictOf (PySem.intKind thePg c.w) kvs → kvs.map (·.1) = ks → Fr g c.L hp m → Z) → Z) → T (.int x t) (.ref a1)) : T va vb := by
  obtain ⟨x, rfl, h1⟩ := dOf_use h
  clear h
  cases b with
  | d y =>
    obtain ⟨s, rfl, h2⟩ := sOf_use h1
    obtain ⟨l, rfl, h3⟩ := tOf_use h2
    obtain ⟨ys, e, h4⟩ := oM_use h3
    clear h3 h2 h1
    obtain ⟨t, rfl⟩ := ha.str
    obtain ⟨a1, ws1, rfl, m1, b1⟩ := hb.tup
    exact k1 s t a1 ys h4 fun _ _ r => ⟨ws1, isTup_of (r.imm_mem m1), strsOf_sound e b1⟩
  | top q =>
    obtain ⟨e, h2⟩ := orB_use (show orB (Nat.beq q 180) (sOf x fun s => P ([Str.ofString "ready", Str.ofString "send"].any (· == s)) st) False from h1)
    obtain ⟨s, rfl, h3⟩ := sOf_use h2
    clear h2 h1
    cases Nat.eq_of_beq_eq_true e
    obtain ⟨t, rfl⟩ := ha.str
    cases (show vb = .ref 180 from hb)
    exact k1 s t 180 _ h3 fun _ _ r => ⟨_, r.open_tup, open_strs⟩
  | g i =>
    obtain ⟨x, rfl, h2⟩ := iOf_use h1
    obtain ⟨o, e, h3⟩ := oM_use h2
    obtain ⟨ks, rfl, h4⟩ := isOn_use h3
    clear h3 h2 h1
    rw [nth_eq] at e
    obtain ⟨t, rfl⟩ := ha.int
    obtain ⟨a1, ga, rfl⟩ := hb
    refine k2 x t a1 ks h4 fun _ _ Z r kz => ?_
    obtain ⟨g, m, MW, ML, Am, F, N, ND, RW, RL, RV⟩ := r
    refine RW.lensG e fun b1 f pre post e1 e2 e3 _ => ?_
    rw [ga] at e1
    cases e1
    obtain ⟨o, kvs, rfl, lo, hd, hk⟩ := e2
    exact kz g m _ o kvs N (mem4.mpr (.inl (by rw [e3]; simp))) lo hd hk F
  | _ => exact h1.elim
theorem vcIn_sound (h : vcIn a b st fun r st => k (.d (.bool r)) st) (ha : BV n a va) (hb : BV n b vb) : WP c BV (compareOp .In va vb) n st k ex := by
  refine vcIn_go (c := c) (T := fun va vb => WP c BV (compareOp .In va vb) n st k ex) h ha hb (fun s t a1 ys h H pins hp tk r => ?_) fun x t a1 ks h H pins hp tk r => H _ _ _ r fun g m l o kvs N hm lo hd e F => ?_
  · obtain ⟨ws, h1, h2⟩ := H _ _ r
    exact in_tuple_strs h1 h2 (Out.done r .refl .bool' h)
  · refine kda_in N hm hd lo (intKind_is _ _ _ _) _ rfl ?_
    rw [some_in, e]
    exact Out.done r .refl .bool' h
theorem vcIn_sound' (h : vcIn a b st fun r st => k (.d (.bool (!r))) st) (ha : BV n a va) (hb : BV n b vb) : WP c BV (compareOp .NotIn va vb) n st k ex := by
  refine vcIn_go (c := c) (T := fun va vb => WP c BV (compareOp .NotIn va vb) n st k ex) h ha hb (fun s t a1 ys h H pins hp tk r => ?_) fun x t a1 ks h H pins hp tk r => H _ _ _ r fun g m l o kvs N hm lo hd e F => ?_
  · obtain ⟨ws, h1, h2⟩ := H _ _ r
    exact notin_tuple_strs h1 h2 (Out.done r .refl .bool' h)
  · refine wpAny_notIn_of (intKind_is _ _ _ _) lo (kda_dict N hm hd).mapOf ?_
    rw [some_in, e]
    exact Out.done r .refl .bool' h
theorem isNone_val {x : D} (ha : BV n (.d x) va) : (va == Value.none) = isNoneD x := by
  cases x <;> simp only [BV, BD] at ha
  case none => subst ha; rfl
  case bool => subst ha; rfl
  case int => obtain ⟨t, rfl⟩ := ha; rfl
  case str => obtain ⟨t, rfl⟩ := ha; rfl
  case xs => obtain ⟨_, t, rfl⟩ := ha; rfl
  case by_ => obtain ⟨b, t, rfl, _⟩ := ha; rfl
  case tup => obtain ⟨a, ws, rfl, _⟩ := ha; rfl
  case lst => obtain ⟨a, ws, q, rfl, _⟩ := ha; rfl
theorem vcEq_sound {eq : D → D → Option Bool} {op : CmpOp} {f : Bool → Bool} (h : vcEq eq a b st fun r st => k (.d (.bool (f r))) st) (ha : BV n a va) (hb : BV n b vb)
    (h1 : ∀ {x y : D} {r : Bool}, eq x y = some r → BV n (.d x) va → BV n (.d y) vb → k (.d (.bool (f r))) st → WP c BV (compareOp op va vb) n st k ex)
    (h2 : ∀ {x : V} {j : Nat} {xs : List D}, lstOf st x = some xs → lstOf st (.l j) = some [] → BV n x va → BV n (.l j) vb → k (.d (.bool (f (isNil xs)))) st → WP c BV (compareOp op va vb) n st k ex) : WP c BV (compareOp op va vb) n st k ex := by
  cases b with
  | d y =>
    refine cps fun Zz zz => ?_
    obtain ⟨x, rfl, h⟩ := dOf_use h
    obtain ⟨r, e, h⟩ := oM_use h
    refine zz ?_
    exact h1 e ha hb h
  | l j =>
    refine cps fun Zz zz => ?_
    have h : eqNil a j st fun r st => k (.d (.bool (f r))) st := h
    obtain ⟨xs, e1, h⟩ := oM_use h
    obtain ⟨ys, e2, h⟩ := oM_use h
    obtain ⟨rfl, h⟩ := nil1_use h
    refine zz ?_
    exact h2 e1 e2 ha hb h
  | _ => exact h.elim
theorem noneD {x : D} (h : isNoneD x = true) : x = .none := by cases x <;> first | rfl | cases h
theorem vcCmp_sound {op : CmpOp} (h : vcCmp op a b st k) (ha : BV n a va) (hb : BV n b vb) : WP c BV (compareOp op va vb) n st k ex := by
  cases op with
  | Lt =>
    refine cps fun Zz zz => ?_
    replace h := int2_use h
    obtain ⟨x, y, rfl, rfl, h⟩ := h
    obtain ⟨t, rfl⟩ := ha.int; obtain ⟨u, rfl⟩ := hb.int
    refine zz ?_
    exact fun pins hp tk r => lt_int (Out.done r .refl .bool' h)
  | LtE =>
    refine cps fun Zz zz => ?_
    replace h := int2_use h
    obtain ⟨x, y, rfl, rfl, h⟩ := h
    obtain ⟨t, rfl⟩ := ha.int; obtain ⟨u, rfl⟩ := hb.int
    refine zz ?_
    exact fun pins hp tk r => le_int (Out.done r .refl .bool' h)
  | Gt =>
    refine cps fun Zz zz => ?_
    replace h := int2_use h
    obtain ⟨x, y, rfl, rfl, h⟩ := h
    obtain ⟨t, rfl⟩ := ha.int; obtain ⟨u, rfl⟩ := hb.int
    refine zz ?_
    exact fun pins hp tk r => gt_int (Out.done r .refl .bool' h)
  | GtE =>
    refine cps fun Zz zz => ?_
    replace h := int2_use h
    obtain ⟨x, y, rfl, rfl, h⟩ := h
    obtain ⟨t, rfl⟩ := ha.int; obtain ⟨u, rfl⟩ := hb.int
    refine zz ?_
    exact fun pins hp tk r => ge_int (Out.done r .refl .bool' h)
  | Is =>
    refine cps fun Zz zz => ?_
    replace h := dOf_use h
    obtain ⟨x, rfl, h⟩ := h
    replace h := dOf_use h
    obtain ⟨y, rfl, h⟩ := h
    obtain ⟨e, h⟩ := orB_use h
    cases noneD e
    refine zz ?_
    cases hb.none
    exact fun pins hp tk r => is_none_gen (by rw [isNone_val ha]; exact Out.done r .refl .bool' h)
  | IsNot =>
    refine cps fun Zz zz => ?_
    replace h := dOf_use h
    obtain ⟨x, rfl, h⟩ := h
    replace h := dOf_use h
    obtain ⟨y, rfl, h⟩ := h
    obtain ⟨e, h⟩ := orB_use h
    cases noneD e
    refine zz ?_
    cases hb.none
    exact fun pins hp tk r => isnot_none_gen (by rw [isNone_val ha]; exact Out.done r .refl .bool' h)
  | Eq => exact vcEq_sound (f := id) h ha hb eqD_sound nil_eq
  | NotEq => exact vcEq_sound h ha hb neD_sound nil_ne
  | In => exact vcIn_sound h ha hb
  | NotIn => exact vcIn_sound' h ha hb
end
end
noncomputable section
theorem repK_len {α : Type} {x : Str} {y : α} : ∀ {l : List (Str × α)}, (repK x y l).length = l.length
  | [] => rfl
  | p :: r => by
    unfold repK
    split
    · rfl
    · simp [repK_len (l := r)]
theorem upd_mid {d : Addr} {o o' : Obj} {B : Led} : ∀ {A : Led}, ((A ++ (d, o) :: B).map (·.1)).Nodup → Upd d o o' (A ++ (d, o) :: B) (A ++ (d, o') :: B)
  | [], h => .head fun p hp e => by
    rw [List.nil_append, List.map_cons, List.nodup_cons] at h
    exact h.1 (List.mem_map.mpr ⟨p, hp, e⟩)
  | q :: A, h => by
    rw [List.cons_append, List.map_cons, List.nodup_cons] at h
    refine .tail (fun e => h.1 (List.mem_map.mpr ⟨(d, o), by simp, e.symm⟩)) (upd_mid h.2)
theorem nd_mid {d : Addr} {o o' : Obj} {A B : Led} (h : ((A ++ (d, o) :: B).map (·.1)).Nodup) : ((A ++ (d, o') :: B).map (·.1)).Nodup := by
  simpa only [List.map_append, List.map_cons] using h
theorem updF_mid {d : Addr} {o : Obj} {B : Led} : ∀ {A : Led}, ((A ++ (d, o) :: B).map (·.1)).Nodup → UpdF d o (A ++ (d, o) :: B) (fun o' => A ++ (d, o') :: B)
  | [], h => .head fun p hp e => by
    rw [List.nil_append, List.map_cons, List.nodup_cons] at h
    exact h.1 (List.mem_map.mpr ⟨p, hp, e⟩)
  | q :: A, h => by
    rw [List.cons_append, List.map_cons, List.nodup_cons] at h
    exact .tail (fun e => h.1 (List.mem_map.mpr ⟨(d, o), by simp, e.symm⟩)) (updF_mid h.2)
section
variable {P : Params} {I : Led} {C : Addr}
theorem key_no {x y : Str} {t : Tok} (s : seq x y = false) : ¬ (Value.str y t).isStr x = true := fun q => by
  simp only [Value.isStr] at q
  rw [seq_eq, eq_of_beq q, beq_self_eq_true] at s
  cases s
theorem key_yes {x : Str} {t : Tok} : (Value.str x t).isStr x = true := by simp [Value.isStr]
theorem lk_yes {α : Type} {x : Str} {p : Str × α} {r : List (Str × α)} (s : seq x p.1 = true) : lk x (p :: r) = some p.2 := by unfold lk; rw [s]
theorem lk_no {α : Type} {x : Str} {p : Str × α} {r : List (Str × α)} (s : seq x p.1 = false) : lk x (p :: r) = lk x r := by rw [lk, s]
theorem EsOk.get {x : Str} {fs : List (Str × D)} : ∀ {es : List DictEntry} {d : D}, EsOk P I C fs es → lk x fs = some d → okA (heapK P) C x = true ∧ ∃ v, (∃ en, es.find? (·.key.isStr x) = some en ∧ en.val = v) ∧ BD I d v := by
  induction fs with
  | nil => intro _ _ _ e; cases e
  | cons p r ih =>
    intro es d h e
    obtain ⟨t, v, q, rfl, a, b, h⟩ := h
    cases s : seq x p.1 with
    | true =>
      rw [lk_yes s] at e
      cases e
      rw [seq_iff.mp s]
      exact ⟨b, v, ⟨_, List.find?_cons_of_pos (p := fun e : DictEntry => e.key.isStr p.1) key_yes, rfl⟩, a⟩
    | false =>
      rw [lk_no s] at e
      rw [List.find?_cons_of_neg (p := fun e : DictEntry => e.key.isStr x) (key_no s)]
      exact ih h e
theorem getL_at {x : Str} {es : List DictEntry} {v : Value} (h : ∃ en, es.find? (·.key.isStr x) = some en ∧ en.val = v) : getL x es = some (some v) := by
  obtain ⟨en, h, rfl⟩ := h
  unfold getL
  rw [h]
theorem EsOk.noRef {fs : List (Str × D)} : ∀ {es : List DictEntry}, EsOk P I C fs es → es.any (·.refKey) = false := by
  induction fs with
  | nil => intro _ h; rw [show _ = _ from h]; rfl
  | cons p r ih =>
    intro es h
    obtain ⟨t, v, q, rfl, a, b, h⟩ := h
    rw [List.any_cons, ih h]; rfl
theorem EsOk.find {x : Str} {fs : List (Str × D)} : ∀ {es : List DictEntry}, EsOk P I C fs es → lk x fs = none → es.find? (·.key.isStr x) = none := by
  induction fs with
  | nil => intro _ h _; rw [show _ = _ from h]; rfl
  | cons p r ih =>
    intro es h e
    obtain ⟨t, v, q, rfl, a, b, h⟩ := h
    cases s : seq x p.1 with
    | true => rw [lk_yes s] at e; cases e
    | false => rw [List.find?_cons_of_neg (p := fun e : DictEntry => e.key.isStr x) (key_no s)]; exact ih h ((lk_no s).symm.trans e)
theorem EsOk.miss {x : Str} {fs : List (Str × D)} {es : List DictEntry} (h : EsOk P I C fs es) (e : lk x fs = none) : getL x es = some none := by
  unfold getL
  rw [h.find e, if_neg (by rw [h.noRef]; decide)]
theorem EsOk.len {fs : List (Str × D)} : ∀ {es : List DictEntry}, EsOk P I C fs es → es.length = fs.length := by
  induction fs with
  | nil => intro _ h; rw [show _ = _ from h]; rfl
  | cons p r ih =>
    intro es h
    obtain ⟨t, v, q, rfl, a, b, h⟩ := h
    exact congrArg (· + 1) (ih h)
theorem EsOk.put {x : Str} {hs : Int} {kv v : Value} {d : D} (hv : BD I d v) {fs : List (Str × D)} : ∀ {es : List DictEntry} {d0 : D}, EsOk P I C fs es → lk x fs = some d0 → EsOk P I C (repK x d fs) (putL x hs kv v es) := by
  induction fs with
  | nil => intro _ _ _ e; cases e
  | cons p r ih =>
    intro es d0 h e
    obtain ⟨t, v0, q, rfl, a, b, h⟩ := h
    cases s : seq x p.1 with
    | true =>
      cases seq_iff.mp s
      rw [repK, s]
      refine ⟨t, v, q, ?_, hv, b, h⟩
      rw [putL, if_pos key_yes]
    | false =>
      rw [repK, s]
      refine ⟨t, v0, putL x hs kv v q, ?_, a, b, ih h ((lk_no s).symm.trans e)⟩
      rw [putL, if_neg (key_no s)]
theorem EsOk.add {x : Str} {t : Tok} {v : Value} {d : D} (hv : BD I d v) (ho : okA (heapK P) C x = true) {fs : List (Str × D)} : ∀ {es : List DictEntry}, EsOk P I C fs es → lk x fs = none → EsOk P I C (fs ++ [(x, d)]) (putL x (PyData.keyHash P x) (.str x t) v es) := by
  induction fs with
  | nil => intro _ h _; rw [show _ = _ from h]; exact ⟨t, v, [], rfl, hv, ho, rfl⟩
  | cons p r ih =>
    intro es h e
    obtain ⟨t0, v0, q, rfl, a, b, h⟩ := h
    cases s : seq x p.1 with
    | true => rw [lk_yes s] at e; cases e
    | false => exact ⟨t0, v0, putL x (PyData.keyHash P x) (.str x t) v q, if_neg (key_no s), a, b, ih h ((lk_no s).symm.trans e)⟩
end
theorem okA_use {K : Frag} {C : Addr} {x : Str} (h : okA K C x = true) : plainGet K C x = true ∧ (∃ a, findIn K (.ref C) x = some a ∧ noGet K a = true) ∧ takerIn K C x = some none := by
  unfold okA at h
  simp only [Bool.and_eq_true] at h
  obtain ⟨⟨h1, h2⟩, h3⟩ := h
  refine ⟨h1, ?_, eq_of_beq h3⟩
  split at h2
  · exact ⟨_, by assumption, h2⟩
  · cases h2
theorem okC_use {K : Frag} {C : Addr} (h : okC K C = true) : hasDictIn K C = true ∧ plainOver K C = true ∧ findIn K (.ref C) (Str.ofString "__setattr__") = some (some (.builtin "object.__setattr__")) := by
  unfold okC at h
  simp only [Bool.and_eq_true] at h
  exact ⟨h.1, h.2.1, eq_of_beq h.2.2⟩
section
variable {c : Cx} {n : Cn} {st : St} {k : V → St → Prop} {ku : Unit → St → Prop} {ex : Bool → Int → St → Prop} {va vb : Value} {a b : V}
theorem exc_facts (w : World) : ∃ cd, ExcCls (heapK w.params) cd ∧ findIn (heapK w.params) (.ref 38) (Str.ofString "code") = some none ∧ findIn (heapK w.params) (.ref 38) "__getattribute__" = some (some (.builtin "BaseException.__getattribute__")) ∧ findIn (heapK w.params) (.ref 38) "__getattr__" = some none :=
  ⟨{ name := Str.ofString "QuicError", bases := [Value.type "Exception"], mro := [Value.ref 38, Value.type "Exception", Value.type "BaseException", Value.type "object"], ns := 37, qualname := Str.ofString "QuicError" }, ⟨by kernel_rfl, rfl, rfl⟩, by kernel_rfl, by kernel_rfl, by kernel_rfl⟩
theorem vcAttr_sound {x : Str} {e : Bool} (h : vcAttr a x st k) (ha : BV n a va) : WP c BV (getAttr va x e) n st k ex := by
  cases a with
  | g i =>
    refine cps fun Zz zz => ?_
    obtain ⟨o, hi, h⟩ := oM_use h
    obtain ⟨C, fs, rfl, h⟩ := inOn_use h
    obtain ⟨d, hl, h⟩ := oM_use h
    rw [nth_eq] at hi
    obtain ⟨a1, ga, rfl⟩ := ha
    refine zz ?_
    intro pins hp tk r
    refine cps fun Zz zz => ?_
    have r0 := r
    obtain ⟨g, m, MW, ML, Am, F, N, ND, RW, RL, RV⟩ := r
    refine RW.lensG hi fun b1 f pre post e1 e2 e3 _ => ?_
    rw [ga] at e1
    cases e1
    obtain ⟨dx, es, q, rfl, hes, hc, hz⟩ := e2
    obtain ⟨ok, v, gl, bd⟩ := hes.get hl
    replace gl := getL_at gl
    obtain ⟨o1, ⟨at_, o2, o3⟩, o4⟩ := okA_use ok
    have hm1 : (a1, instObj C dx) ∈ MW ++ (ML ++ (n.imm ++ pins)) := mem4.mpr (.inl (by rw [e3]; simp))
    have hm2 : (dx, dictOf es q) ∈ MW ++ (ML ++ (n.imm ++ pins)) := mem4.mpr (.inl (by rw [e3]; simp))
    refine zz ?_
    exact get_own F Am.X (InstAt.of_news N hm1 hm2) o1 (okC_use hc).1 o2 o3 gl bd.handed (Out.done r0 .refl (show BV n (.d d) v from bd) h)
  | exc i =>
    refine cps fun Zz zz => ?_
    obtain ⟨s, h⟩ := orB_use h
    cases seq_iff.mp s
    obtain ⟨e1, d, vs, sl, od, rfl, m1, m2, es, q, rfl, tc, hl⟩ := ha
    refine zz ?_
    intro pins hp tk r
    refine cps fun Zz zz => ?_
    have r0 := r
    obtain ⟨g, m, MW, ML, Am, F, N, ND, RW, RL, RV⟩ := r
    obtain ⟨cd, f1, f2, f3, f4⟩ := exc_facts c.w
    refine zz ?_
    exact exc_get F Am.X N (mem4.mpr (.inr (.inr (.inl m1)))) (mem4.mpr (.inr (.inr (.inl m2)))) hl f1 f2 f3 f4 rfl (Out.done r0 .refl .int' h)
  | _ => exact h.elim
theorem frz_sound {kd : D → St → Prop} (h : frz a st kd) (ha : BV n a va) {pins : Led} {hp : Heap} (r : Rel c pins n st hp) : ∃ d st' n', n.Le n' ∧ Rel c pins n' st' hp ∧ BD n'.imm d va ∧ kd d st' := by
  cases a with
  | d x => exact ⟨_, st, n, .refl, r, ha, h⟩
  | l i =>
    refine cps fun Zz zz => ?_
    obtain ⟨o, hi, h⟩ := oM_use h
    obtain ⟨ds, rfl, h⟩ := oM_use h
    rw [nth_eq] at hi
    obtain ⟨a1, ga, rfl⟩ := ha
    obtain ⟨g, m, MW, ML, Am, F, N, ND, RW, RL, RV⟩ := r
    refine RL.lensG hi fun b1 f pre post e1 e2 u6 e4 => ?_
    subst u6
    rw [ga] at e1
    cases e1
    obtain ⟨ws, q, rfl, hb, hz⟩ := e2
    have le : n.Le ⟨n.ga, n.la, (a1, listOf ws.toArray q) :: n.imm⟩ := ⟨fun _ _ h => h, fun _ _ h => h, fun p hp => .tail _ hp⟩
    have pm : (MW ++ ((pre ++ ([(a1, listOf ws.toArray q)] ++ post)) ++ (n.imm ++ pins))).Perm (MW ++ ((pre ++ ([] ++ post)) ++ ((a1, listOf ws.toArray q) :: n.imm ++ pins))) := by
      refine List.Perm.append_left _ ?_
      rw [List.nil_append, List.singleton_append, List.cons_append]
      refine List.Perm.trans ?_ List.perm_middle.symm
      rw [List.append_assoc, List.append_assoc]
      exact List.perm_middle
    refine zz ?_
    refine ⟨.lst ds, ⟨st.W, put st.Lc i none, st.vars⟩, ⟨n.ga, n.la, (a1, listOf ws.toArray q) :: n.imm⟩, le, ⟨g, m, MW, pre ++ ([] ++ post), Am, F, news_sub N fun p hp => pm.mem_iff.mpr hp, (List.Perm.nodup_iff (List.Perm.map _ pm)).mp ND, RW.mono fun _ _ _ => RO.mono le, ?_, RV.mono le⟩, ?_, h⟩
    · rw [put_eq]
      exact (e4 none [] rfl).mono fun _ _ _ => RLo.mono le
    · simp only [BD]
      exact ⟨a1, ws, q, rfl, .head _, hb.mono le.imm, hz⟩
  | _ => exact h.elim
theorem Rel.wr {pins : Led} {g : Heap} {m : Str → Option Value} {A B ML : Led} {h' : Heap} {i : Nat} {x' : AObj} {d : Addr} {o o' : Obj} (Am : Amb c g) (F : Fr g c.L h' m) (N : News g c.L h' (A ++ (d, o') :: B ++ (ML ++ (n.imm ++ pins))))
    (ND : ((A ++ (d, o) :: B ++ (ML ++ (n.imm ++ pins))).map (·.1)).Nodup) (RW : Frs (RO c.w n) n.ga (st.W.set i x') (A ++ (d, o') :: B)) (RL : Frs (RLo n) n.la st.Lc ML) (RV : VarsOk c n pins m st.vars) : Rel c pins n (setW i x' st) h' :=
  ⟨g, m, _, ML, Am, F, N, by
    have := ND
    rw [List.append_assoc, List.cons_append] at this ⊢
    exact nd_mid this, by unfold setW; rw [put_eq]; exact RW, RL, RV⟩
theorem vcSetAttr_sound {G : GP} (hG : ∀ C x, G.okn C x = true → okA c.K C x = true) {x : Str} {kk : St → Prop} (h : vcSetAttr G a x b st kk) (ha : BV n a va) (hb : BV n b vb) (hk : ∀ st, kk st → ku () st) : WP c RU (setAttr va x vb) n st ku ex := by
  unfold vcSetAttr at h
  intro pins hp tk r
  refine cps fun Zz zz => ?_
  have h0 := frz_sound h hb r
  clear h hb r
  obtain ⟨d, st, n', le, r, hb, h⟩ := h0
  replace ha := ha.mono le
  refine zz ?_
  cases a <;> try exact h.elim
  case g i =>
  refine cps fun Zz zz => ?_
  simp only [BV] at ha
  obtain ⟨a1, ga, rfl⟩ := ha
  refine zz ?_
  dsimp only at h
  cases hi : nth st.W i with
  | none => rw [hi] at h; exact h.elim
  | some o =>
  rw [hi] at h
  cases o <;> try exact h.elim
  case inst C fs =>
  dsimp only at h
  refine cps fun Zz zz => ?_
  rw [nth_eq] at hi
  obtain ⟨g, m, MW, ML, Am, F, N, ND, RW, RL, RV⟩ := r
  refine RW.lensG hi fun b1 f pre post e1 e2 u6 e4 => ?_
  subst u6
  rw [ga] at e1
  cases e1
  obtain ⟨dx, es, q, rfl, hes, hc, hz⟩ := e2
  have el : ∀ es' q', pre ++ ([(a1, instObj C dx), (dx, dictOf es' q')] ++ post) ++ (ML ++ (n'.imm ++ pins)) = (pre ++ [(a1, instObj C dx)]) ++ (dx, dictOf es' q') :: (post ++ (ML ++ (n'.imm ++ pins))) := fun _ _ => by simp
  have hm1 : (a1, instObj C dx) ∈ pre ++ ([(a1, instObj C dx), (dx, dictOf es q)] ++ post) ++ (ML ++ (n'.imm ++ pins)) := by simp
  have hm2 : (dx, dictOf es q) ∈ pre ++ ([(a1, instObj C dx), (dx, dictOf es q)] ++ post) ++ (ML ++ (n'.imm ++ pins)) := by simp
  obtain ⟨c1, c2, c3⟩ := okC_use hc
  have fin : ∀ {fs' : List (Str × D)} {es' : List DictEntry} {q' : Nat}, okA c.K C x = true → (getL x es).isSome = true → EsOk c.w.params n'.imm C fs' es' → (putL x (PyData.keyHash c.w.params x) (.str x (tk + 1)) vb es, putN x es q) = (es', q') → fs'.length ≤ 100 → kk (setW i (.inst C fs') st) →
      wpAny c.M c.A (setAttr (.ref a1) x vb) (Out c pins RU n ku) (XOut c pins n ex) (c.at_ hp tk) := fun {fs' es' q'} ok gl ho he hz' hk' => by
    obtain ⟨o1, _, o4⟩ := okA_use ok
    have U : Upd dx (dictOf es q) (dictOf es' q') (pre ++ ([(a1, instObj C dx), (dx, dictOf es q)] ++ post) ++ (ML ++ (n'.imm ++ pins))) (pre ++ ([(a1, instObj C dx), (dx, dictOf es' q')] ++ post) ++ (ML ++ (n'.imm ++ pins))) := by
      rw [el, el]
      exact upd_mid (el _ _ ▸ ND)
    refine set_dict F Am.X N (InstAt.of_news N hm1 hm2) rfl c3 c2 o4 c1 gl he U (by rw [ho.len]; omega) fun h' F' N' => ?_
    refine Out.done (b := ()) (Rel.wr (A := pre ++ [(a1, instObj C dx)]) (B := post) (x' := .inst C fs') (o := dictOf es q) (o' := dictOf es' q') (d := dx) Am F' (by simpa using N') (by simpa using ND) ?_ RL RV) le trivial (hk _ hk')
    have := e4 (.inst C fs') [(a1, instObj C dx), (dx, dictOf es' q')] ⟨dx, es', q', rfl, ho, hc, hz'⟩
    simpa using this
  refine zz ?_
  cases hl : lk x fs with
  | some d0 =>
    refine cps fun Zz zz => ?_
    rw [hl] at h
    obtain ⟨ok, v, gl, _⟩ := hes.get hl
    replace gl := getL_at gl
    refine zz ?_
    exact fin ok (by rw [gl]; rfl) (hes.put hb hl) rfl (by rw [repK_len]; exact hz) h
  | none =>
    rw [hl] at h
    dsimp only at h
    cases hn : G.okn C x with
    | false => rw [hn] at h; exact h.elim
    | true =>
      refine cps fun Zz zz => ?_
      rw [hn] at h
      obtain ⟨h1, h⟩ := orB_use h
      have := Nat.le_of_ble_eq_true h1
      rw [lnth_eq] at this
      refine zz ?_
      exact fin (hG _ _ hn) (by rw [hes.miss hl]; rfl) (hes.add hb (hG _ _ hn) hl) rfl (by rw [List.length_append]; simp; omega) h
end
end
noncomputable section
section
variable {c : Cx} {n : Cn} {st : St} {k : V → St → Prop} {ku : Unit → St → Prop} {ex : Bool → Int → St → Prop} {va vb : Value} {a b : V}
theorem frzL_sound {pins : Led} {hp : Heap} : ∀ {vs : List V} {vals : List Value} {n : Cn} {st : St} {kd : List D → St → Prop}, frzL vs st kd → BVs n vs vals → Rel c pins n st hp → ∃ ds st' n', n.Le n' ∧ Rel c pins n' st' hp ∧ BDs n'.imm ds vals ∧ kd ds st'
  | [], _, n, st, kd, h, hv, r => by
    cases (show _ = _ from hv)
    exact ⟨[], st, n, .refl, r, .nil, h⟩
  | v :: vs, _, n, st, kd, h, ⟨x, q, e, hx, hq⟩, r => by
    refine cps fun Zz zz => ?_
    subst e
    obtain ⟨d, st1, n1, l1, r1, b1, h1⟩ := frz_sound (show frz v st _ from h) hx r
    obtain ⟨ds, st2, n2, l2, r2, b2, h2⟩ := frzL_sound h1 (hq.mono l1) r1
    refine zz ?_
    exact ⟨d :: ds, st2, n2, l1.trans l2, r2, .cons (b1.mono l2.imm) b2, h2⟩
theorem BDs.room {I : Led} {ds : List D} {ws : List Value} (h : BDs I ds ws) : ws.length = ds.length := h.len
theorem tuple_sound {pins : Led} {hp : Heap} {tk : Nat} {n₀ : Cn} (le : n₀.Le n) (r : Rel c pins n st hp) {ds : List D} {vals : List Value} (hd : BDs n.imm ds vals) (hz : vals.length ≤ 100) (h : k (.d (.tup ds)) st) :
    wpAny c.M c.A (newTuple vals) (Out c pins BV n₀ k) (XOut c pins n₀ ex) (c.at_ hp tk) := by
  obtain ⟨g, m, MW, ML, Am, F, N, ND, RW, RL, RV⟩ := r
  refine newTuple_N F N (fun h' F' N' => ?_) (by rw [sizeLine_eq]; omega)
  obtain ⟨le', r'⟩ := Rel.more Am F' N' ND (fun p hp => Nat.ne_of_lt (Heap.lt_size (N p hp).1)) RW RL RV
  exact Out.done r' (le.trans le') (.tup' (.head _) (hd.mono le'.imm)) h
theorem list_sound {pins : Led} {hp : Heap} {tk : Nat} {n₀ : Cn} (le : n₀.Le n) (r : Rel c pins n st hp) {ds : List D} {vals : List Value} (hd : BDs n.imm ds vals) (hz : vals.length ≤ 4096) (h : newL ds st k) :
    wpAny c.M c.A (newList vals) (Out c pins BV n₀ k) (XOut c pins n₀ ex) (c.at_ hp tk) := by
  obtain ⟨g, m, MW, ML, Am, F, N, ND, RW, RL, RV⟩ := r
  refine newList_N F N (fun h' F' N' => ?_) (by rw [sizeLine_eq]; omega)
  obtain ⟨le', r', bv⟩ := Rel.newL Am F' N' ND (fun p hp => Nat.ne_of_lt (Heap.lt_size (N p hp).1)) RW RL RV hd (by rw [← hd.len]; exact hz)
  exact Out.done r' (le.trans le') bv h
noncomputable def isSliceE (e : PySem.Expr) : Bool := Nat.beq e.ctorIdx 26
theorem subs_no {slice : PySem.Expr} (h : isSliceE slice = false) {o i : Value} : subscripted slice false o i = operate [o, i] (getItem o i) := by
  cases slice <;> first | rfl | cases h
theorem seqIx {j len : Nat} (h : j < len) : seqIndex? (Int.ofNat j) len = some j := by
  unfold seqIndex?
  simp only [Int.ofNat_eq_natCast, Int.not_lt.mpr (Int.natCast_nonneg j), if_false]
  simp [h]
theorem KvOk.get {n : Cn} {x : Str} : ∀ {fs : List (Str × V)} {es : List (Str × Value)} {y : V}, KvOk n fs es → lk x fs = some y → ∃ v, valueAt es x = some v ∧ BV n y v
  | [], _, _, _, e => by cases e
  | p :: r, _, y, ⟨v, q, e0, a, h⟩, e => by
    subst e0
    unfold lk at e
    cases s : seq x p.1 with
    | true =>
      rw [s] at e
      cases e
      cases seq_iff.mp s
      exact ⟨v, by simp [valueAt], a⟩
    | false =>
      rw [s] at e
      obtain ⟨u, g, b⟩ := h.get e
      refine ⟨u, ?_, b⟩
      unfold valueAt at g ⊢
      rw [List.find?_cons_of_neg (by
        intro q
        have q' : p.1 = x := of_decide_eq_true q
        rw [seq_iff.mpr q'.symm] at s; cases s)]
      exact g
theorem KvOk.len {n : Cn} : ∀ {fs : List (Str × V)} {es : List (Str × Value)}, KvOk n fs es → es.length = fs.length
  | [], _, h => by rw [show _ = _ from h]; rfl
  | p :: r, _, ⟨v, q, e0, a, h⟩ => by subst e0; exact congrArg (· + 1) h.len
theorem KvOk.keys {n : Cn} : ∀ {fs : List (Str × V)} {es : List (Str × Value)}, KvOk n fs es → es.map (·.1) = fs.map (·.1)
  | [], _, h => by rw [show _ = _ from h]; rfl
  | p :: r, _, ⟨v, q, e0, a, h⟩ => by subst e0; rw [List.map_cons, List.map_cons, h.keys]
theorem lk_mem {α : Type} {x : Str} : ∀ {l : List (Str × α)} {y : α}, lk x l = some y → x ∈ l.map (·.1)
  | [], _, e => by cases e
  | p :: r, y, e => by
    unfold lk at e
    cases s : seq x p.1 with
    | true => rw [seq_iff.mp s]; simp
    | false => rw [s] at e; exact List.mem_cons_of_mem _ (lk_mem e)
theorem KvOk.put {n : Cn} {x : Str} {w : V} {v : Value} (hv : BV n w v) : ∀ {fs : List (Str × V)} {es : List (Str × Value)}, KvOk n fs es → KvOk n (repA x w fs) (es.map fun kv => if kv.1 = x then (kv.1, v) else kv)
  | [], _, h => by rw [show _ = _ from h]; rfl
  | p :: r, _, ⟨u, q, e0, a, h⟩ => by
    subst e0
    unfold repA
    cases s : seq x p.1 with
    | true =>
      have e := seq_iff.mp s
      refine ⟨v, _, ?_, hv, h.put hv⟩
      rw [List.map_cons, if_pos e.symm]
    | false =>
      refine ⟨u, _, ?_, a, h.put hv⟩
      rw [List.map_cons, if_neg fun e => by rw [seq_iff.mpr e.symm] at s; cases s]
theorem stored_old {x : Str} {v : Value} {kvs : List (Str × Value)} (h : x ∈ kvs.map (·.1)) : stored kvs x v = kvs.map fun kv => if kv.1 = x then (kv.1, v) else kv := by
  unfold stored
  rw [if_pos]
  obtain ⟨p, hp, e⟩ := List.mem_map.mp h
  exact List.any_eq_true.mpr ⟨p, hp, by simpa using e⟩
theorem stored_ins {x : Int} {v : Value} {kvs : List (Int × Value)} : (stored kvs x v).map (·.1) = insK x (kvs.map (·.1)) := by
  unfold stored insK
  by_cases h : x ∈ kvs.map (·.1)
  · rw [if_pos h, if_pos (by
      obtain ⟨p, hp, e⟩ := List.mem_map.mp h
      exact List.any_eq_true.mpr ⟨p, hp, by simpa using e⟩), List.map_map]
    refine List.map_congr_left fun p _ => ?_
    show (if p.1 = x then (p.1, v) else p).1 = p.1
    split <;> rfl
  · rw [if_neg h, if_neg, List.map_append]
    · rfl
    · intro q
      obtain ⟨p, hp, e⟩ := List.any_eq_true.mp q
      exact h (List.mem_map.mpr ⟨p, hp, of_decide_eq_true e⟩)
theorem dictOf_map {w : World} {h₀ h : Heap} {L d : Addr} {news : Led} {o : Obj} {kvs : List (Str × Value)} (N : News h₀ L h news) (hm : (d, o) ∈ news) (hd : o.IsDictOf (PySem.strKind thePg w) kvs) : h.DictOf (PySem.strKind thePg w) d kvs := Heap.dictOf_iff.mpr ⟨o, N.get hm, hd⟩
theorem Rel.obj {pins : Led} {hp : Heap} (r : Rel c pins n st hp) {i : Nat} {x : AObj} {v : Value} (hi : nth st.W i = some x) (hv : BV n (.g i) v) {Z : Prop} (k : ∀ a f g l, v = .ref a → RO c.w n a x f → News g c.L hp l → (∀ q ∈ f, q ∈ l) → Z) : Z := by
  rw [nth_eq] at hi
  obtain ⟨a1, ga, rfl⟩ := hv
  obtain ⟨g, m, MW, ML, Am, F, N, ND, RW, RL, RV⟩ := r
  refine RW.lensG hi fun b1 f pre post e1 e2 e3 _ => ?_
  rw [ga] at e1
  cases e1
  exact k a1 f g _ rfl e2 N fun q hq => mem4.mpr (.inl (by rw [e3]; simp [hq]))
theorem subL_ix {x : Int} {ds : List D} {P : D → Prop} (h : natI x fun j => oM (nth ds j) fun d => orB (Nat.ble j 100) (P d) False) : ∃ (j : Nat) (d : D), x = (j : Int) ∧ ds[j]? = some d ∧ j ≤ 100 ∧ P d := by
  obtain ⟨j, rfl, h⟩ := natI_use h
  obtain ⟨d, e, h⟩ := oM_use h
  obtain ⟨h0, h⟩ := orB_use h
  rw [nth_eq] at e
  exact ⟨j, d, rfl, e, Nat.le_of_ble_eq_true h0, h⟩
theorem vcSub_sound {value slice : PySem.Expr} (hs : isSliceE slice = false) (h : vcSub a b st k) (ha : BV n a va) (hb : BV n b vb) : WP c BV (subscriptTail value slice va vb) n st k ex := by
  cases a with
  | d x =>
    cases x with
    | tup ds =>
      obtain ⟨x, rfl, h⟩ := int1_use h
      obtain ⟨j, d, rfl, hj, h1, h⟩ := subL_ix h
      obtain ⟨a1, ws, rfl, hm, hd⟩ := ha.tup
      obtain ⟨t, rfl⟩ := hb.int
      obtain ⟨v, hv, bd⟩ := hd.get hj
      have hl := (List.getElem?_eq_some_iff.mp hv).1
      exact fun pins hp tk r => item_tupleT (isTup_of (r.imm_mem hm)) (by omega) (by omega) (seqIx hl) hv (Out.done r .refl (show BV n (.d d) v from bd) h) (subs_no hs)
    | lst ds =>
      obtain ⟨x, rfl, h⟩ := int1_use h
      obtain ⟨j, d, rfl, hj, h1, h⟩ := subL_ix h
      simp only [BV, BD] at ha
      obtain ⟨a1, ws, q, rfl, hm, hd, _⟩ := ha
      obtain ⟨t, rfl⟩ := hb.int
      obtain ⟨v, hv, bd⟩ := hd.get hj
      have hL : ∀ {pins : Led} {hp : Heap}, Rel c pins n st hp → hp.IsList a1 ws.toArray := fun r => ⟨_, r.imm_mem hm, rfl, _, rfl⟩
      exact fun pins hp tk r => tail_any (hL r).typeIs slot_list_getitem.lookup (wpAny_getItem_list (hL r) (by omega) (by omega) (by simpa using hv) (Out.done r .refl (show BV n (.d d) v from bd) h)) (subs_no hs)
    | _ => exact h.elim
  | g w =>
    obtain ⟨x, rfl, h⟩ := dOf_use h
    obtain ⟨o, hw, h⟩ := oM_use h
    cases o with
    | sdict kvs =>
      obtain ⟨x, rfl, h1⟩ := sOf_use h
      obtain ⟨y, hl, h2⟩ := oM_use h1
      clear h1 h
      obtain ⟨t, rfl⟩ := hb.str
      intro pins hp tk r
      refine r.obj hw ha fun a1 f g l e u N hf => ?_
      obtain ⟨o, kvs', rfl, hd, ok⟩ := u
      subst e
      obtain ⟨v, hv, bv0⟩ := ok.get hl
      have D := dictOf_map N (hf _ (.head _)) hd
      exact tail_any D.mapOf.typeIs slot_dict_getitem.lookup (wpAny_getItem_of (strKind_is _ _ _ _) D.mapOf hv (Out.done r .refl (bv0.mono (Cn.noL_le (n := n))) h2)) (subs_no hs)
    | box x sd =>
      obtain ⟨i, rfl, h1⟩ := iOf_use h
      obtain ⟨j, rfl, h2⟩ := natI_use h1
      clear h1 h
      obtain ⟨t, rfl⟩ := hb.int
      intro pins hp tk r
      refine r.obj hw ha fun a1 f g l e u N hf => ?_
      obtain ⟨b2, t2, q, rfl, gb⟩ := u
      subst e
      have hL : hp.IsList a1 #[.ref b2, .int sd t2] := News.isList N (hf _ (.head _))
      cases j with
      | zero => exact tail_any hL.typeIs slot_list_getitem.lookup (wpAny_getItem_list hL (by decide) (by decide) rfl (Out.done r .refl (show BV n (.g x) (.ref b2) from ⟨b2, gb, rfl⟩) h2)) (subs_no hs)
      | succ j => cases j with
        | zero => exact tail_any hL.typeIs slot_list_getitem.lookup (wpAny_getItem_list hL (by decide) (by decide) rfl (Out.done r .refl .int' h2)) (subs_no hs)
        | succ j => exact h2.elim
    | _ => exact h.elim
  | _ => exact h.elim
theorem setAt {prog : Program} {w : World} {A : Around} {E : Value → Shared → Prop} {s : Shared} {h₀ : Heap} {L D : Addr} {m : Str → Option Value} {news news' : List (Addr × Obj)} {q : Nat} {its its' : Array Value} {k : Int} {t : Tok} {v : Value} {Q : Unit → Shared → Prop} (F : Fr h₀ L s.heap m) (N : News h₀ L s.heap news) (e : its.setIfInBounds k.toNat v = its') (U : Upd D (listOf its q) (listOf its' q) news news')
    (h0 : 0 ≤ k) (hfit : k < 2 ^ 63) (h1 : k < its.size) (h : ∀ h', Fr h₀ L h' m → News h₀ L h' news' → Q () { s with heap := h' }) : wpAny (model prog w) A (setItem (.ref D) (.int k t) v) Q E s := by
  refine cps fun Zz zz => ?_
  subst e
  obtain ⟨pre, post, rfl, rfl, a, b⟩ := U.split
  have z := N (D, listOf its q) (List.mem_append.mpr (.inr (.head _)))
  refine zz ?_
  exact ki_setAt z.1 h0 hfit h1 (h _ (F.change (Heap.SameBut.update ..) z.2.1 z.2.2) (ki_turn _ N a b rfl (by simp)))
theorem setWl {st : St} {i : Nat} {o : AObj} : (setW i o st).W = st.W.set i o := put_eq _ _ _
theorem vcSetItem_sound {v : V} {vv : Value} {kk : St → Prop} (h : vcSetItem a b v st kk) (ha : BV n a va) (hb : BV n b vb) (hv : BV n v vv) (hk : ∀ st, kk st → ku () st) : WP c RU (setItem va vb vv) n st ku ex := by
  refine cps fun Zz zz => ?_
  obtain ⟨d, rfl, g1⟩ := dOf_use h
  obtain ⟨w, rfl, g2⟩ := gOf_use g1
  obtain ⟨bd, rfl, g3⟩ := dOf_use g2
  obtain ⟨o, hw, g4⟩ := oM_use g3
  clear g3 g2 g1 h
  rw [nth_eq] at hw
  obtain ⟨a1, ga, rfl⟩ := (show ∃ a, n.ga[w]? = some a ∧ va = .ref a from ha)
  clear ha
  refine zz ?_
  cases o with
  | sdict kvs =>
    refine cps fun Zz zz => ?_
    obtain ⟨x, rfl, g5⟩ := sOf_use g4
    obtain ⟨y, hl, g6⟩ := oM_use g5
    obtain ⟨h0, h⟩ := orB_use g6
    have h1 := Nat.le_of_ble_eq_true h0
    rw [lnth_eq] at h1
    clear g6 g5 g4
    obtain ⟨t, rfl⟩ := hb.str
    refine zz ?_
    intro pins hp tk r
    refine cps fun Zz zz => ?_
    obtain ⟨g, m, MW, ML, Am, F, N, ND, RW, RL, RV⟩ := r
    refine RW.lensG hw fun b1 f pre post e1 e2 u6 e4 => ?_
    subst u6
    rw [ga] at e1
    cases e1
    obtain ⟨o, kvs', rfl, hd, ok⟩ := e2
    have el : ∀ o', pre ++ ([(a1, o')] ++ post) ++ (ML ++ (n.imm ++ pins)) = pre ++ (a1, o') :: (post ++ (ML ++ (n.imm ++ pins))) := fun _ => by simp
    have U : UpdF a1 o (pre ++ ([(a1, o)] ++ post) ++ (ML ++ (n.imm ++ pins))) (fun o' => pre ++ (a1, o') :: (post ++ (ML ++ (n.imm ++ pins)))) := by
      rw [el]; exact updF_mid (el _ ▸ ND)
    refine zz ?_
    refine kda_set F N U hd (strKind_is _ _ _ _) (by rw [ok.len, sizeLine_eq]; omega) fun h' o' F' N' hd' => ?_
    refine Out.done (b := ()) (Rel.wr (A := pre) (B := post) (x' := .sdict (repA x (.d d) kvs)) (o := o) (o' := o') (d := a1) Am F' (by simpa using N') (by simpa using ND) ?_ RL RV) .refl trivial (hk _ h)
    have := e4 (.sdict (repA x (.d d) kvs)) [(a1, o')] ⟨o', _, rfl, hd', by rw [stored_old (by rw [ok.keys]; exact lk_mem hl)]; exact ok.put (by simpa only [BV] using hv)⟩
    simpa using this
  | iset ks =>
      refine cps fun Zz zz => ?_
      obtain ⟨x, rfl, g5⟩ := iOf_use g4
      obtain ⟨bb, rfl, g6⟩ := bOf_use g5
      obtain ⟨rfl, h1, h⟩ := orB_use g6
      clear g6 g5 g4
      obtain ⟨t, rfl⟩ := hb.int
      refine zz ?_
      intro pins hp tk r
      refine cps fun Zz zz => ?_
      obtain ⟨g, m, MW, ML, Am, F, N, ND, RW, RL, RV⟩ := r
      refine RW.lensG hw fun b1 f pre post e1 e2 u6 e4 => ?_
      subst u6
      rw [ga] at e1
      cases e1
      obtain ⟨o, kvs', rfl, lo, hd, rfl⟩ := e2
      have el : ∀ o', pre ++ ([(a1, o')] ++ post) ++ (ML ++ (n.imm ++ pins)) = pre ++ (a1, o') :: (post ++ (ML ++ (n.imm ++ pins))) := fun _ => by simp
      have U : UpdF a1 o (pre ++ ([(a1, o)] ++ post) ++ (ML ++ (n.imm ++ pins))) (fun o' => pre ++ (a1, o') :: (post ++ (ML ++ (n.imm ++ pins)))) := by
        rw [el]; exact updF_mid (el _ ▸ ND)
      rw [List.length_map] at h1
      refine zz ?_
      refine kda_set F N U hd (intKind_is _ _ _ _) (by rw [sizeLine_eq]; omega) fun h' o' F' N' hd' => ?_
      refine Out.done (b := ()) (Rel.wr (A := pre) (B := post) (x' := .iset (insK x (kvs'.map (·.1)))) (o := o) (o' := o') (d := a1) Am F' (by simpa using N') (by simpa using ND) ?_ RL RV) .refl trivial (hk _ h)
      have := e4 (.iset (insK x (kvs'.map (·.1)))) [(a1, o')] ⟨o', _, rfl, lo, hd', stored_ins⟩
      simpa using this
  | box bx sd =>
      refine cps fun Zz zz => ?_
      obtain ⟨x, rfl, g5⟩ := iOf_use g4
      obtain ⟨sd', rfl, rfl, h⟩ := iOf_use g5
      clear g5 g4
      obtain ⟨t, rfl⟩ := hb.int
      obtain ⟨t', rfl⟩ := hv.int
      refine zz ?_
      intro pins hp tk r
      refine cps fun Zz zz => ?_
      obtain ⟨g, m, MW, ML, Am, F, N, ND, RW, RL, RV⟩ := r
      refine RW.lensG hw fun b1 f pre post e1 e2 u6 e4 => ?_
      subst u6
      rw [ga] at e1
      cases e1
      obtain ⟨b2, t2, q, rfl, gb⟩ := e2
      have el : ∀ o', pre ++ ([(a1, o')] ++ post) ++ (ML ++ (n.imm ++ pins)) = pre ++ (a1, o') :: (post ++ (ML ++ (n.imm ++ pins))) := fun _ => by simp
      have U : Upd a1 (listOf #[.ref b2, .int sd t2] q) (listOf #[.ref b2, .int sd' t'] q) (pre ++ ([(a1, listOf #[.ref b2, .int sd t2] q)] ++ post) ++ (ML ++ (n.imm ++ pins))) (pre ++ ([(a1, listOf #[.ref b2, .int sd' t'] q)] ++ post) ++ (ML ++ (n.imm ++ pins))) := by
        rw [el, el]; exact upd_mid (el _ ▸ ND)
      refine zz ?_
      refine setAt F N rfl U (by decide) (by decide) (by show (1 : Int) < ((2 : Nat) : Int); decide) fun h' F' N' => ?_
      refine Out.done (b := ()) (Rel.wr (A := pre) (B := post) (x' := .box bx sd') (o := listOf #[.ref b2, .int sd t2] q) (o' := listOf #[.ref b2, .int sd' t'] q) (d := a1) Am F' (by simpa using N') (by simpa using ND) ?_ RL RV) .refl trivial (hk _ h)
      have := e4 (.box bx sd') [(a1, listOf #[.ref b2, .int sd' t'] q)] ⟨b2, t', q, rfl, gb⟩
      simpa using this
  | _ => exact g4.elim
end
end
noncomputable section
section
variable {c : Cx} {n : Cn} {st : St} {k : V → St → Prop} {ku : Unit → St → Prop} {ex : Bool → Int → St → Prop} {va vb : Value} {a b : V}
theorem lt_no {value : PySem.Expr} {x : Array UInt8} {t : Tok} (r : Value) : letTemporaryGo value (.bytes x t) r = pure () := by cases value <;> rfl
theorem bInts_list (x : List UInt8) : KBw.bInts x.toArray = x.map fun c => ((c.toNat : Nat) : Int) := rfl
theorem slice_L {prog : Program} {w : World} {A : Around} {E : Value → Shared → Prop} {s : Shared} {h₀ : Heap} {L : Addr} {m : Str → Option Value} {news : Led} {value : PySem.Expr} {lo' hi' : Option PySem.Expr} {p : Pos} {x : List UInt8} {t : Tok} {l u : Value} {lo hi : Option Int} {Q : Value → Shared → Prop} (F : Fr h₀ L s.heap m) (N : News h₀ L s.heap news) (hl : IsPart l lo) (hu : IsPart u hi) (hz : x.length ≤ 16777216) (y : List UInt8)
    (hy : (x.drop (lo.elim 0 (clipAt x.length))).take (hi.elim x.length (clipAt x.length) - lo.elim 0 (clipAt x.length)) = y)
    (h : ∀ h' t' k, Fr h₀ L h' m → News h₀ L h' news → Q (.bytes y.toArray t') { s with heap := h', toks := k }) :
    wpAny (model prog w) A (subscriptTail value (.Slice lo' hi' none p) (.bytes x.toArray t) (.ref s.heap.objs.size)) Q E { s with heap := s.heap.push { cls := .type "slice", data := .fields #[l, u, .none] } } :=
  KBc.slice_K F N rfl hl hu (by simpa [bInts_list] using hz) (fun h' t' k F' N' _ => by
    have e : KBy.picked x.toArray lo hi = y.toArray := by rw [KBc.picked_eq]; simpa using hy
    rw [e]; exact h h' t' k F' N') rfl lt_no
theorem clip_nat {len m : Nat} : clipAt len (m : Int) = min m len := by
  unfold clipAt
  rw [if_neg (Int.not_lt.mpr (Int.natCast_nonneg m))]
  show (max 0 (min (m : Int) len)).toNat = min m len
  rcases Nat.le_total m len with h | h
  · rw [Int.min_eq_left (Int.ofNat_le.mpr h), Nat.min_eq_left h, Int.max_eq_right (Int.natCast_nonneg _)]; rfl
  · rw [Int.min_eq_right (Int.ofNat_le.mpr h), Nat.min_eq_right h, Int.max_eq_right (Int.natCast_nonneg _)]; rfl
theorem clip_pos {len : Nat} {y : Int} (h : 0 ≤ y) : clipAt len y = min y.toNat len := by
  obtain ⟨m, rfl⟩ := Int.eq_ofNat_of_zero_le h
  exact clip_nat
theorem xs_from {x y : Int} (h0 : 0 ≤ y) : ((xsB x.toNat).drop (clipAt (xsB x.toNat).length y)).take ((xsB x.toNat).length - clipAt (xsB x.toNat).length y) = xsB (max 0 (x - y)).toNat := by
  obtain ⟨m, rfl⟩ := Int.eq_ofNat_of_zero_le h0
  rw [show clipAt _ (m : Int) = _ from clip_nat, List.length_replicate, List.drop_replicate, List.take_replicate, Nat.min_self]
  refine congrArg xsB ?_
  cases x with
  | ofNat k =>
    show k - min m k = (max 0 ((k : Int) - m)).toNat
    rcases Nat.le_total m k with h | h
    · rw [Nat.min_eq_left h, ← Int.ofNat_sub h, Int.max_eq_right (Int.natCast_nonneg _)]; rfl
    · rw [Nat.min_eq_right h, Nat.sub_self, Int.max_eq_left (Int.sub_nonpos_of_le (Int.ofNat_le.mpr h))]; rfl
  | negSucc k =>
    rw [Int.max_eq_left (Int.sub_nonpos_of_le (Int.le_trans (Int.le_of_lt (Int.negSucc_lt_zero k)) (Int.natCast_nonneg m)))]
    exact Nat.zero_sub _
theorem xs_upto {x y : Int} (h0 : 0 ≤ y) : ((xsB x.toNat).drop 0).take (clipAt (xsB x.toNat).length y - 0) = xsB (min x y).toNat := by
  obtain ⟨m, rfl⟩ := Int.eq_ofNat_of_zero_le h0
  rw [show clipAt _ (m : Int) = _ from clip_nat, List.length_replicate, List.drop_zero, List.take_replicate]
  refine congrArg xsB ?_
  rw [Nat.sub_zero, Nat.min_eq_left (Nat.min_le_right _ _)]
  rcases Int.le_total x m with h | h
  · rw [Int.min_eq_left h, Nat.min_eq_right (Int.toNat_le.mpr h)]
  · rw [Int.min_eq_right h, Nat.min_eq_left ((Int.le_toNat (Int.le_trans (Int.natCast_nonneg m) h)).mpr h)]; rfl
noncomputable def partOk (n : Cn) (v : Option V) (val : Value) : Prop := v.casesOn (val = .none) fun x => BV n x val
theorem slice_sound {value : PySem.Expr} {lo' hi' : Option PySem.Expr} {p : Pos} {lo hi : Option V} {l u : Value} (h : vcSlice a lo hi st k) (ha : BV n a va) (hl : partOk n lo l) (hu : partOk n hi u)
    {pins : Led} {hp : Heap} {tk : Nat} {n₀ : Cn} (le : n₀.Le n) (r : Rel c pins n st hp) :
    wpAny c.M c.A (subscriptTail value (.Slice lo' hi' none p) va (.ref hp.objs.size)) (Out c pins BV n₀ k) (XOut c pins n₀ ex) (c.at_ (hp.push { cls := .type "slice", data := .fields #[l, u, .none] }) tk) := by
  obtain ⟨g, m, MW, ML, Am, F, N, ND, RW, RL, RV⟩ := r
  have back : ∀ {h' : Heap}, Fr g c.L h' m → News g c.L h' (MW ++ (ML ++ (n.imm ++ pins))) → Rel c pins n st h' := fun F' N' => ⟨g, m, MW, ML, Am, F', N', ND, RW, RL, RV⟩
  replace h := dOf_use h
  obtain ⟨x, rfl, h⟩ := h
  cases x with
  | xs x =>
    obtain ⟨⟨x0, x1⟩, t, rfl⟩ := ha.xs
    have hz : (xsB x.toNat).length ≤ 16777216 := by rw [List.length_replicate]; omega
    cases lo with
    | none =>
      replace h := oM_use h
      obtain ⟨hi, rfl, h⟩ := h
      replace h := int1_use h
      obtain ⟨y, rfl, h0, h⟩ := h
      obtain ⟨t2, rfl⟩ := BV.int (n := n) hu
      cases hl
      exact slice_L (s := c.at_ hp tk) F N .none (.int y t2) hz _ (xs_upto h0) fun h' t' k' F' N' => Out.done (back F' N') le (.xs' (by omega) (by omega)) h
    | some lo => cases hi with
      | none =>
        replace h := int1_use h
        obtain ⟨y, rfl, h0, h⟩ := h
        obtain ⟨t2, rfl⟩ := BV.int (n := n) hl
        cases hu
        exact slice_L (s := c.at_ hp tk) F N (.int y t2) .none hz _ (xs_from h0) fun h' t' k' F' N' => Out.done (back F' N') le (.xs' (by omega) (by omega)) h
      | some => exact h.elim
  | by_ x =>
    replace h := oM_use h
    obtain ⟨lo, rfl, h⟩ := h
    replace h := oM_use h
    obtain ⟨hi, rfl, h⟩ := h
    replace h := int2_use h
    obtain ⟨y, z, rfl, rfl, ⟨h0, h1, h2⟩, h⟩ := h
    obtain ⟨bs, t, rfl, e, x1⟩ := ha.by_
    obtain ⟨t2, rfl⟩ := BV.int (n := n) hl
    obtain ⟨t3, rfl⟩ := BV.int (n := n) hu
    refine slice_L (s := c.at_ hp tk) F N (.int y t2) (.int z t3) (by omega) _ rfl fun h' t' k' F' N' => Out.done (back F' N') le (.by' ?_ (by omega)) h
    show ((((bs.drop (clipAt bs.length y)).take (clipAt bs.length z - clipAt bs.length y)).length : Nat) : Int) = z - y
    obtain ⟨m, rfl⟩ := Int.eq_ofNat_of_zero_le h0
    obtain ⟨q, rfl⟩ := Int.eq_ofNat_of_zero_le (Int.le_trans h0 h1)
    have h3 : q ≤ bs.length := by omega
    have h4 : m ≤ q := Int.ofNat_le.mp h1
    rw [show clipAt _ (m : Int) = _ from clip_nat, show clipAt _ (q : Int) = _ from clip_nat, List.length_take, List.length_drop, Nat.min_eq_left h3, Nat.min_eq_left (Nat.le_trans h4 h3), Nat.min_eq_left (Nat.sub_le_sub_right h3 _)]
    exact Int.ofNat_sub h4
  | _ => exact h.elim
theorem kat_of' {I : Led} {h : Heap} (hI : ∀ p ∈ I, h.get? p.1 = some p.2) : ∀ {ws : List Value} {ps : List (Int × Nat)}, BDs I (ps.map encP) ws → ∃ fs, KatTups h ws fs ∧ fs.length = ps.length ∧ ∀ f ∈ fs, ∃ s t, f = Value.int s t
  | _, [], b => by cases b.nil_inv; exact ⟨[], KatTups.nil, rfl, fun _ h => nomatch h⟩
  | _, (s, m) :: r, b => by
    refine cps fun Zz zz => ?_
    obtain ⟨v, q, rfl, p, b'⟩ := b.cons_inv
    simp only [encP, BD] at p
    obtain ⟨a, us, rfl, hm, bu⟩ := p
    obtain ⟨v1, u1, rfl, p1, bu⟩ := bu.cons_inv
    simp only [BD] at p1
    obtain ⟨t, rfl⟩ := p1
    obtain ⟨fs, k1, k2, k3⟩ := kat_of' hI b'
    refine zz ?_
    refine ⟨.int s t :: fs, KatTups.cons (hI _ hm) rfl rfl rfl k1, by simp [k2], fun f hf => ?_⟩
    rcases List.mem_cons.mp hf with rfl | hf
    · exact ⟨s, t, rfl⟩
    · exact k3 f hf
end
end
noncomputable section
noncomputable def runO {α : Type} (lt : Nat → Nat → Bool) (n : Nat) : KasT α → Option α
  | .ret a => some a
  | .ask i j k => if i < n ∧ j < n ∧ i ≠ j then runO lt n (k (lt i j)) else none
theorem runO_wp {α : Type} {lt : Nat → Nat → Bool} {n : Nat} {cmp : Nat → Nat → (Bool → Shared → Prop) → Shared → Prop} {G : α → Shared → Prop} {s : Shared} {a : α}
    (hc : ∀ i j C, i < n → j < n → i ≠ j → C (lt i j) s → cmp i j C s) : ∀ (t : KasT α), runO lt n t = some a → G a s → t.kasWp cmp G s
  | .ret b, h, hG => by cases h; exact hG
  | .ask i j k, h, hG => by
    unfold runO at h
    split at h
    · rename_i q
      exact hc i j _ q.1 q.2.1 q.2.2 (runO_wp hc (k (lt i j)) h hG)
    · cases h
noncomputable def insRank (n pos i : Nat) : Nat := if i + 1 = n then pos else if i < pos then i else i + 1
noncomputable def insPerm (n pos : Nat) : List Nat := List.range pos ++ (n - 1) :: (List.range (n - 1)).drop pos
noncomputable def insGood (n pos : Nat) : Bool := match runO (fun i j => decide (insRank n pos i < insRank n pos j)) n (kas_sort n) with
  | some p => p.toList == insPerm n pos
  | none => false
theorem insGood_all : ((List.range 9).all fun n => (List.range 9).all fun pos => !(decide (2 ≤ n) && decide (pos < n)) || insGood n pos) = true := by decide +kernel
theorem runO_ins {n pos : Nat} (hn : n < 9) (h2 : 2 ≤ n) (hp : pos < n) : ∃ p, runO (fun i j => decide (insRank n pos i < insRank n pos j)) n (kas_sort n) = some p ∧ p.toList = insPerm n pos := by
  have h := List.all_eq_true.mp (List.all_eq_true.mp insGood_all n (List.mem_range.mpr hn)) pos (List.mem_range.mpr (by lia))
  rw [decide_eq_true h2, decide_eq_true hp] at h
  simp only [Bool.and_self, Bool.not_true, Bool.false_or] at h
  unfold insGood at h
  split at h
  · rename_i p e
    exact ⟨p, e, eq_of_beq h⟩
  · cases h
theorem insPerm_map {α : Type} (A B : List α) (x d : α) : (insPerm (A.length + B.length + 1) A.length).map (fun i => (A ++ B ++ [x]).getD i d) = A ++ x :: B := by
  unfold insPerm
  rw [List.map_append, List.map_cons]
  congr 1
  · refine List.ext_getElem (by simp) fun i h1 h2 => ?_
    simp at h1 ⊢
    rw [List.getElem?_append_left h1]
    simp [h1]
  · congr 1
    · simp
    · refine List.ext_getElem (by simp) fun i h1 h2 => ?_
      simp
      rw [List.getElem?_append_right (by lia)]
      simp
      rw [List.getElem?_append_left h2]
      simp [h2]

section
variable {prog : Program} {w : World} {A : Around} {E : Value → Shared → Prop} {s : Shared} {h₀ : Heap} {L : Addr} {m : Str → Option Value} {news : Led}
theorem sorted_one {l : Addr} {v : Value} {Q : Value → Shared → Prop} (F : Fr h₀ L s.heap m) (N : News h₀ L s.heap news) (hl : s.heap.IsList l [v].toArray)
    (h : ∀ D c h', Fr h₀ L h' m → News h₀ L h' ((D, listOf [v].toArray c) :: news) → (∀ q ∈ news, @LT.lt Nat _ q.1 D) → Q (.ref D) { s with heap := h' }) :
    wpAny (model prog w) A (call (.builtin "sorted") [.ref l]) Q E s := by
  have key : ∀ out : Array Value, out = [v].toArray → Q (.ref (s.heap.objs.size + 1)) { s with heap := sortedAll s.heap [v] out } := by
    rintro _ rfl
    obtain ⟨e, he⟩ := sortedAll_at s.heap [v] [v].toArray
    exact h (s.heap.objs.size + 1) e _ (F.kept fun _ _ => sortedAll_old) (N.kept_cons F (fun _ _ => sortedAll_old) (Nat.le_succ _) he) fun q hq => Nat.lt_succ_of_lt (Heap.lt_size (N q hq).1)
  refine Calls.call_function_entry kind_sorted plain_sorted entry_sorted (args_sorted1 _) ?_
  unfold Builtin.«sorted»
  refine wpAny_bind (m := checkCount "sorted" 1 1 _) (wpAny_pure ?_)
  refine wpAny_bind (collect_list hl ?_ (by rw [sizeLine_eq]; exact Nat.le_of_ble_eq_true rfl))
  refine wpAny_bind (wpAny_newList ?_ (by rw [sizeLine_eq]; exact Nat.le_of_ble_eq_true rfl))
  have hsz : ((s.heap.push (seqObj "list" #[] 0)).update s.heap.objs.size (Obj.mapSeq (· ++ [v].toArray))).objs.size = s.heap.objs.size + 1 := by rw [Heap.size_update, size_push']
  have hoL : (((s.heap.push (seqObj "list" #[] 0)).update s.heap.objs.size (Obj.mapSeq (· ++ [v].toArray))).push (seqObj "list" [v].toArray 0)).get? (s.heap.objs.size + 1) = some (seqObj "list" [v].toArray 0) := by
    rw [← hsz]; exact Heap.get?_push_size _ rfl
  show wpAny _ _ _ _ _ { s with heap := ((s.heap.push (seqObj "list" #[] 0)).update s.heap.objs.size (Obj.mapSeq (· ++ [v].toArray))).push (seqObj "list" [v].toArray 0) }
  rw [hsz]
  refine wpAny_bind (wpAny_holding (wpAny_call_entry slot_list_sort ⟨_, hoL, rfl⟩ entry_list_sort ?body (args_list_sort _)))
  case body =>
    rw [list_sort_plain]
    have ha : s.heap.objs.size + 1 < _ := Heap.lt_size hoL
    refine wpAny_bind (listItems_at hoL rfl ?_)
    refine wpAny_bind (listUpdate_at hoL rfl ?_)
    obtain ⟨e1, ho1⟩ : ∃ e1, ((((s.heap.push (seqObj "list" #[] 0)).update s.heap.objs.size (Obj.mapSeq (· ++ [v].toArray))).push (seqObj "list" [v].toArray 0)).update (s.heap.objs.size + 1) (Obj.mapSeq fun _ => #[])).get? (s.heap.objs.size + 1) = some (seqObj "list" #[] e1) := ⟨_, get?_update_seq hoL (fun _ => #[])⟩
    refine wpAny_bind (seqEpoch_at ho1 rfl ?_)
    refine wpAny_bind (wpAny_newTuple ?_)
    refine wpAny_bind (wpAny_newList ?_)
    refine wpAny_holding ?_
    have ho6 : ((((((s.heap.push (seqObj "list" #[] 0)).update s.heap.objs.size (Obj.mapSeq (· ++ [v].toArray))).push (seqObj "list" [v].toArray 0)).update (s.heap.objs.size + 1) (Obj.mapSeq fun _ => #[])).push (seqObj "tuple" [v].toArray 0)).push (seqObj "list" #[] 0)).get? (s.heap.objs.size + 1) = some (seqObj "list" #[] e1) := by
      rw [Heap.get?_push_ne _ _ _ (by rw [size_push', Heap.size_update]; exact Nat.ne_of_lt (Nat.lt_succ_of_lt ha)), Heap.get?_push_ne _ _ _ (by rw [Heap.size_update]; exact Nat.ne_of_lt ha)]
      exact ho1
    show wpAny (model prog w) _ _ _ _ { s with heap := (((((s.heap.push (seqObj "list" #[] 0)).update s.heap.objs.size (Obj.mapSeq (· ++ [v].toArray))).push (seqObj "list" [v].toArray 0)).update (s.heap.objs.size + 1) (Obj.mapSeq fun _ => #[])).push (seqObj "tuple" [v].toArray 0)).push (seqObj "list" #[] 0) }
    dsimp only
    have h2 : [v].toArray.size < 2 := by simp
    rw [if_pos h2, if_pos h2]
    refine wpAny_bind (wpAny_pure ?_)
    rw [StateT.run_pure]
    refine wpAny_bind (wpAny_pure ?_)
    dsimp only
    refine wpAny_bind (seqEpoch_at ho6 rfl ?_)
    refine wpAny_bind (listUpdate_at ho6 rfl ?_ (hsz2 := by rw [Array.size_map]; show (pairsOf [v]).size ≤ _; rw [pairsOf_size, sizeLine_eq]; exact Nat.le_of_ble_eq_true rfl))
    simp only [bne_self_eq_false, Bool.false_eq_true, if_false]
    refine wpAny_pure ⟨_, rfl, wpAny_pure ⟨_, rfl, ?_⟩⟩
    exact key _ (by show (pairsOf [v]).map (·.2) = _; simp [pairsOf])
end

theorem insRank_get {α : Type} {A B : List α} {x : α} {i : Nat} (hi : i < A.length + B.length + 1) : (A ++ x :: B)[insRank (A.length + B.length + 1) A.length i]? = (A ++ B ++ [x])[i]? := by
  unfold insRank
  by_cases h1 : i + 1 = A.length + B.length + 1
  · rw [if_pos h1, List.getElem?_append_right (Nat.le_refl _), List.getElem?_append_right (by simp; lia)]
    simp [show i - (A.length + B.length) = 0 by lia]
  · rw [if_neg h1, List.getElem?_append_left (l₁ := A ++ B) (by simp; lia)]
    by_cases h2 : i < A.length
    · rw [if_pos h2, List.getElem?_append_left h2, List.getElem?_append_left h2]
    · rw [if_neg h2, List.getElem?_append_right (by lia), List.getElem?_append_right (by lia), show i + 1 - A.length = (i - A.length) + 1 by lia, List.getElem?_cons_succ]
theorem insRank_inj {n pos i j : Nat} (h : insRank n pos i = insRank n pos j) : i = j := by
  unfold insRank at h
  split at h <;> split at h <;> (try split at h) <;> (try split at h) <;> lia

theorem BDs.split {I : Led} : ∀ {A B : List D} {vs : List Value}, BDs I (A ++ B) vs → ∃ va vb, vs = va ++ vb ∧ BDs I A va ∧ BDs I B vb
  | [], _, vs, h => ⟨[], vs, rfl, .nil, h⟩
  | _ :: A, B, _, h => by
    obtain ⟨v, q, rfl, a, b⟩ := h.cons_inv
    obtain ⟨va, vb, rfl, ha, hb⟩ := b.split
    exact ⟨v :: va, vb, rfl, .cons a ha, hb⟩
theorem enc_at {I : Led} {ps : List (Int × Nat)} {vs : List Value} (h : BDs I (ps.map encP) vs) {i : Nat} {v : Value} (e : vs[i]? = some v) : ∃ f, ps[i]? = some f ∧ ∃ a t u, v = .ref a ∧ (a, tupObj [.int f.1 t, u]) ∈ I := by
  refine cps fun Zz zz => ?_
  obtain ⟨d, hd, bd⟩ := h.at e
  rw [List.getElem?_map] at hd
  obtain ⟨f, hf, rfl⟩ := Option.map_eq_some_iff.mp hd
  simp only [encP, BD] at bd
  obtain ⟨a, us, rfl, hm, bu⟩ := bd
  obtain ⟨v1, u1, rfl, p1, bu⟩ := bu.cons_inv
  obtain ⟨v2, u2, rfl, p2, bu⟩ := bu.cons_inv
  refine zz ?_
  cases bu.nil_inv
  refine cps fun Zz zz => ?_
  simp only [BD] at p1
  obtain ⟨t, rfl⟩ := p1
  refine zz ?_
  exact ⟨f, hf, a, t, v2, rfl, hm⟩
section
variable {prog : Program} {w : World} {A : Around} {E : Value → Shared → Prop} {s : Shared} {h₀ : Heap} {L : Addr} {m : Str → Option Value} {news : Led}
theorem sorted_pcs {sub : Led} {l : Addr} {vs : List Value} {nl : Nat} {PA PB : Pcs} {b : Int} {k : Nat} {Q : Value → Shared → Prop} (F : Fr h₀ L s.heap m) (N : News h₀ L s.heap news) (hm : (l, listOf vs.toArray nl) ∈ news)
    (hsub : ∀ p ∈ sub, p ∈ news) (hP : BDs sub ((PA ++ PB ++ [(b, k)]).map encP) vs) (pw : (PA ++ (b, k) :: PB).Pairwise SepR) (hn : PA.length + PB.length < 8)
    (h : ∀ D c h' us, Fr h₀ L h' m → News h₀ L h' ((D, listOf us.toArray c) :: news) → (∀ q ∈ news, @LT.lt Nat _ q.1 D) → BDs sub ((PA ++ (b, k) :: PB).map encP) us → Q (.ref D) { s with heap := h' }) :
    wpAny (model prog w) A (call (.builtin "sorted") [.ref l]) Q E s := by
  refine cps fun Zz zz => ?_
  have hl : s.heap.IsList l vs.toArray := News.isList N hm
  have hlen : vs.length = PA.length + PB.length + 1 := by have := hP.len; rw [List.length_map, List.length_append, List.length_append] at this; exact this
  have hP0 := hP
  rw [List.map_append, List.map_append] at hP
  obtain ⟨va, vx, hvs, ha, hx⟩ := hP.split
  obtain ⟨va1, vb, rfl, ha1, hb⟩ := ha.split
  obtain ⟨v, rfl, hv⟩ : ∃ v, vx = [v] ∧ BD sub (encP (b, k)) v := by
    obtain ⟨v, q, rfl, hv, hq⟩ := hx.cons_inv
    cases hq.nil_inv
    exact ⟨v, rfl, hv⟩
  have hout : BDs sub ((PA ++ (b, k) :: PB).map encP) (va1 ++ v :: vb) := by
    rw [List.map_append, List.map_cons]
    exact BDs.app (.cons hv hb) ha1
  refine zz ?_
  by_cases h2 : 2 ≤ vs.length
  · refine kat_sorted F N hl h2 (by lia) fun D e1 h' F' N' lt => ?_
    refine cps fun Zz zz => ?_
    obtain ⟨fs, k1, k2, k3⟩ := kat_of' (h := h') (fun p hp => (N' p (.tail _ (hsub p hp))).1) hP0
    refine zz ?_
    refine kat_kind (T := .type "int") k1 (by rw [k2, List.length_append]; exact Nat.succ_pos _) (fun f hf => ?_) rfl ?_
    · refine cps fun Zz zz => ?_
      obtain ⟨i, t, rfl⟩ := k3 f hf
      refine zz ?_
      exact Looks.of_pure rfl
    · refine cps fun Zz zz => ?_
      obtain ⟨p, hp, hpl⟩ := runO_ins (n := vs.length) (pos := PA.length) (by lia) h2 (by lia)
      refine zz ?_
      refine runO_wp (fun i j C hi hj hij hC => ?_) _ hp ?_
      · refine cps fun Zz zz => ?_
        obtain ⟨vi, hvi⟩ : ∃ v, vs[i]? = some v := ⟨vs[i], by simp [hi]⟩
        obtain ⟨vj, hvj⟩ : ∃ v, vs[j]? = some v := ⟨vs[j], by simp [hj]⟩
        obtain ⟨fi, hfi, ai, ti1, ui, rfl, hmi⟩ := enc_at hP0 hvi
        obtain ⟨fj, hfj, aj, tj1, uj, rfl, hmj⟩ := enc_at hP0 hvj
        have ei : vs.getD i Value.none = .ref ai := by simp [hvi]
        have ej : vs.getD j Value.none = .ref aj := by simp [hvj]
        refine zz ?_
        unfold kas_ask
        rw [ei, ej]
        have N'' : News h₀ L h' news := fun p hp => N' p (.tail _ hp)
        refine kat_lt (News.get N'' (hsub _ hmi)) rfl (News.get N'' (hsub _ hmj)) rfl ?_
        refine cps fun Zz zz => ?_
        have gi := insRank_get (A := PA) (B := PB) (x := (b, k)) (i := i) (by lia)
        have gj := insRank_get (A := PA) (B := PB) (x := (b, k)) (i := j) (by lia)
        rw [hfi] at gi
        rw [hfj] at gj
        rw [← hlen] at gi gj
        obtain ⟨hi1, hi2⟩ := List.getElem?_eq_some_iff.mp gi
        obtain ⟨hj1, hj2⟩ := List.getElem?_eq_some_iff.mp gj
        have hal : ∀ q r, q ∈ PA ++ (b, k) :: PB → SepR q r → q.1 < r.1 := fun q r _ hr => by
          have : q.1 + q.2 < r.1 := hr
          lia
        have hne : insRank vs.length PA.length i ≠ insRank vs.length PA.length j := fun e => hij (insRank_inj e)
        have hdec : decide (fi.1 < fj.1) = decide (insRank vs.length PA.length i < insRank vs.length PA.length j) ∧ fi.1 ≠ fj.1 := by
          rcases Nat.lt_or_ge (insRank vs.length PA.length i) (insRank vs.length PA.length j) with c | c
          · have := hal _ _ (List.getElem_mem hi1) (List.pairwise_iff_getElem.mp pw _ _ hi1 hj1 c)
            rw [hi2, hj2] at this
            exact ⟨by rw [decide_eq_true this, decide_eq_true c], by lia⟩
          · have c' : insRank vs.length PA.length j < insRank vs.length PA.length i := by lia
            have := hal _ _ (List.getElem_mem hj1) (List.pairwise_iff_getElem.mp pw _ _ hj1 hi1 c')
            rw [hi2, hj2] at this
            exact ⟨by rw [decide_eq_false (by lia), decide_eq_false (by lia)], by lia⟩
        refine zz ?_
        refine kat_cons (wpAny_eqBool_int ?_)
        rw [show (fi.1 == fj.1) = false from beq_eq_false_iff_ne.mpr hdec.2]
        refine kat_no ?_
        refine oneLt_int ?_
        rw [hdec.1]
        exact hC
      · refine KasFin.intro F' N' (.head fun q hq => Nat.ne_of_lt (lt q hq)) fun h'' c F'' N'' => ?_
        have eo : (p.toList.map fun i => vs.getD i Value.none) = va1 ++ v :: vb := by
          rw [hpl, hlen, hvs]
          rw [show PA.length = va1.length from (by rw [ha1.len, List.length_map]), show PB.length = vb.length from (by rw [hb.len, List.length_map])]
          exact insPerm_map _ _ _ _
        rw [eo] at N''
        exact h D c h'' _ F'' N'' lt hout
  · refine cps fun Zz zz => ?_
    have hA : PA = [] := List.eq_nil_of_length_eq_zero (by lia)
    have hB : PB = [] := List.eq_nil_of_length_eq_zero (by lia)
    subst hA hB
    have e1 : va1 = [] := ha1.nil_inv
    have e2 : vb = [] := hb.nil_inv
    subst e1 e2
    simp only [List.nil_append] at hvs
    subst hvs
    refine zz ?_
    exact sorted_one F N hl fun D c h' F' N' lt => h D c h' [v] F' N' lt hout
end
end
noncomputable section
section
variable {c : Cx} {n : Cn} {st : St} {k : V → St → Prop} {ku : Unit → St → Prop} {ex : Bool → Int → St → Prop} {va vb : Value} {a b : V}
theorem BVs.one {n : Cn} {x : V} {vs : List Value} (h : BVs n [x] vs) : ∃ v, vs = [v] ∧ BV n x v := by
  obtain ⟨v, q, rfl, h, e⟩ := h
  cases (show _ = _ from e)
  exact ⟨v, rfl, h⟩
theorem BVs.two {n : Cn} {x y : V} {vs : List Value} (h : BVs n [x, y] vs) : ∃ v u, vs = [v, u] ∧ BV n x v ∧ BV n y u := by
  obtain ⟨v, q, rfl, h, e⟩ := h
  obtain ⟨u, rfl, hu⟩ := e.one
  exact ⟨v, u, rfl, h, hu⟩
theorem lenL_sound {x : V} {v : Value} (h : lenL x st k) (hv : BV n x v) : WP c BV (call (.builtin "len") [v]) n st k ex := by
  refine cps fun Zz zz => ?_
  obtain ⟨ds, e, h⟩ := oM_use h
  refine zz ?_
  intro pins hp tk r
  refine cps fun Zz zz => ?_
  have r0 := r
  obtain ⟨g, m, MW, ML, Am, F, N, ND, RW, RL, RV⟩ := r
  refine lstOf_go (pins := pins) RW RL hv e fun l ws q u9 hd hz hm => ?_
  subst u9
  refine zz ?_
  exact KM.len_K N hm (by rw [List.size_toArray, hd.len]) (by omega) (Out.done r0 .refl .int' h)
theorem vcLen_sound {x : V} {v : Value} (h : vcLen x st k) (hv : BV n x v) : WP c BV (call (.builtin "len") [v]) n st k ex := by
  cases x with
  | d x =>
    cases x with
    | xs i =>
      obtain ⟨⟨x0, x1⟩, t, rfl⟩ := hv.xs
      refine fun pins hp tk r => len_bytes (by simp only [List.size_toArray, List.length_replicate]; omega) ?_
      rw [show (((xsB i.toNat).toArray.size : Nat) : Int) = i by rw [List.size_toArray, List.length_replicate]; lia]
      exact Out.done r .refl .int' h
    | by_ i =>
      obtain ⟨bs, t, rfl, e, x1⟩ := hv.by_
      refine fun pins hp tk r => len_bytes (by simp only [List.size_toArray]; omega) ?_
      rw [List.size_toArray, e]
      exact Out.done r .refl .int' h
    | lst l => exact lenL_sound (x := .d (.lst l)) h hv
    | _ => exact h.elim
  | g i => exact lenL_sound (x := .g i) h hv
  | l i => exact lenL_sound (x := .l i) h hv
  | _ => exact h.elim
theorem vcBi_sound (hh : c.hd = none) {f : Bi} {args : List V} {vals : List Value} (h : vcBi f args st k) (ha : BVs n args vals) : WP c BV (call f.val vals) n st k ex := by
  cases f with
  | len =>
    replace h := one1_use h
    obtain ⟨x, rfl, h⟩ := h
    obtain ⟨v, rfl, hv⟩ := ha.one
    exact vcLen_sound h hv
  | max =>
    replace h := two1_use h
    obtain ⟨x, y, rfl, h⟩ := h
    replace h := int2_use h
    obtain ⟨x, y, rfl, rfl, h⟩ := h
    obtain ⟨v, u, rfl, hv, hu⟩ := ha.two
    obtain ⟨t, rfl⟩ := hv.int
    obtain ⟨t2, rfl⟩ := hu.int
    intro pins hp tk r
    obtain ⟨g, m, MW, ML, Am, F, N, ND, RW, RL, RV⟩ := r
    refine max_two_N hh F N fun h' tk' F' N' => ?_
    rw [ite_max]
    exact Out.done ⟨g, m, MW, ML, Am, F', N', ND, RW, RL, RV⟩ .refl .int' h
  | min =>
    replace h := two1_use h
    obtain ⟨x, y, rfl, h⟩ := h
    replace h := int2_use h
    obtain ⟨x, y, rfl, rfl, h⟩ := h
    obtain ⟨v, u, rfl, hv, hu⟩ := ha.two
    obtain ⟨t, rfl⟩ := hv.int
    obtain ⟨t2, rfl⟩ := hu.int
    intro pins hp tk r
    obtain ⟨g, m, MW, ML, Am, F, N, ND, RW, RL, RV⟩ := r
    refine min_two_N hh F N fun h' tk' F' N' => ?_
    rw [ite_min]
    exact Out.done ⟨g, m, MW, ML, Am, F', N', ND, RW, RL, RV⟩ .refl .int' h
  | sorted =>
    replace h := one1_use h
    obtain ⟨x, rfl, h⟩ := h
    obtain ⟨v, rfl, hv⟩ := ha.one
    replace h := oM_use h
    obtain ⟨ds, e, PA, PB, b, m', rfl, pw, hn, h⟩ := h
    intro pins hp tk r
    obtain ⟨g, m, MW, ML, Am, F, N, ND, RW, RL, RV⟩ := r
    refine lstOf_go (pins := pins) RW RL hv e fun l ws q u9 hd hz hm => ?_
    subst u9
    refine sorted_pcs F N hm (fun p hp => mem4.mpr (.inr (.inr (.inl hp)))) hd pw hn fun D q' h' us F' N' lt hb => ?_
    obtain ⟨le', r', bv⟩ := Rel.newL Am F' N' ND (fun p hp => Nat.ne_of_lt (lt p hp)) RW RL RV hb (by simp only [List.length_map, List.length_append, List.length_cons]; lia)
    exact Out.done r' le' bv h
  | range => exact h.elim
  | list =>
    replace h := one1_use h
    obtain ⟨x, rfl, h⟩ := h
    obtain ⟨v, rfl, hv⟩ := ha.one
    obtain ⟨ds, e, h⟩ := oM_use h
    intro pins hp tk r
    obtain ⟨g, m, MW, ML, Am, F, N, ND, RW, RL, RV⟩ := r
    refine lstOf_go (pins := pins) RW RL hv e fun l ws q u9 hd hz hm => ?_
    subst u9
    refine list_copyK F N (News.isList N hm) (fun D q' h' F' N' lt => ?_) (by rw [List.size_toArray, hd.len, sizeLine_eq]; omega)
    obtain ⟨le', r', bv⟩ := Rel.newL Am F' N' ND (fun p hp => Nat.ne_of_lt (lt p hp)) RW RL RV hd hz
    exact Out.done r' le' bv h
  | bytes =>
    replace h := one1_use h
    obtain ⟨x, rfl, h⟩ := h
    obtain ⟨v, rfl, hv⟩ := ha.one
    replace h := dOf_use h
    obtain ⟨x, rfl, h⟩ := h
    cases x with
    | xs i =>
      obtain ⟨⟨x0, x1⟩, t, rfl⟩ := hv.xs
      exact fun pins hp tk r => bytes_of_bytes (Out.done r .refl (.xs' x0 x1) h)
    | by_ i =>
      obtain ⟨bs, t, rfl, e, x1⟩ := hv.by_
      exact fun pins hp tk r => bytes_of_bytes (Out.done r .refl (.by' e x1) h)
    | _ => exact h.elim
  | int =>
    replace h := one1_use h
    obtain ⟨x, rfl, h⟩ := h
    obtain ⟨v, rfl, hv⟩ := ha.one
    replace h := dOf_use h
    obtain ⟨x, rfl, h⟩ := h
    replace h := bOf_use h
    obtain ⟨bb, rfl, h⟩ := h
    cases hv.bool
    refine fun pins hp tk r => call_int_bool (Out.done r .refl ?_ h)
    cases bb <;> exact .int'
theorem setO_sound {x : V} {v : Value} {ds ds' : List D} {kk : St → Prop} (h : setO x ds' st kk) (e : lstOf st x = some ds) (nd : ∀ y, x ≠ .d y) (hv : BV n x v) {pins MW ML : Led} {g : Heap} {m : Str → Option Value} (Am : Amb c g) (ND : ((MW ++ (ML ++ (n.imm ++ pins))).map (·.1)).Nodup)
    (RW : Frs (RO c.w n) n.ga st.W MW) (RL : Frs (RLo n) n.la st.Lc ML) (RV : VarsOk c n pins m st.vars) (hz : ds'.length ≤ 4096) {Z : Prop} (kz : ∀ l ws q, v = .ref l → BDs n.imm ds ws → ds.length ≤ 4096 → (l, listOf (List.toArray ws) q) ∈ MW ++ (ML ++ (n.imm ++ pins)) → (∀ ws' q', BDs n.imm ds' ws' → ∃ news' st', kk st' ∧ Upd l (listOf ws.toArray q) (listOf (List.toArray ws') q') (MW ++ (ML ++ (n.imm ++ pins))) news' ∧ ∀ h', Fr g c.L h' m → News g c.L h' news' → Rel c pins n st' h') → Z) : Z := by
  cases x <;> first | exact absurd rfl (nd _) | exact False.elim h | skip
  case g i =>
    simp only [BV] at hv
    obtain ⟨l, ga, rfl⟩ := hv
    have hi : st.W[i]? = some (.lst ds) := by rw [← nth_eq]; exact gL_use e
    refine RW.lensG hi fun b1 f pre post e1 e2 u6 e4 => ?_
    subst u6
    rw [ga] at e1
    cases e1
    obtain ⟨ws, q, rfl, hd, hz0⟩ := e2
    have el : ∀ o', pre ++ ([(l, o')] ++ post) ++ (ML ++ (n.imm ++ pins)) = pre ++ (l, o') :: (post ++ (ML ++ (n.imm ++ pins))) := fun _ => by simp
    refine kz l ws q rfl hd hz0 (by simp) fun ws' q' hd' => ⟨pre ++ ([(l, listOf ws'.toArray q')] ++ post) ++ (ML ++ (n.imm ++ pins)), setW i (.lst ds') st, h, by rw [el, el]; exact upd_mid (el _ ▸ ND), fun h' F' N' => ?_⟩
    refine Rel.wr (A := pre) (B := post) (x' := .lst ds') (o := listOf ws.toArray q) (o' := listOf ws'.toArray q') (d := l) Am F' (by simpa using N') (by simpa using ND) ?_ RL RV
    have := e4 (.lst ds') [(l, listOf ws'.toArray q')] ⟨ws', q', rfl, hd', hz⟩
    simpa using this
  case l i =>
    simp only [BV] at hv
    obtain ⟨l, ga, rfl⟩ := hv
    have hi : st.Lc[i]? = some (some ds) := by rw [← nth_eq]; exact lL_use e
    refine RL.lensG hi fun b1 f pre post e1 e2 u6 e4 => ?_
    subst u6
    rw [ga] at e1
    cases e1
    obtain ⟨ws, q, rfl, hd, hz0⟩ := e2
    have el : ∀ o', MW ++ (pre ++ ([(l, o')] ++ post) ++ (n.imm ++ pins)) = (MW ++ pre) ++ (l, o') :: (post ++ (n.imm ++ pins)) := fun _ => by simp
    refine kz l ws q rfl hd hz0 (by simp) fun ws' q' hd' => ⟨MW ++ (pre ++ ([(l, listOf ws'.toArray q')] ++ post) ++ (n.imm ++ pins)), ⟨st.W, put st.Lc i (some ds'), st.vars⟩, h, by rw [el, el]; exact upd_mid (el _ ▸ ND), fun h' F' N' => ?_⟩
    have RL' := e4 (some ds') [(l, listOf ws'.toArray q')] ⟨ws', q', rfl, hd', hz⟩
    refine ⟨g, m, MW, _, Am, F', ?_, ?_, RW, by rw [put_eq]; exact RL', RV⟩
    · exact N'
    · rw [el]
      rw [el] at ND
      exact nd_mid ND
theorem not_d {x : V} {ds ds' : List D} {kk : St → Prop} (h : setO x ds' st kk) : ∀ y, x ≠ .d y := by
  rintro y rfl
  exact h.elim
theorem seq_str {a : Str} {b : Str} (h : seq a b = true) : a = b := seq_iff.mp h
theorem vcListM_sound {x : V} {v : Value} {ds : List D} {nm : Str} {vs : List V} {vals : List Value} {pl : Sem Bool} (h : vcListM x ds nm vs st k) (e : lstOf st x = some ds) (hv : BV n x v) (ha : BVs n vs vals) :
    (nm = Str.ofString "append" ∧ WP c BV (call (.builtin "list.append") ([v] ++ vals)) n st k ex) ∨ (nm = Str.ofString "pop" ∧ WP c BV (call (.builtin "list.pop") ([v] ++ vals)) n st k ex) := by
  refine cps fun Zz zz => ?_
  obtain ⟨y, rfl, h1⟩ := one1_use (l := vs) h
  clear h
  have h := h1
  clear h1
  obtain ⟨v1, rfl, hv1⟩ := ha.one
  refine zz ?_
  cases s : seq nm (Str.ofString "append") with
  | true =>
    rw [s] at h
    refine .inl ⟨seq_str s, fun pins hp tk r => ?_⟩
    refine cps fun Zz zz => ?_
    obtain ⟨d, st, n', le, r, hb, h⟩ := frz_sound (show frz y st _ from h) hv1 r
    obtain ⟨ds2, e2, hz, h⟩ := oM_use h
    obtain ⟨g, m, MW, ML, Am, F, N, ND, RW, RL, RV⟩ := r
    refine setO_sound h e2 (not_d (ds := ds2) h) (hv.mono le) Am ND RW RL RV (by rw [List.length_append]; simp; omega) fun l ws q u hd hz0 hm up => ?_
    subst u
    obtain ⟨news', st', hk, U, back⟩ := up (ws ++ [v1]) (q + 1) (BDs.app (.cons hb .nil) hd)
    refine zz ?_
    refine append_K (its := ws.toArray) (x := v1) F N (by rw [List.push_toArray]; exact U) (fun h' F' N' => Out.done (back h' F' N') le .none' hk) (by rw [List.size_toArray, hd.len, sizeLine_eq]; omega)
  | false =>
    refine cps fun Zz zz => ?_
    rw [s] at h
    obtain ⟨i, rfl, h2⟩ := int1_use (v := y) h
    obtain ⟨s, rfl, h3⟩ := orB_use h2
    clear h h2
    refine zz ?_
    refine .inr ⟨seq_str s, fun pins hp tk r => ?_⟩
    cases ds with
    | nil => exact h3.elim
    | cons y r0 =>
    refine cps fun Zz zz => ?_
    obtain ⟨t, rfl⟩ := hv1.int
    obtain ⟨g, m, MW, ML, Am, F, N, ND, RW, RL, RV⟩ := r
    have hz1 : r0.length ≤ 4096 := by
      refine lstOf_go (pins := pins) RW RL hv e fun l ws q _ _ hz _ => ?_
      exact Nat.le_of_succ_le hz
    refine setO_sound (kk := fun st => k (.d y) st) h3 e (not_d (ds := y :: r0) (kk := fun st => k (.d y) st) h3) hv Am ND RW RL RV hz1 fun l ws q u hd hz0 hm up => ?_
    subst u
    obtain ⟨u, ws', rfl, hy, hd'⟩ := hd.cons_inv
    obtain ⟨news', st', hk, U, back⟩ := up ws' (q + 1) hd'
    have l1 := hd'.len
    refine zz ?_
    refine kl_popAt (k := 0) (p := []) (q := ws') F N (by decide) (by simp [seqIndex?]) rfl U (by rw [sizeLine_eq]; simp; omega) fun h' F' N' => Out.done (back h' F' N') .refl (show BV n (.d y) u from hy) hk
theorem store_sound {G : GP} (hG : c.sc = G.sc) {x : Str} {v : V} {vv : Value} {kk : St → Prop} (h : storeV G x v st kk) (hv : BV n v vv) (hk : ∀ st, kk st → ku () st) : WP c RU (storeName c.env x vv) n st ku ex := by
  have key : okVar c.sc x = true → kk ⟨st.W, st.Lc, setV x v st.vars⟩ → WP c RU (storeName c.env x vv) n st ku ex := by
    intro ok h pins hp tk r
    obtain ⟨g, m, MW, ML, Am, F, N, ND, RW, RL, RV⟩ := r
    exact storeX_L F N (fun h' F' N' => Out.done (b := ()) (st := ⟨st.W, st.Lc, setV x v st.vars⟩) ⟨g, _, MW, ML, Am, F', N', ND, RW, RL, RV.store ok hv⟩ .refl trivial (hk _ h)) c.hk (okVar_use ok).1
  obtain ⟨ok, h⟩ := orB_use h
  rw [← hG] at ok
  cases e : boolV v with
  | none => rw [e] at h; exact key ok h
  | some b =>
    rw [e] at h
    cases boolV_use e
    cases b with
    | true => exact key ok h
    | false => exact key ok h
end
end
noncomputable section
theorem BVs.toNoL {n : Cn} : ∀ {vs : List V} {vals : List Value}, BVs n vs vals → noL vs = true → BVs n.noL vs vals
  | [], _, h, _ => h
  | v :: r, _, ⟨u, q, e, a, b⟩, h => by
    cases v <;> first | cases h | exact ⟨u, q, e, (by simpa only [BV] using a), b.toNoL h⟩
noncomputable def RT (_ : Cn) (v : V) (b : Bool) : Prop := v = .d (.bool b)
structure CallOk (c : Cx) (f : Addr) (T : CallT) : Prop where
  keep : keepIn c.K (.ref f) = true
  run : ∀ n st Vs vals k ex, BVs n.noL Vs vals → T Vs st.W (fun v W => k v ⟨W, st.Lc, st.vars⟩) (fun i W => ex false i ⟨W, st.Lc, st.vars⟩) → WP c BV (call (.ref f) vals) n st k ex
structure GOk (G : GP) (c : Cx) : Prop where
  sc : c.sc = G.sc
  hd : G.h = true → c.hd = none
  s : G.s = true → c.S = true ∧ c.A = c.A₀.deeper c.env
  glob : ∀ x v, G.glob x = some v → (x == ("__debug__" : Str)) = false ∧ ((∃ u, nsIn c.K mainGlobals x = some (some u) ∧ ∀ n, BV n v u) ∨ (∃ b, v = .bi b ∧ nsIn c.K mainGlobals x = some none ∧ bootBuiltins x = some b.val ∧ x ≠ "__name__"))
  meth : ∀ C a f, G.meth C a = some f → plainGet c.K C a = true ∧ findIn c.K (.ref C) a = some (some (.ref f)) ∧ isFn c.K (.ref f) = true
  okn : ∀ C x, G.okn C x = true → okA c.K C x = true
  call : ∀ f T, G.call f = some T → CallOk c f T
theorem isGlobN_use {sc : Scope} {x : Str} (h : isGlobN (kindN sc x) = true) : sc.names.lookup x = some .globalImplicit := by
  rw [kindN_eq] at h
  revert h
  cases sc.names.lookup x with
  | none => intro h; cases h
  | some k => cases k <;> intro h <;> first | rfl | cases h
theorem star_no {e : PySem.Expr} {rest : List PySem.Expr} {env : Env} (h : isStar e = false) : starEach (e :: rest) env = (false, eval e env) :: starEach rest env := by
  cases e <;> first | rfl | cases h
theorem back_no (pos : Pos) (env : Env) : ∀ rest : List PySem.Expr, rest.any isStar = false → ((backTo pos (starEach rest env)).any (·.1)) = false := by
  intro rest
  induction rest with
  | nil => intro _; rfl
  | cons e r ih =>
    intro h
    rw [List.any_cons, Bool.or_eq_false_iff] at h
    rw [star_no h.1]
    show (false || (backTo pos (starEach r env)).any (·.1)) = false
    rw [ih h.2]; rfl
theorem isNameE_use {e : PySem.Expr} (h : isNameE e = true) : ∃ x p, e = .Name x p :=
  PySem.Expr.Name.elim (motive_1 := fun e => ∃ x p, e = .Name x p) e (Nat.eq_of_beq_eq_true h) fun x p => ⟨x, p, rfl⟩
theorem mcall {o : PySem.Expr} {name : Str} {apos pos : Pos} {args : List PySem.Expr} {env : Env} (h : (plainO o && (Nat.ble args.length 20 && (!args.any isStar && Nat.beq apos.endLine pos.line))) = true) : ∃ pl, eval ((o.Attribute name apos).Call args [] pos) env = (do
          let ov ← eval o env
          standAt apos.atName
          let __x ← holding [ov] (getMethod ov name pl)
          match __x with
            | (f, first) => callWith pos f first (backTo pos (starEach args env)) []) := by
  simp only [Bool.and_eq_true, Bool.not_eq_true'] at h
  obtain ⟨h1, h2, h3, h4⟩ := h
  replace h4 : (apos.endLine == pos.line) = true := beq_iff_eq.mpr (Nat.eq_of_beq_eq_true h4)
  have e1 : eval ((o.Attribute name apos).Call args [] pos) env = (do
      let ov ← attributeBase o name env (eval o env)
      standAt apos.atName
      methodCall o name apos pos env ov (args.length + 0) (backTo pos (starEach args env)) []) := by with_unfolding_all rfl
  have e2 : attributeBase o name env (eval o env) = eval o env := by
    cases o <;> first | cases h1 | skip
    · obtain ⟨x, p, rfl⟩ := isNameE_use h1
      with_unfolding_all rfl
    · obtain ⟨x, p, rfl⟩ := isNameE_use h1
      with_unfolding_all rfl
    · with_unfolding_all rfl
  have e3 : methodCallForm (args.length + 0) (backTo pos (starEach args env)) [] = true := by
    have q := back_no pos env args h3
    have q2 : (backTo pos (starEach args env)).all (!·.1) = true := by
      rw [List.all_eq_true]
      intro x hx
      cases e : x.1 with
      | false => rfl
      | true => rw [List.any_eq_false] at q; exact absurd e (q x hx)
    have q3 := Nat.le_of_ble_eq_true h2
    unfold methodCallForm
    rw [q2]
    show decide (args.length + 0 + 0 < 30) = true
    exact decide_eq_true (by omega)
  refine ⟨(do return (← importBound o env).getD true), ?_⟩
  rw [e1, e2]
  unfold methodCall methodCallPos calleeOf
  rw [e3]
  rw [h4]
  rfl
theorem name_call {x : Str} {p pos : Pos} {args : List PySem.Expr} {env : Env} : eval ((PySem.Expr.Name x p).Call args [] pos) env = (do
          let __do_lift ← eval (PySem.Expr.Name x p) env
          callWith pos __do_lift [] (backTo pos (starEach args env)) (backToKw pos (keywordEach [] env))) := by with_unfolding_all rfl
theorem plain_t {e : PySem.Expr} {env : Env} {whole : Sem Value} (h : plainT e = true) : PySem.isTrue e env whole = (do
          let v ← whole
          standAt e.pos
          holding [v] (truthy v)) := by
  cases e <;> first | (with_unfolding_all rfl) | cases h
theorem attr_n {x attr : Str} {xp pos : Pos} {env : Env} : eval ((PySem.Expr.Name x xp).Attribute attr pos) env = (do
          let o ← eval (PySem.Expr.Name x xp) env
          standAt pos.atName
          let r ← holding [o] (getAttr o attr true)
          letTemporaryGo (PySem.Expr.Name x xp) o r
          pure r) := by with_unfolding_all rfl
theorem brB_use {v : V} {P Q : Prop} {b : Bool} (h : brB v P Q) (e : v = .d (.bool b)) : (b = true ∧ P) ∨ (b = false ∧ Q) := by
  subst e
  cases b with
  | true => exact .inl ⟨rfl, h⟩
  | false => exact .inr ⟨rfl, h⟩
theorem asB_use {v : V} {k : Bool → Prop} (h : asB v k) : ∃ b, v = .d (.bool b) ∧ k b := by
  obtain ⟨x, rfl, h⟩ := dOf_use h
  obtain ⟨b, rfl, h⟩ := bOf_use h
  exact ⟨b, rfl, h⟩
theorem brB_bool {v : V} {P Q : Prop} (h : brB v P Q) : ∃ b, v = .d (.bool b) ∧ ((b = true ∧ P) ∨ (b = false ∧ Q)) := by
  obtain ⟨x, rfl, h⟩ := dOf_use h
  obtain ⟨b, rfl, h⟩ := bOf_use h
  exact ⟨b, rfl, brB_use (v := .d (.bool b)) h rfl⟩
section
variable {c : Cx} {G : GP} {n : Cn} {st : St} {ex : Bool → Int → St → Prop}
theorem vcName_sound (ok : GOk G c) {k : V → St → Prop} {x : Str} {p : Pos} (h : nameX G x st k) : WP c BV (eval (.Name x p) c.env) n st k ex := by
  intro pins hp tk r
  obtain ⟨g, m, MW, ML, Am, F, N, ND, RW, RL, RV⟩ := r
  cases e : lk x st.vars with
  | some v =>
    unfold nameX at h
    rw [e] at h
    obtain ⟨u, hv, hd, hk⟩ := RV x v e
    rcases hk with ⟨h1, h2⟩ | ⟨h1, ca, o, h2, h3, h4⟩
    · exact nameX_L F h2 (Out.done ⟨g, m, MW, ML, Am, F, N, ND, RW, RL, RV⟩ .refl hv h) c.hk h1 hd
    · exact nameX_C N h2 (by simp [h3]) h4 (Out.done ⟨g, m, MW, ML, Am, F, N, ND, RW, RL, RV⟩ .refl hv h) c.hk h1 hd
  | none =>
    unfold nameX at h
    rw [e] at h
    obtain ⟨v, q, h⟩ := oM_use h
    · obtain ⟨h0, h⟩ := orB_use h
      rw [← ok.sc] at h0
      obtain ⟨hd, hg⟩ := ok.glob x v q
      rcases hg with ⟨u, h1, h2⟩ | ⟨b, rfl, h1, h2, h3⟩
      · exact nameX_K F Am.X (topRead_of Am.T) h1 (Out.done ⟨g, m, MW, ML, Am, F, N, ND, RW, RL, RV⟩ .refl (h2 n) h) c.hk (isGlobN_use h0) hd
      · exact nameX_B F Am.X (topRead_of Am.T) h1 h2 h3 (Out.done ⟨g, m, MW, ML, Am, F, N, ND, RW, RL, RV⟩ .refl (show BV n (.bi b) b.val from rfl) h) c.hk (isGlobN_use h0) hd
theorem vcL_sound {f : FX} (hf : ∀ e n st k, f e st k → WP c BV (eval e c.env) n st k ex) (pos : Pos) : ∀ (es : List PySem.Expr) (n : Cn) (st : St) (k : List V → St → Prop), es.any isStar = false → vcL f es st k → WP c BVs (spliced (backTo pos (starEach es c.env))) n st k ex := by
  intro es
  induction es with
  | nil => intro n st k _ h pins hp tk r; exact args_nil (Out.done r .refl .nil h)
  | cons e r ih =>
    intro n st k hs h pins hp tk rl
    rw [List.any_cons, Bool.or_eq_false_iff] at hs
    exact args_cons ((hf _ n _ _ h).use .refl rl fun n1 b v st1 h1 t1 l1 r1 bv q => (ih n1 _ _ hs.2 q).use l1 r1 fun n2 bs vs st2 h2 t2 l2 r2 bvs q => Out.done r2 (l1.trans l2) (.cons (bv.mono l2) bvs) q) (star_no hs.1)
theorem vcAndT_sound {f : FX} (hf : ∀ e n st k, f e st k → WP c RT (PySem.isTrue e c.env (eval e c.env)) n st k ex) {pos : Pos} {whole : Sem Value} : ∀ (es : List PySem.Expr) (n : Cn) (st : St) (k : V → St → Prop), vcAndT f es st k → WP c RT (PySem.isTrue (.BoolOp .And es pos) c.env whole) n st k ex := by
  intro es
  induction es with
  | nil => intro n st k h pins hp tk r; exact isTrue_and_nil (Out.done r .refl rfl h)
  | cons e r ih =>
    intro n st k h pins hp tk rl
    refine PyProof.Rows.isTrue_and ((hf _ n _ _ h).use .refl rl fun n1 b v st1 h1 t1 l1 r1 bv q => ?_)
    rcases brB_use q bv with ⟨rfl, q⟩ | ⟨rfl, q⟩
    · rw [if_pos rfl]; exact (ih n1 _ _ q).go l1 r1
    · rw [if_neg Bool.false_ne_true]; exact Out.done r1 l1 rfl q
theorem vcOrT_sound {f : FX} (hf : ∀ e n st k, f e st k → WP c RT (PySem.isTrue e c.env (eval e c.env)) n st k ex) {pos : Pos} {whole : Sem Value} : ∀ (es : List PySem.Expr) (n : Cn) (st : St) (k : V → St → Prop), vcOrT f es st k → WP c RT (PySem.isTrue (.BoolOp .Or es pos) c.env whole) n st k ex := by
  intro es
  induction es with
  | nil => intro n st k h pins hp tk r; exact isTrue_or_nil (Out.done r .refl rfl h)
  | cons e r ih =>
    intro n st k h pins hp tk rl
    refine PyProof.Rows.isTrue_or ((hf _ n _ _ h).use .refl rl fun n1 b v st1 h1 t1 l1 r1 bv q => ?_)
    rcases brB_use q bv with ⟨rfl, q⟩ | ⟨rfl, q⟩
    · rw [if_pos rfl]; exact Out.done r1 l1 rfl q
    · rw [if_neg Bool.false_ne_true]; exact (ih n1 _ _ q).go l1 r1
theorem vcAndV_sound {f : FX} (hf : ∀ e n st k, f e st k → WP c BV (eval e c.env) n st k ex) {pos : Pos} : ∀ (es : List PySem.Expr) (n : Cn) (st : St) (k : V → St → Prop), vcAndV f es st k → WP c BV (eval (.BoolOp .And es pos) c.env) n st k ex
  | [], _, _, _, h => h.elim
  | [e], n, st, k, h => fun pins hp tk r => BoolOp_one (hf _ n _ _ h pins hp tk r)
  | e :: e2 :: r, n, st, k, h => fun pins hp tk rl => by
    refine BoolOp_and ((hf _ n _ _ h).use .refl rl fun n1 b v st1 h1 t1 l1 r1 bv q => ?_)
    obtain ⟨b, rfl, q⟩ := brB_bool q
    rw [bv.bool] at *
    refine wpAny_truthy_bool ?_
    rcases q with ⟨rfl, q⟩ | ⟨rfl, q⟩
    · rw [if_pos rfl]; exact (vcAndV_sound hf _ n1 _ _ q).go l1 r1
    · rw [if_neg Bool.false_ne_true]; exact Out.done r1 l1 BV.bool' q
theorem vcOrV_sound {f : FX} (hf : ∀ e n st k, f e st k → WP c BV (eval e c.env) n st k ex) {pos : Pos} : ∀ (es : List PySem.Expr) (n : Cn) (st : St) (k : V → St → Prop), vcOrV f es st k → WP c BV (eval (.BoolOp .Or es pos) c.env) n st k ex
  | [], _, _, _, h => h.elim
  | [e], n, st, k, h => fun pins hp tk r => BoolOp_one (hf _ n _ _ h pins hp tk r)
  | e :: e2 :: r, n, st, k, h => fun pins hp tk rl => by
    refine BoolOp_or ((hf _ n _ _ h).use .refl rl fun n1 b v st1 h1 t1 l1 r1 bv q => ?_)
    obtain ⟨b, rfl, q⟩ := brB_bool q
    rw [bv.bool] at *
    refine wpAny_truthy_bool ?_
    rcases q with ⟨rfl, q⟩ | ⟨rfl, q⟩
    · rw [if_pos rfl]; exact Out.done r1 l1 BV.bool' q
    · rw [if_neg Bool.false_ne_true]; exact (vcOrV_sound hf _ n1 _ _ q).go l1 r1
theorem callT_sound (ok : GOk G c) {f : Addr} {vs : List V} {vals : List Value} {k : V → St → Prop} (h : callT G ex f vs st k) (hb : BVs n vs vals) : WP c BV (call (.ref f) vals) n st k ex := by
  unfold callT at h
  cases e : G.call f with
  | none => rw [e] at h; exact h.elim
  | some T =>
    rw [e] at h
    obtain ⟨h0, h⟩ := orB_use h
    exact (ok.call f T e).run n st vs vals k ex (hb.toNoL h0) h
theorem callRef_sound (ok : GOk G c) {f : FX} (hf : ∀ e n st k, f e st k → WP c BV (eval e c.env) n st k ex) {p : Pos} {a : Addr} {fs : List V} {first : List Value} {args : List PySem.Expr} {k : V → St → Prop} (hk : okFv G (.top a) = true) (hs : args.any isStar = false) (hb : BVs n fs first)
    (h : vcL f args st fun vs st => callT G ex a (fs ++ vs) st k) : WP c BV (callWith p (.ref a) first (backTo p (starEach args c.env)) []) n st k ex := by
  have hk' : keepIn c.K (.ref a) = true := by
    replace hk : (G.call a).isSome = true := hk
    cases e : G.call a with
    | none => rw [e] at hk; cases hk
    | some T => exact (ok.call a T e).keep
  intro pins hp tk r
  cases args with
  | nil => exact callWith_K0 (by obtain ⟨g, m, MW, ML, Am, F, N, ND, RW, RL, RV⟩ := r; exact Am.X.keeps F.keep) hk' (callT_sound ok (vals := first ++ []) h (BVs.app .nil hb) pins hp tk r)
  | cons e r' =>
    have hs' := hs
    rw [List.any_cons, Bool.or_eq_false_iff] at hs'
    obtain ⟨g, hX⟩ : ∃ g, c.K.In g := by obtain ⟨g, m, MW, ML, Am, F, N, ND, RW, RL, RV⟩ := r; exact ⟨g, Am.X⟩
    refine callWith_K hX hk' ((vcL_sound hf p _ n _ _ hs h).use .refl r fun n1 vs vals st1 h1 t1 l1 r1 bv q => ⟨?_, ?_⟩) (star_no hs'.1) (back_no _ _ _ hs'.2)
    · obtain ⟨g, m, MW, ML, Am, F, N, ND, RW, RL, RV⟩ := r1; exact Am.X.keeps F.keep
    · exact (callT_sound ok q (BVs.app bv (hb.mono l1))).go l1 r1
theorem Bi.form (b : Bi) : (∃ id, b.val = .builtin id) ∨ ∃ T, b.val = .type T := by
  cases b
  case range => exact .inr ⟨_, rfl⟩
  case list => exact .inr ⟨_, rfl⟩
  case bytes => exact .inr ⟨_, rfl⟩
  case int => exact .inr ⟨_, rfl⟩
  all_goals exact .inl ⟨_, rfl⟩
theorem callBi_sound (ok : GOk G c) {f : FX} (hf : ∀ e n st k, f e st k → WP c BV (eval e c.env) n st k ex) {p : Pos} {b : Bi} {args : List PySem.Expr} {k : V → St → Prop} (hh : G.h = true) (hs : args.any isStar = false)
    (h : vcL f args st fun vs st => vcBi b vs st k) : WP c BV (callWith p b.val [] (backTo p (starEach args c.env)) []) n st k ex := by
  have hd := ok.hd hh
  intro pins hp tk r
  cases args with
  | nil =>
    have := vcBi_sound (ex := ex) hd (vals := []) h .nil pins hp tk r
    rcases b.form with ⟨id, e⟩ | ⟨T, e⟩
    · rw [e] at this ⊢; exact callWith_method0 this
    · rw [e] at this ⊢; exact callWith_type0 this
  | cons e r' =>
    have hs' := hs
    rw [List.any_cons, Bool.or_eq_false_iff] at hs'
    have := (vcL_sound hf p _ n _ _ hs h).use (tk := tk) .refl r (Q := fun vs s₁ => wpAny c.M c.A (call b.val vs) (Out c pins BV n k) (XOut c pins n ex) s₁) fun n1 vs vals st1 h1 t1 l1 r1 bv q => (vcBi_sound hd q bv).go l1 r1
    rcases b.form with ⟨id, e⟩ | ⟨T, e⟩
    · rw [e] at this ⊢; exact callWith_method1 (first := []) this (star_no hs'.1) (back_no _ _ _ hs'.2)
    · rw [e] at this ⊢; exact PyProof.Rows.callWith_type1 this (star_no hs'.1) (back_no _ _ _ hs'.2)
theorem vcCall_sound (ok : GOk G c) {f : FX} (hf : ∀ e n st k, f e st k → WP c BV (eval e c.env) n st k ex) {p : Pos} {fv : V} {v : Value} {args : List PySem.Expr} {k : V → St → Prop} (hs : args.any isStar = false) (hv : BV n fv v)
    (h : orB (okFv G fv) (vcL f args st fun vs st => vcCall G ex fv vs st k) False) : WP c BV (callWith p v [] (backTo p (starEach args c.env)) []) n st k ex := by
  obtain ⟨h0, h⟩ := orB_use h
  cases fv with
  | top a =>
    have hv' : v = .ref a := hv
    rw [hv']
    exact callRef_sound ok hf h0 hs .nil h
  | bi b =>
    have hv : v = b.val := hv
    have e : G.h = true := h0
    rw [hv]
    refine callBi_sound ok hf h0 hs ?_
    have q : ∀ vs st, vcCall G ex (.bi b) vs st k = vcBi b vs st k := fun vs st => by
      show orB G.h _ False = _
      rw [e]; rfl
    have q2 : (fun vs st => vcCall G ex (.bi b) vs st k) = fun vs st => vcBi b vs st k := funext fun vs => funext fun st => q vs st
    rw [q2] at h
    exact h
  | d x => cases h0
  | g i => cases h0
  | l i => cases h0
  | exc i => cases h0
theorem methI_sound (ok : GOk G c) {i : Nat} {C f : Addr} {fs : List (Str × D)} {a : Str} {v : Value} {pl : Sem Bool} (hw : nth st.W i = some (.inst C fs)) (hl : lk a fs = none) (hm : G.meth C a = some f) (hv : BV n (.g i) v)
    {Q : Value × List Value → Shared → Prop} {E : Value → Shared → Prop} {pins : Led} {hp : Heap} {tk : Nat} (r : Rel c pins n st hp) (hQ : Q (.ref f, [v]) (c.at_ hp tk)) : wpAny c.M c.A (getMethod v a pl) Q E (c.at_ hp tk) := by
  refine cps fun Zz zz => ?_
  obtain ⟨g, m, MW, ML, Am, F, N, ND, RW, RL, RV⟩ := r
  obtain ⟨a1, ga, rfl⟩ := (show ∃ a, n.ga[i]? = some a ∧ v = .ref a from hv)
  rw [nth_eq] at hw
  refine RW.lensG hw fun b1 f1 pre post e1 e2 u6 e4 => ?_
  subst u6
  rw [ga] at e1
  cases e1
  obtain ⟨d, es, mm, rfl, hes, hC, hz⟩ := e2
  obtain ⟨m1, m2, m3⟩ := ok.meth C a f hm
  have X := Am.X
  refine zz ?_
  exact method_inst F X ⟨(N (a1, instObj C d) (by simp)).1, rfl, rfl, (N (d, dictOf es mm) (by simp)).1⟩ m1 m2 m3 (hes.miss hl) hQ
theorem methL_sound {ov : V} {ds : List D} {a : Str} {v : Value} {pl : Sem Bool} (e : lstOf st ov = some ds) (hv : BV n ov v) (ha : isMethN a = true)
    {Q : Value × List Value → Shared → Prop} {E : Value → Shared → Prop} {pins : Led} {hp : Heap} {tk : Nat} (r : Rel c pins n st hp) (hQ : ∀ id, (a = Str.ofString "append" ∧ id = "list.append") ∨ (a = Str.ofString "pop" ∧ id = "list.pop") → Q (.builtin id, [v]) (c.at_ hp tk)) : wpAny c.M c.A (getMethod v a pl) Q E (c.at_ hp tk) := by
  obtain ⟨g, m, MW, ML, Am, F, N, ND, RW, RL, RV⟩ := r
  refine lstOf_go (pins := pins) RW RL hv e fun l ws q u9 h1 h2 h3 => ?_
  subst u9
  unfold isMethN at ha
  rw [Bool.or_eq_true, seq_iff, seq_iff] at ha
  rcases ha with rfl | rfl
  · exact listMethod_K N h3 PySem.F.slot_list_append PySem.F.type_list_append (hQ _ (.inl ⟨rfl, rfl⟩))
  · exact listMethod_K N h3 PySem.F.slot_list_pop PySem.F.type_list_pop (hQ _ (.inr ⟨rfl, rfl⟩))
theorem listM_sound {f : FX} (hf : ∀ e n st k, f e st k → WP c BV (eval e c.env) n st k ex) {p : Pos} {ov : V} {v : Value} {a : Str} {id : String} {args : List PySem.Expr} {k : V → St → Prop} (hs : args.any isStar = false) (hv : BV n ov v)
    (hid : (a = Str.ofString "append" ∧ id = "list.append") ∨ (a = Str.ofString "pop" ∧ id = "list.pop")) (h : vcL f args st fun vs st => vcLM ov a vs st k) : WP c BV (callWith p (.builtin id) [v] (backTo p (starEach args c.env)) []) n st k ex := by
  have key : ∀ n1 vs vals st1, n.Le n1 → BVs n1 vs vals → vcLM ov a vs st1 k → WP c BV (call (.builtin id) ([v] ++ vals)) n1 st1 k ex := by
    intro n1 vs vals st1 l1 bv q
    obtain ⟨ds, e, q⟩ := oM_use q
    · rcases hid with ⟨rfl, rfl⟩ | ⟨rfl, rfl⟩
      · rcases vcListM_sound (pl := pure true) q e (hv.mono l1) bv with ⟨_, w⟩ | ⟨e, _⟩
        · exact w
        · exact absurd e (by decide)
      · rcases vcListM_sound (pl := pure true) q e (hv.mono l1) bv with ⟨e, _⟩ | ⟨_, w⟩
        · exact absurd e (by decide)
        · exact w
  intro pins hp tk r
  cases args with
  | nil => exact callWith_method0 (by have := key n [] [] st .refl .nil h pins hp tk r; rwa [List.append_nil] at this)
  | cons e r' =>
    have hs' := hs
    rw [List.any_cons, Bool.or_eq_false_iff] at hs'
    exact callWith_method1 ((vcL_sound hf p _ n _ _ hs h).use .refl r fun n1 vs vals st1 h1 t1 l1 r1 bv q => (key n1 vs vals st1 l1 bv q).go l1 r1) (star_no hs'.1) (back_no _ _ _ hs'.2)
end
end
noncomputable section
section
variable {c : Cx} {n : Cn} {st : St} {ex : Bool → Int → St → Prop}
theorem Rel.newW {pins : Led} {g : Heap} {m : Str → Option Value} {MW ML : Led} {h' : Heap} {a : Addr} {o : Obj} {x : AObj} (Am : Amb c g) (F : Fr g c.L h' m) (N : News g c.L h' ((a, o) :: (MW ++ (ML ++ (n.imm ++ pins)))))
    (ND : ((MW ++ (ML ++ (n.imm ++ pins))).map (·.1)).Nodup) (lt : ∀ p ∈ MW ++ (ML ++ (n.imm ++ pins)), p.1 ≠ a) (RW : Frs (RO c.w n) n.ga st.W MW) (RL : Frs (RLo n) n.la st.Lc ML) (RV : VarsOk c n pins m st.vars)
    (hx : RO c.w ⟨n.ga ++ [a], n.la, n.imm⟩ a x [(a, o)]) :
    n.Le ⟨n.ga ++ [a], n.la, n.imm⟩ ∧ Rel c pins ⟨n.ga ++ [a], n.la, n.imm⟩ ⟨st.W ++ [x], st.Lc, st.vars⟩ h' ∧ BV ⟨n.ga ++ [a], n.la, n.imm⟩ (.g (lnth st.W)) (.ref a) := by
  have le : n.Le ⟨n.ga ++ [a], n.la, n.imm⟩ := ⟨fun i b h => by
    show (n.ga ++ [a])[i]? = some b
    rw [List.getElem?_append_left (List.getElem?_eq_some_iff.mp h).1]; exact h, fun _ _ h => h, fun p hp => hp⟩
  have RW' : Frs (RO c.w ⟨n.ga ++ [a], n.la, n.imm⟩) (n.ga ++ [a]) (st.W ++ [x]) (MW ++ [(a, o)]) := (RW.mono fun _ _ _ => RO.mono le).snoc hx
  refine ⟨le, ⟨g, m, _, ML, Am, F, news_sub N fun p hp => ?_, ?_, RW', RL.mono fun _ _ _ => RLo.mono le, RV.mono le⟩, a, ?_, rfl⟩
  · simp only [List.mem_append, List.mem_cons, List.not_mem_nil, or_false] at hp ⊢
    rcases hp with (h | h) | h | h | h <;> simp [h]
  · have : (((a, o) :: (MW ++ (ML ++ (n.imm ++ pins)))).map (·.1)).Nodup := by
      rw [List.map_cons, List.nodup_cons]
      refine ⟨fun h => ?_, ND⟩
      obtain ⟨p, hp, e⟩ := List.mem_map.mp h
      exact lt p hp e
    refine (List.Perm.nodup_iff (List.Perm.map _ ?_)).mp this
    show ((a, o) :: (MW ++ (ML ++ (n.imm ++ pins)))).Perm ((MW ++ [(a, o)]) ++ (ML ++ (n.imm ++ pins)))
    rw [List.append_assoc, List.singleton_append]
    exact List.perm_middle.symm
  · show (n.ga ++ [a])[lnth st.W]? = some a
    rw [lnth_eq, ← RW.len]
    simp
theorem dispV_sound {v : V} {val : Value} {kv : V → St → Prop} (h : dispV v st kv) (hv : BV n v val) {pins : Led} {hp : Heap} (r : Rel c pins n st hp) : ∃ v' st' n', n.Le n' ∧ Rel c pins n' st' hp ∧ BV n'.noL v' val ∧ kv v' st' := by
  cases v with
  | l i =>
    obtain ⟨g, m, MW, ML, Am, F, N, ND, RW, RL, RV⟩ := r
    simp only [dispV] at h
    rw [nth_eq] at h
    cases e : st.Lc[i]? with
    | none => rw [e] at h; exact h.elim
    | some o =>
      rw [e] at h
      cases o with
      | none => exact h.elim
      | some ds =>
        obtain ⟨a1, la, rfl⟩ := (show ∃ a, n.la[i]? = some a ∧ val = .ref a from hv)
        refine RL.lensG e fun b1 f pre post e1 e2 u6 e4 => ?_
        subst u6
        rw [la] at e1
        cases e1
        obtain ⟨ws, mm, rfl, hd, hz⟩ := e2
        have le : n.Le ⟨n.ga ++ [a1], n.la, n.imm⟩ := ⟨fun i b h => by
          show (n.ga ++ [a1])[i]? = some b
          rw [List.getElem?_append_left (List.getElem?_eq_some_iff.mp h).1]; exact h, fun _ _ h => h, fun p hp => hp⟩
        have RW' : Frs (RO c.w ⟨n.ga ++ [a1], n.la, n.imm⟩) (n.ga ++ [a1]) (st.W ++ [.lst ds]) (MW ++ [(a1, listOf (List.toArray ws) mm)]) := (RW.mono fun _ _ _ => RO.mono le).snoc ⟨ws, mm, rfl, hd, hz⟩
        have RL' := e4 none [] rfl
        refine ⟨.g (lnth st.W), ⟨st.W ++ [AObj.lst ds], put st.Lc i none, st.vars⟩, ⟨n.ga ++ [a1], n.la, n.imm⟩, le, ⟨g, m, _, pre ++ ([] ++ post), Am, F, news_sub N fun p hp => ?_, ?_, RW', ?_, RV.mono le⟩, ⟨a1, ?_, rfl⟩, h⟩
        · simp only [List.mem_append, List.mem_cons, List.not_mem_nil, or_false, false_or] at hp ⊢
          rcases hp with (h | h) | (h | h) | h | h <;> simp [h]
        · refine (List.Perm.nodup_iff (List.Perm.map _ ?_)).mp ND
          show (MW ++ (pre ++ ([(a1, listOf (List.toArray ws) mm)] ++ post) ++ (n.imm ++ pins))).Perm ((MW ++ [(a1, listOf (List.toArray ws) mm)]) ++ (pre ++ ([] ++ post) ++ (n.imm ++ pins)))
          rw [List.nil_append, List.append_assoc MW]
          refine List.Perm.append_left MW ?_
          rw [List.singleton_append, List.append_assoc, List.cons_append, List.singleton_append, List.append_assoc]
          exact List.perm_middle
        · show Frs _ n.la (put st.Lc i none) _
          rw [put_eq]
          exact RL'.mono fun _ _ _ => RLo.mono le
        · show (n.ga ++ [a1])[lnth st.W]? = some a1
          rw [lnth_eq, ← RW.len]
          simp
  | d x => exact ⟨_, _, n, .refl, r, by simpa only [BV] using hv, h⟩
  | g x => exact ⟨_, _, n, .refl, r, by simpa only [BV] using hv, h⟩
  | top x => exact ⟨_, _, n, .refl, r, by simpa only [BV] using hv, h⟩
  | bi x => exact ⟨_, _, n, .refl, r, by simpa only [BV] using hv, h⟩
  | exc x => exact ⟨_, _, n, .refl, r, by simpa only [BV] using hv, h⟩
theorem VarsOk.drop {pins : Led} {m : Str → Option Value} {vars : List (Str × V)} {d : Addr} {o : Obj} (ho : ∀ v, o.data ≠ .cell v) (h : VarsOk c n ((d, o) :: pins) m vars) : VarsOk c n pins m vars := fun x y e => by
  obtain ⟨v, a, b, q⟩ := h x y e
  refine ⟨v, a, b, q.imp id fun ⟨u1, ca, o', u2, u3, u4⟩ => ⟨u1, ca, o', u2, ?_, u4⟩⟩
  rcases List.mem_cons.mp u3 with e | u3
  · cases e; exact absurd u4 (ho _)
  · exact u3
theorem drop_sub {A B C pins : Led} {x : Addr × Obj} : ∀ p ∈ A ++ (B ++ (C ++ pins)), p ∈ A ++ (B ++ (C ++ (x :: pins))) := fun p hp => by
  simp only [List.mem_append, List.mem_cons] at hp ⊢
  rcases hp with h | h | h | h <;> simp [h]
theorem drop_nd {A B C pins : Led} {x : Addr × Obj} (h : ((A ++ (B ++ (C ++ (x :: pins)))).map (·.1)).Nodup) : ((A ++ (B ++ (C ++ pins))).map (·.1)).Nodup := by
  refine List.Nodup.sublist (List.Sublist.map _ ?_) h
  exact List.Sublist.append (List.Sublist.refl _) (List.Sublist.append (List.Sublist.refl _) (List.Sublist.append (List.Sublist.refl _) (List.sublist_cons_self _ _)))
theorem XOut.drop {pins : Led} {d : Addr} {o : Obj} (ho : ∀ v, o.data ≠ .cell v) {v : Value} {s : Shared} (x : XOut c ((d, o) :: pins) n ex v s) : XOut c pins n ex v s := by
  cases x with
  | first n' st code h tk e d t od g m MW ML le Am F N ND hx RW RL q =>
    refine .first n' st code h tk e d t od g m MW ML le Am F (news_sub N fun p hp => ?_) ?_ hx RW RL q
    · rcases List.mem_cons.mp hp with rfl | hp
      · exact .head _
      · rcases List.mem_cons.mp hp with rfl | hp
        · exact .tail _ (.head _)
        · exact .tail _ (.tail _ (drop_sub p hp))
    · refine List.Nodup.sublist (List.Sublist.map _ ?_) ND
      exact .cons_cons _ (.cons_cons _ (List.Sublist.append (List.Sublist.refl _) (List.Sublist.append (List.Sublist.refl _) (List.Sublist.append (List.Sublist.refl _) (List.sublist_cons_self _ _)))))
  | on n' st code h tk e d t od g G m MW ML le Am F R us ND hx RW RL RV q =>
    obtain ⟨B, hB, hBG, hl, hfl⟩ := R
    refine .on n' st code h tk e d t od g G m MW ML le Am F ⟨B, hB, hBG, fun q hq => hl q ?_, hfl⟩ us ?_ hx RW RL (RV.drop ho) q
    · rcases List.mem_cons.mp hq with rfl | hp
      · exact .head _
      · exact .tail _ (drop_sub _ hp)
    · refine List.Nodup.sublist (List.Sublist.map _ ?_) ND
      exact .cons_cons _ (.cons_cons _ (List.Sublist.append (List.Sublist.refl _) (List.Sublist.append (List.Sublist.refl _) (List.Sublist.append (List.Sublist.refl _) (List.sublist_cons_self _ _)))))
noncomputable def RKv (xs : List Str) (n : Cn) (kvs : List (Str × V)) (vs : List (Value × Value)) : Prop := KvOk n.noL kvs (strPairs vs) ∧ allStrKeys vs = true ∧ kvs.map (·.1) = xs
theorem vcD_sound {f : FX} (hf : ∀ e n st k, f e st k → WP c BV (eval e c.env) n st k ex) {pos : Pos} : ∀ (ks : List (Option PySem.Expr)) (es : List PySem.Expr) (n : Cn) (st : St) (k : List (Str × V) → St → Prop) (xs : List Str), keyNames ks = some xs → ks.length = es.length → vcD f ks es st k →
    WP c (RKv xs) (evalPairs (pairTrees ks es c.env pos)) n st k ex
  | [], [], n, st, k, xs, hx, _, h => fun pins hp tk r => by
    cases hx
    exact pairTrees_nil_walk (Out.done r .refl (b := []) ⟨rfl, rfl, rfl⟩ h)
  | [], _ :: _, _, _, _, _, _, hl, _ => by cases hl
  | _ :: _, [], _, _, _, _, _, hl, _ => by cases hl
  | k1 :: ks, e :: es, n, st, k, xs, hx, hl, h => fun pins hp tk r => by
    refine cps fun Zz zz => ?_
    obtain ⟨x, j, p, xs', rfl, q, rfl⟩ := keyNames_cons hx
    have h1 : f e st fun v st => vcD f ks es st fun vs st => dispV v st fun v st => k ((x, v) :: vs) st := h
    refine zz ?_
    refine pairTrees_cons_walk (Constant_str ?_)
    refine (hf _ n _ _ h1).use .refl r fun n1 b v st1 h1 t1 l1 r1 bv q1 => ?_
    refine (vcD_sound hf ks es n1 _ _ xs' q (Nat.succ.inj hl) q1).use l1 r1 fun n2 kvs vs st2 h2 t2 l2 r2 bvs q2 => ?_
    refine cps fun Zz zz => ?_
    obtain ⟨v', st3, n3, l3, r3, bv3, q3⟩ := dispV_sound q2 (bv.mono l2) r2
    refine zz ?_
    exact Out.done r3 ((l1.trans l2).trans l3) (b := (x, v') :: kvs) ⟨⟨v, _, rfl, bv3, bvs.1.mono l3.noL⟩, bvs.2.1, by rw [List.map_cons, bvs.2.2]⟩ q3
theorem distS_nodup : ∀ {l : List Str}, distS l = true → l.Nodup
  | [], _ => List.nodup_nil
  | x :: r, h => by
    unfold distS at h
    rw [Bool.and_eq_true, Bool.not_eq_true'] at h
    have key : ∀ l : List Str, memS x l = false → x ∉ l := by
      intro l
      induction l with
      | nil => intro _ hm; cases hm
      | cons y q ih =>
        intro e hm
        unfold memS at e
        rw [Bool.or_eq_false_iff] at e
        rcases List.mem_cons.mp hm with rfl | hm
        · rw [seq_iff.mpr rfl] at e; cases e.1
        · exact ih e.2 hm
    exact List.nodup_cons.mpr ⟨key r h.1, distS_nodup h.2⟩
theorem keyNames_some : ∀ {ks : List (Option PySem.Expr)} {xs : List Str}, keyNames ks = some xs → ks.all (·.isSome) = true ∧ strLits ks = true
  | [], _, _ => ⟨rfl, rfl⟩
  | k1 :: ks, xs, h => by
    obtain ⟨x, j, p, l, rfl, q, rfl⟩ := keyNames_cons h
    obtain ⟨a, b⟩ := keyNames_some q
    exact ⟨by rw [List.all_cons, a]; rfl, b⟩
theorem dict_sound {f : FX} (hf : ∀ e n st k, f e st k → WP c BV (eval e c.env) n st k ex) {pos : Pos} {ks : List (Option PySem.Expr)} {es : List PySem.Expr} {k : V → St → Prop} (h0 : (okKeys ks && Nat.beq (lnth ks) (lnth es)) = true) (hne : ks ≠ [])
    (h : vcD f ks es st fun kvs st => k (.g (lnth st.W)) ⟨st.W ++ [.sdict kvs], st.Lc, st.vars⟩) : WP c BV (eval (.Dict ks es pos) c.env) n st k ex := by
  rw [Bool.and_eq_true] at h0
  obtain ⟨h1, h2⟩ := h0
  replace h2 := Nat.eq_of_beq_eq_true h2
  rw [lnth_eq, lnth_eq] at h2
  unfold okKeys at h1
  cases q : keyNames ks with
  | none => rw [q] at h1; cases h1
  | some xs =>
    rw [q] at h1
    replace h1 : (distS xs && Nat.ble (lnth ks) 15) = true := h1
    rw [Bool.and_eq_true] at h1
    obtain ⟨h3, h4⟩ := h1
    replace h4 := Nat.le_of_ble_eq_true h4
    rw [lnth_eq] at h4
    intro pins hp tk r
    obtain ⟨g, m, MW, ML, Am, F, N, ND, RW, RL, RV⟩ := r
    refine Dict_made_str (keyNames_some q).2 F (keyNames_some q).1 h2 hne h4 fun F1 => ?_
    have N1 := News.push F N { cls := .type "dict", data := .dict #[] }
    have lt : ∀ p ∈ MW ++ (ML ++ (n.imm ++ pins)), p.1 ≠ hp.objs.size := fun p hm => Nat.ne_of_lt (Heap.lt_size (N p hm).1)
    have pm : ((hp.objs.size, ({ cls := .type "dict", data := .dict #[] } : Obj)) :: (MW ++ (ML ++ (n.imm ++ pins)))).Perm (MW ++ (ML ++ (n.imm ++ ((hp.objs.size, { cls := .type "dict", data := .dict #[] }) :: pins)))) := by
      have e1 : MW ++ (ML ++ (n.imm ++ pins)) = (MW ++ ML ++ n.imm) ++ pins := by simp
      have e2 : MW ++ (ML ++ (n.imm ++ ((hp.objs.size, ({ cls := .type "dict", data := .dict #[] } : Obj)) :: pins))) = (MW ++ ML ++ n.imm) ++ (hp.objs.size, { cls := .type "dict", data := .dict #[] }) :: pins := by simp
      rw [e1, e2]
      exact List.perm_middle.symm
    have r1 : Rel c ((hp.objs.size, { cls := .type "dict", data := .dict #[] }) :: pins) n st (hp.push { cls := .type "dict", data := .dict #[] }) := by
      refine ⟨g, m, MW, ML, Am, F1, news_sub N1 fun p hm => pm.symm.subset hm, ?_, RW, RL, fun x y e => ?_⟩
      · refine (List.Perm.nodup_iff (List.Perm.map _ pm)).mp ?_
        rw [List.map_cons, List.nodup_cons]
        refine ⟨fun hm => ?_, ND⟩
        obtain ⟨p, hp', e⟩ := List.mem_map.mp hm
        exact lt p hp' e
      · obtain ⟨v, a, b, d⟩ := RV x y e
        exact ⟨v, a, b, d.imp id fun ⟨u1, ca, o, u2, u3, u4⟩ => ⟨u1, ca, o, u2, .tail _ u3, u4⟩⟩
    refine wpAny_mono (vcD_sound hf (pos := pos) ks es n st _ xs q h2 h _ _ tk r1) (fun vs s1 o => ?_) fun v s1 o => ?_
    · cases o with
      | mk n' kvs st' h1 t1 le r' rv qk =>
      obtain ⟨g', m', MW', ML', Am', F', N', ND', RW', RL', RV'⟩ := r'
      have hd := N' (hp.objs.size, { cls := .type "dict", data := .dict #[] }) (by simp)
      refine display_done_str rv.2.1 ?_ ?_ fun h2 hm hs => ?_
      · rw [rv.1.keys, rv.2.2]; exact distS_nodup h3
      · exact Heap.dictOf_iff.mpr ⟨_, hd.1, by
          obtain ⟨o, ho, hd'⟩ := Heap.dictOf_iff.mp (Heap.DictOf.new (knd := PySem.strKind thePg c.w) hp)
          rw [Heap.get?_push_size _ rfl] at ho
          exact (Option.some.inj ho) ▸ hd'⟩
      · obtain ⟨o', ho', hd'⟩ := Heap.dictOf_iff.mp hm
        have hmem : (hp.objs.size, ({ cls := .type "dict", data := .dict #[] } : Obj)) ∈ MW' ++ (ML' ++ (n'.imm ++ ((hp.objs.size, { cls := .type "dict", data := .dict #[] }) :: pins))) := by simp
        have F2 := Fr.update F' N' hmem hs
        have N2 := News.update N' hmem hs ho'
        have pm2 : (MW' ++ (ML' ++ (n'.imm ++ ((hp.objs.size, ({ cls := .type "dict", data := .dict #[] } : Obj)) :: pins)))).Perm ((hp.objs.size, { cls := .type "dict", data := .dict #[] }) :: (MW' ++ (ML' ++ (n'.imm ++ pins)))) := by
          have e1 : MW' ++ (ML' ++ (n'.imm ++ pins)) = (MW' ++ ML' ++ n'.imm) ++ pins := by simp
          have e2 : MW' ++ (ML' ++ (n'.imm ++ ((hp.objs.size, ({ cls := .type "dict", data := .dict #[] } : Obj)) :: pins))) = (MW' ++ ML' ++ n'.imm) ++ (hp.objs.size, { cls := .type "dict", data := .dict #[] }) :: pins := by simp
          rw [e1, e2]
          exact List.perm_middle
        have nd2 := (List.Perm.nodup_iff (List.Perm.map _ pm2)).mp ND'
        rw [List.map_cons, List.nodup_cons] at nd2
        have lt2 : ∀ p ∈ MW' ++ (ML' ++ (n'.imm ++ pins)), p.1 ≠ hp.objs.size := fun p hm e => nd2.1 (List.mem_map.mpr ⟨p, hm, e⟩)
        have N3 : News g' c.L h2 ((hp.objs.size, o') :: (MW' ++ (ML' ++ (n'.imm ++ pins)))) := fun p hp' => by
          rcases List.mem_cons.mp hp' with rfl | hp'
          · exact N2 _ (List.mem_map.mpr ⟨_, hmem, if_pos rfl⟩)
          · exact N2 p (List.mem_map.mpr ⟨p, pm2.symm.subset (.tail _ hp'), if_neg (lt2 p hp')⟩)
        have le2 : n'.Le ⟨n'.ga ++ [hp.objs.size], n'.la, n'.imm⟩ := ⟨fun i b h => by
          show (n'.ga ++ [hp.objs.size])[i]? = some b
          rw [List.getElem?_append_left (List.getElem?_eq_some_iff.mp h).1]; exact h, fun _ _ h => h, fun p hp => hp⟩
        obtain ⟨l3, r3, b3⟩ := Rel.newW Am' F2 N3 nd2.2 lt2 RW' RL' (RV'.drop fun v e => by cases e) (x := .sdict kvs) ⟨o', _, rfl, hd', rv.1.mono le2.noL⟩
        exact .mk _ _ _ _ _ (le.trans l3) r3 b3 qk
    · exact o.drop fun v e => by cases e
theorem dict0_sound {pos : Pos} {k : V → St → Prop} (h : k (.g (lnth st.W)) ⟨st.W ++ [.iset []], st.Lc, st.vars⟩) : WP c BV (eval (.Dict [] [] pos) c.env) n st k ex := by
  intro pins hp tk r
  obtain ⟨g, m, MW, ML, Am, F, N, ND, RW, RL, RV⟩ := r
  refine Dict_empty_made2 F N (modules_low Am.T.nolimit) fun h' o F' N' lo _ _ hd _ lt => ?_
  obtain ⟨l3, r3, b3⟩ := Rel.newW Am F' N' ND lt RW RL RV (x := .iset []) ⟨o, _, rfl, lo, hd, rfl⟩
  exact Out.done r3 l3 b3 h
end
end
noncomputable section
theorem allNotCell_use : ∀ {l : List (Str × NameKind)}, allNotCell l = true → ∀ x ∈ l, x.2 ≠ .cell
  | [], _, _, h => nomatch h
  | (a, k) :: r, h, x, hx => by
    cases k <;> first | cases h | skip
    all_goals
      rcases List.mem_cons.mp hx with e | hx'
      · intro q; rw [e] at q; cases q
      · exact allNotCell_use (l := r) h x hx'
theorem noFree_use : ∀ {l : List (Str × NameKind)}, noFree l = true → ∀ x ∈ l, x.2 ≠ .free
  | [], _, _, h => nomatch h
  | (a, k) :: r, h, x, hx => by
    cases k <;> first | cases h | skip
    all_goals
      rcases List.mem_cons.mp hx with e | hx'
      · intro q; rw [e] at q; cases q
      · exact noFree_use (l := r) h x hx'
theorem locsOk_use {names : List (Str × NameKind)} : ∀ {l : List (Str × NameKind)}, locsOk names l = true → ∀ x ∈ l, x.2 = .local → names.lookup x.1 = some .local
  | [], _, _, h, _ => nomatch h
  | (a, k) :: r, h, x, hx, e => by
    rcases List.mem_cons.mp hx with e' | hx'
    · subst e'
      cases (show k = _ from e)
      unfold locsOk at h
      rw [Bool.and_eq_true] at h
      have := isGlobN_use (sc := ⟨.function, [], false, false, []⟩) (x := a)
      have h1 := h.1
      have e2 : lk a names = names.lookup a := kindN_eq (sc := ⟨.function, names, false, false, []⟩)
      rw [e2] at h1
      revert h1
      cases names.lookup a with
      | none => intro h; cases h
      | some k => cases k <;> intro h <;> first | rfl | cases h
    · refine locsOk_use (l := r) ?_ x hx' e
      cases k <;> first | exact h | skip
      unfold locsOk at h
      rw [Bool.and_eq_true] at h
      exact h.2
theorem compSc_use {sc : Scope} (h : compSc sc = true) : sc.kind = .function ∧ (∀ y ∈ sc.names, y.2 ≠ .cell) ∧ ∀ y ∈ sc.names, y.2 = .local → sc.names.lookup y.1 = some .local := by
  unfold compSc at h
  rw [Bool.and_eq_true, Bool.and_eq_true] at h
  refine ⟨?_, allNotCell_use h.2.1, locsOk_use h.2.2⟩
  replace h := h.1
  revert h
  cases sc.kind <;> intro h <;> first | rfl | cases h
theorem relk {env : Env} : ∀ {names : List (Str × NameKind)} {x : Str} {k : NameKind}, names.lookup x = some k →
    (names.map fun (n, k) => if (k == NameKind.free && env.scope.kind == .function && env.kindOf n == some .cell) then (n, NameKind.cell) else (n, k)).lookup x = some (if (k == NameKind.free && env.scope.kind == .function && env.kindOf x == some .cell) then NameKind.cell else k)
  | [], _, _, h => by cases h
  | (n, k0) :: r, x, k, h => by
    have ih := @relk env r x k
    show List.lookup x ((if (k0 == NameKind.free && env.scope.kind == .function && env.kindOf n == some .cell) = true then (n, NameKind.cell) else (n, k0)) :: _) = _
    rw [List.lookup_cons] at h
    cases hx : x == n with
    | true =>
      rw [hx] at h
      cases h
      cases eq_of_beq hx
      split <;> rw [List.lookup_cons, hx]
    | false =>
      rw [hx] at h
      split <;> rw [List.lookup_cons, hx] <;> exact ih h
section
variable {c : Cx} {G : GP} {n : Cn} {st : St} {ex : Bool → Int → St → Prop}
theorem name_at {pins : Led} {hp : Heap} {tk : Nat} (r : Rel c pins n st hp) {x : Str} {y : V} (e : lk x st.vars = some y) {p : Pos} {Q : Value → Shared → Prop} {E : Value → Shared → Prop} (h : ∀ v, BV n y v → Q v (c.at_ hp tk)) : wpAny c.M c.A (eval (.Name x p) c.env) Q E (c.at_ hp tk) := by
  obtain ⟨g, m, MW, ML, Am, F, N, ND, RW, RL, RV⟩ := r
  obtain ⟨u, hv, hd, hk⟩ := RV x y e
  rcases hk with ⟨h1, h2⟩ | ⟨h1, ca, o, h2, h3, h4⟩
  · exact nameX_L F h2 (h u hv) c.hk h1 hd
  · exact nameX_C N h2 (by simp [h3]) h4 (h u hv) c.hk h1 hd
theorem at_loc {env : Env} {sc : Scope} {cl : List (Str × Addr)} {C : Addr} {x : Str} {v : Value} {p : Pos} {M : Model} {A : Around} {m : Str → Option Value} {s : Shared} {Q E : Value → Shared → Prop} (hk : sc.kind = .function) (hx : okVar sc x = true) (hn : s.heap.Ns C m) (hv : m x = some v) (h : Q v s) : wpAny M A (eval (.Name x p) (compEnvC sc cl C env)) Q E s :=
  wpAny_Name (wpAny_loadName_local (env := compEnvC sc cl C env) hk (lookup_relabel_local (okVar_use hx).1) hn hv h) (okVar_use hx).2
theorem at_glob (ok : GOk G c) {sc : Scope} {cl : List (Str × Addr)} {C : Addr} {fn : Str} {b : Bi} {p : Pos} {g h : Heap} {m : Str → Option Value} {tk : Nat} {Q E : Value → Shared → Prop} (Am : Amb c g) (F : Fr g c.L h m) (hk : sc.kind = .function) (hg : sc.names.lookup fn = some .globalImplicit) (hb : G.glob fn = some (.bi b)) (hQ : Q b.val (c.at_ h tk)) :
    wpAny c.M c.A (eval (.Name fn p) (compEnvC sc cl C c.env)) Q E (c.at_ h tk) := by
  obtain ⟨hd, hgl⟩ := ok.glob fn _ hb
  have hkg : (compEnvC sc cl C c.env).kindOf fn = some .globalImplicit := (relk (env := c.env) hg).trans rfl
  have T := topRead_of Am.T
  rcases hgl with ⟨u, q1, hu⟩ | ⟨b', hb', q1, q2, q3⟩
  · cases (show u = b.val from hu ⟨[], [], []⟩)
    exact Name_function_global (env := compEnvC sc cl C c.env) hk hkg (loadGlobal_global (env := compEnvC sc cl C c.env) (T.g.keeps F.keep) (mg_of Am.X T.g q1) hQ) hd
  · cases hb'
    exact Name_function_global (env := compEnvC sc cl C c.env) hk hkg (loadGlobal_builtin (env := compEnvC sc cl C c.env) (s := c.at_ h tk) (T.g.keeps F.keep) (mg_none_of Am.X T.g q1) (T.b.keeps F.keep) ((T.builtins fn q3).trans q2) hQ) hd
theorem off1_mem {D : Addr} : ∀ {l : Led}, LCg.Off1 D l → ∀ q ∈ l, q.1 ≠ D
  | [], _, _, h => nomatch h
  | _ :: _, h, q, hq => by
    rcases List.mem_cons.mp hq with rfl | hq
    · exact h.1
    · exact off1_mem h.2 q hq
theorem nd_add {l l' : Led} {a : Addr} {o : Obj} (pm : ((a, o) :: l).Perm l') (ND : (l.map (·.1)).Nodup) (lt : ∀ p ∈ l, p.1 ≠ a) : (l'.map (·.1)).Nodup := by
  refine (List.Perm.nodup_iff (List.Perm.map _ pm)).mp ?_
  rw [List.map_cons, List.nodup_cons]
  refine ⟨fun hm => ?_, ND⟩
  obtain ⟨p, hp', e⟩ := List.mem_map.mp hm
  exact lt p hp' e
open LCg LCp LCt in
theorem compA_turn (ok : GOk G c) {g : Heap} {m : Str → Option Value} (Am : Amb c g) {sc : Scope} {fn x y : Str} {p1 p2 p3 p4 p5 p6 p7 : Pos} {j : Nat} (hk : sc.kind = .function) (hx : okVar sc x = true) (hy : okVar sc y = true) (hg : sc.names.lookup fn = some .globalImplicit) (hl : isLenG (G.glob fn) = true)
    {s1 : Int} {k1 : Nat} {t1 t2 : Tok} {C : Addr} {oC : Obj} {m₂ : Str → Option Value} {h : Heap} {tk : Nat} {l : Led} {E' : Value → Shared → Prop} {Q : Value → Shared → Prop} (hC : NsObj oC m₂) (h1 : m₂ x = some (.int s1 t1)) (h2 : m₂ y = some (.bytes (xsB (k1 : Int).toNat).toArray t2)) (F : Fr g c.L h m) (N : News g c.L h l) (hm : (C, oC) ∈ l) (hz : k1 ≤ 4096)
    (hQ : ∀ D h' tk' t3 t4, Fr g c.L h' m → News g c.L h' ((D, tupObj [.int s1 t3, .int (s1 + k1) t4]) :: l) → (∀ q ∈ l, q.1 < D) → Q (.ref D) (c.at_ h' tk')) :
    wpAny c.M c.A (eval (.Tuple [.Name x p1, .BinOp (.Name x p2) .Add (.Call (.Name fn p3) [.Name y p4] [] p5) p6] j p7) (compEnvC sc [] C c.env)) Q E' (c.at_ h tk) := by
  have hn : h.Ns C m₂ := hC.ns (N _ hm).1
  refine Tuple_ (args_cons (at_loc hk hx hn h1 (args_cons (wpAny_BinOp (at_loc hk hx hn h1 (Call_ (at_glob ok Am F hk hg (isLenG_use hl) ?_) name_call))) rfl)) rfl)
  show wpAny _ _ (callWith _ (.builtin "len") [] _ _) _ _ _
  refine callWith_method1 (args_cons (at_loc hk hy hn h2 (args_nil ?_)) rfl) rfl rfl
  refine len_bytes (by rw [List.size_toArray, List.length_replicate]; omega) (add_int (args_nil ?_))
  rw [show (((xsB (k1 : Int).toNat).toArray.size : Nat) : Int) = k1 by rw [List.size_toArray, List.length_replicate]; rfl]
  exact newTuple_N F N (fun h' F' N' => hQ _ _ _ _ _ F' N' fun q hq => Heap.lt_size (N q hq).1) (by rw [sizeLine_eq]; exact Nat.le_of_ble_eq_true rfl)
open LCg LCp LCt in
theorem compA_sound (ok : GOk G c) {elt : PySem.Expr} {g : Comprehension} {sc : Scope} {pos : Pos} {k : V → St → Prop} (hA : compA G elt g sc st k) : WP c BV (eval (.ListComp elt [g] sc pos) c.env) n st k ex := by
  refine viewA_go hA fun fn x y z pa pb pc pd pe pf pg j0 p8 p9 j2 p10 p11 e h1 => ?_
  clear hA
  rw [e]
  clear e
  intro pins hp tk r
  refine cps fun Zz zz => orB_go h1 fun h0 h2 => oM_go h2 fun v hv h3 => dOf_go h3 fun d e1 h4 => lOf_go h4 fun ds e2 h5 => ?_
  clear h4 h3 h2 h1
  obtain ⟨ps, e3, hps, hk⟩ := h5
  subst e3
  subst e2
  subst e1
  simp only [Bool.and_eq_true, Bool.not_eq_true'] at h0
  obtain ⟨i0, i6, i7, i8, i9, i10, i11, i12⟩ := h0
  obtain ⟨kd1, kd2, kd3⟩ := compSc_use i7
  have hh := ok.hd i0
  obtain ⟨g, m, MW, ML, Am, F, N, ND, RW, RL, RV⟩ := id r
  refine zz ?_
  refine ListComp_P (F₀ := F) (closureFor_none (noFree_use i8)) kd2 kd1 kd3 (okVar_use i9).1 (okVar_use i10).1 (fun e => by rw [seq_iff.mpr e] at i6; cases i6) (name_at r hv fun u bu => ?_) fun _ => rfl
  simp only [BV, BD] at bu
  obtain ⟨ax, ws, q, rfl, hm, hb, hz⟩ := bu
  have hl := hb.len
  rw [List.length_map] at hl hz
  refine SrcLP.ledger hh F N (mem4.mpr (.inr (.inr (.inl hm)))) (by rw [List.size_toArray, hl, sizeLine_eq]; lia) fun g' => ?_
  rw [List.size_toArray, hl]
  have key : ∀ (j i : Nat) (ys : List Value) (nx : Led), i + j = ps.length → BDs (nx ++ n.imm) ((ps.take i).map encS) ys → ((MW ++ (ML ++ ((nx ++ n.imm) ++ pins))).map (·.1)).Nodup → CompRestP thePg c.w c.A g c.L m c.env (.Tuple [.Name x pa, .BinOp (.Name x pb) .Add (.Call (.Name fn pc) [.Name y pd] [] pe) pf] j0 pg) x y sc [] { c.at_ hp tk with heap := g' } (SrcAt g ax ws.toArray) (fun i v => ws.toArray[i]? = some v) (FinE g c.L m { c.at_ hp tk with heap := g' } (Out c pins BV n k)) j i ys (MW ++ (ML ++ ((nx ++ n.imm) ++ pins))) := by
    intro j
    induction j with
    | zero =>
      intro i ys nx hi hy hnd
      have e : i = ps.length := by omega
      subst e
      rw [List.take_length] at hy
      refine CompRestP.zero fun D h' tk' F' N' o1 => ?_
      have le : n.Le ⟨n.ga, n.la, nx ++ n.imm⟩ := ⟨fun _ _ h => h, fun _ _ h => h, fun p hp => List.mem_append_right _ hp⟩
      obtain ⟨le', r', bv⟩ := Rel.newL (n := ⟨n.ga, n.la, nx ++ n.imm⟩) Am F' N' hnd (fun p hp e => off1_mem o1 p hp e) (RW.mono fun _ _ _ => RO.mono le) (RL.mono fun _ _ _ => RLo.mono le) (RV.mono le) hy (by rw [List.length_map]; omega)
      exact Out.done r' (le.trans le') bv hk
    | succ j ih =>
      intro i ys nx hi hy hnd
      refine CompRestP.succ fun v hv => ?_
      refine cps fun Zy zy => ?_
      obtain ⟨d, hd, bd⟩ := hb.at (show ws[i]? = some v by simpa using hv)
      rw [List.getElem?_map] at hd
      cases ep : ps[i]? with
      | none => rw [ep] at hd; cases hd
      | some pp =>
      rw [ep] at hd
      cases hd
      obtain ⟨s1, k1⟩ := pp
      simp only [encP, BD] at bd
      obtain ⟨t, us, rfl, hmt, bus⟩ := bd
      obtain ⟨v1, us1, rfl, b1, bus⟩ := bus.cons_inv
      obtain ⟨v2, us2, rfl, b2, bus⟩ := bus.cons_inv
      cases bus.nil_inv
      simp only [BD] at b1 b2
      obtain ⟨t1, rfl⟩ := b1
      obtain ⟨⟨x0, x1⟩, t2, rfl⟩ := b2
      refine zy ?_
      refine ⟨t, _, _, _, _, rfl, mem4.mpr (.inr (.inr (.inl (List.mem_append_right _ hmt)))), rfl, rfl, fun I oI C oC D m₂ h' tk' E' hC e1 e2 F' N' off ne => ?_⟩
      refine compA_turn ok (h := h') (tk := tk') Am kd1 i9 i10 (isGlobN_use i11) i12 hC e1 e2 F' N' (.tail _ (.head _)) (by omega) fun D2 h2 tk2 t3 t4 F2 N2 lt => ?_
      have sub : ∀ p ∈ MW ++ (ML ++ ((nx ++ n.imm) ++ pins)), p ∈ (I, oI) :: (C, oC) :: (D, lst ys) :: (MW ++ (ML ++ ((nx ++ n.imm) ++ pins))) := fun p hp => .tail _ (.tail _ (.tail _ hp))
      have pm : ((D2, tupObj [.int s1 t3, .int (s1 + k1) t4]) :: (MW ++ (ML ++ ((nx ++ n.imm) ++ pins)))).Perm (MW ++ (ML ++ ((((D2, tupObj [.int s1 t3, .int (s1 + k1) t4]) :: nx) ++ n.imm) ++ pins))) := by
        rw [← List.append_assoc MW, ← List.append_assoc MW]
        exact List.perm_middle.symm
      refine CompEnd.intro (s₁ := c.at_ h' tk') F2 N2 (MW ++ (ML ++ ((((D2, tupObj [.int s1 t3, .int (s1 + k1) t4]) :: nx) ++ n.imm) ++ pins))) (fun p hp => ?_) (Off3.of fun p hp => ?_) (.inr ⟨_, mem4.mpr (.inr (.inr (.inl (List.mem_append_right _ hm)))), rfl, _, rfl⟩) (ih (i + 1) _ _ (by lia) ?_ (nd_add pm hnd fun p hp => Nat.ne_of_lt (lt p (sub p hp))))
      · rcases List.mem_cons.mp hp with rfl | hp
        · exact .tail _ (.head _)
        · rcases List.mem_cons.mp hp with rfl | hp
          · exact .tail _ (.tail _ (.head _))
          · rcases List.mem_cons.mp hp with rfl | hp
            · exact .tail _ (.tail _ (.tail _ (.head _)))
            · rcases List.mem_cons.mp (pm.symm.subset hp) with rfl | hp
              · exact .head _
              · exact .tail _ (sub p hp)
      · rcases List.mem_cons.mp (pm.symm.subset hp) with rfl | hp
        · exact ⟨Ne.symm (Nat.ne_of_lt (lt _ (.head _))), Ne.symm (Nat.ne_of_lt (lt _ (.tail _ (.head _)))), Ne.symm (Nat.ne_of_lt (lt _ (.tail _ (.tail _ (.head _)))))⟩
        · exact off.mem p hp
      · rw [List.take_add_one, ep, List.map_append]
        refine BDs.app (.cons ?_ .nil) (BDs.mono (fun p hp => .tail _ hp) hy)
        simp only [BD]
        exact ⟨D2, _, rfl, .head _, .cons (by simp only [BD]; exact ⟨_, rfl⟩) (.cons (by simp only [BD]; exact ⟨_, rfl⟩) .nil)⟩
  exact key ps.length 0 [] [] (by lia) .nil ND
theorem closure_one {env : Env} {h : Str} {ca : Addr} (hc : env.cells.lookup h = some ca) : ∀ (names : List (Str × NameKind)) (acc : List (Str × Addr)), oneFree h names = true → (∀ e ∈ acc, e = (h, ca)) → ((∃ e ∈ names, e.2 = .free) ∨ acc ≠ []) →
    ∃ cl, (forIn names acc fun (x : Str × NameKind) (cs : List (Str × Addr)) => (if (x.2 == NameKind.free) = true then do let a ← cellOf env x.1; pure (ForInStep.yield ((x.1, a) :: cs)) else pure (ForInStep.yield cs) : Sem (ForInStep (List (Str × Addr))))) = pure cl ∧ cl.lookup h = some ca
  | [], acc, _, ha, hn => by
    refine ⟨acc, rfl, ?_⟩
    cases acc with
    | nil => rcases hn with ⟨_, hm, _⟩ | q <;> first | cases hm | exact absurd rfl q
    | cons e r => rw [ha e (.head _), List.lookup_cons, beq_self_eq_true]
  | (x, kd) :: r, acc, h1, ha, hn => by
    rw [List.forIn_cons]
    cases hk : kd == NameKind.free with
    | false =>
      have h1 : oneFree h r = true := by cases kd <;> first | exact h1 | cases hk
      have hn' : (∃ e ∈ r, e.2 = .free) ∨ acc ≠ [] := hn.imp (fun ⟨e, hm, q⟩ => by
        rcases List.mem_cons.mp hm with rfl | hm
        · rw [show kd = .free from q] at hk; cases hk
        · exact ⟨e, hm, q⟩) id
      simp only [hk, Bool.false_eq_true, if_false, pure_bind]
      exact closure_one hc r acc h1 ha hn'
    | true =>
      have e : kd = .free := by cases kd <;> first | rfl | cases hk
      subst e
      have h2 : (seq x h && oneFree h r) = true := h1
      rw [Bool.and_eq_true] at h2
      cases seq_iff.mp h2.1
      simp only [hk, if_true, show cellOf env h = pure ca by unfold cellOf; rw [hc], pure_bind]
      exact closure_one hc r _ h2.2 (fun e hm => by
        rcases List.mem_cons.mp hm with rfl | hm
        · rfl
        · exact ha e hm) (.inr (by simp))
theorem lookup_mem {x : Str} {k : NameKind} : ∀ {l : List (Str × NameKind)}, l.lookup x = some k → (x, k) ∈ l
  | [], h => by cases h
  | (y, q) :: r, h => by
    rw [List.lookup_cons] at h
    cases e : x == y with
    | true => rw [e] at h; cases h; rw [eq_of_beq e]; exact .head _
    | false => rw [e] at h; exact .tail _ (lookup_mem h)
theorem range_at (ok : GOk G c) {g hp : Heap} {m : Str → Option Value} (Am : Amb c g) (F : Fr g c.L hp m) {rn : Str} {p : Pos} {tk : Nat} {Q E : Value → Shared → Prop} (hg : isGlobN (kindN G.sc rn) = true) (hb : G.glob rn = some (.bi .range)) (h : Q (.type "range") (c.at_ hp tk)) :
    wpAny c.M c.A (eval (.Name rn p) c.env) Q E (c.at_ hp tk) := by
  rw [← ok.sc] at hg
  obtain ⟨hd, hgl⟩ := ok.glob rn _ hb
  rcases hgl with ⟨u, h1, h2⟩ | ⟨b, e, h1, h2, h3⟩
  · cases (show u = .type "range" from h2 ⟨[], [], []⟩)
    exact nameX_K F Am.X (topRead_of Am.T) h1 h c.hk (isGlobN_use hg) hd
  · cases e
    exact nameX_B F Am.X (topRead_of Am.T) h1 h2 h3 h c.hk (isGlobN_use hg) hd
theorem item_at {a : Addr} {o : Obj} {l : Led} {g hp : Heap} {n' : Cn} {kvs : List (Str × V)} {kvs' : List (Str × Value)} {y : V} {s : Str} {tk j : Nat} {p : Pos} {env : Env} {value : PySem.Expr} {Q E : Value → Shared → Prop} (N : News g c.L hp l) (hm : (a, o) ∈ l) (hd : o.IsDictOf (PySem.strKind thePg c.w) kvs') (hk : KvOk n' kvs kvs') (e : lk s kvs = some y)
    (h : ∀ v tk', BV n' y v → Q v (c.at_ hp tk')) : wpAny c.M c.A (eval (.Constant (.str s) j p) env) (fun i s₂ => wpAny c.M c.A (subscriptTail value (.Constant (.str s) j p) (.ref a) i) Q E s₂) E (c.at_ hp tk) := by
  obtain ⟨v, hv, bv⟩ := hk.get e
  have D := dictOf_map N hm hd
  exact Constant_str (tail_any (s := c.at_ hp (tk + 1)) D.mapOf.typeIs slot_dict_getitem.lookup (wpAny_getItem_of (strKind_is _ _ _ _) D.mapOf hv (h v _ bv)) (subs_no rfl))
open LCg LCt in
theorem compB_rest {g hp : Heap} {m : Str → Option Value} {tk : Nat} {ct elt : PySem.Expr} {x : Str} {sc : Scope} {cl : List (Str × Addr)} {news : Led} {n' : Cn} {kd : List Int} {a : Int} {z : Nat} {Fin : List Value → Led → Prop}
    (turn : ∀ (k : Int) t I oI C oC D m₂ ys h tk (E' : Value → Shared → Prop) (Q : Bool → Shared → Prop), NsObj oC m₂ → m₂ x = some (.int k t) → News g c.L h ((I, oI) :: (C, oC) :: (D, lst ys) :: news) → (∀ tk', Q (!decide (k ∈ kd)) (c.at_ h tk')) → wpAny c.M c.A (isTrue ct (compEnvC sc cl C c.env) (eval ct (compEnvC sc cl C c.env))) Q E' (c.at_ h tk))
    (val : ∀ (k : Int) t C oC m₂ h tk (Q E' : Value → Shared → Prop), NsObj oC m₂ → m₂ x = some (.int k t) → h.Ns C m₂ → Q (.int k t) (c.at_ h tk) → wpAny c.M c.A (eval elt (compEnvC sc cl C c.env)) Q E' (c.at_ h tk))
    (fin : ∀ ys (zs : List Int), BDs n'.imm (zs.map D.int) ys → (zs = [] ↔ ∀ x, (a ≤ x ∧ x < a + (z : Int)) → x ∈ kd) → zs.length ≤ z → Fin ys news) :
    CompRestT thePg c.w c.A g c.L m c.env ct elt x sc cl (c.at_ hp tk) (fun _ => True) (fun i v => ∃ t, v = .int (a + (i : Int)) t) Fin z 0 [] news := by
  have key : ∀ (j i : Nat) (ys : List Value) (zs : List Int), i + j = z → BDs n'.imm (zs.map D.int) ys → (zs = [] ↔ ∀ x, (a ≤ x ∧ x < a + (i : Int)) → x ∈ kd) → zs.length ≤ i → CompRestT thePg c.w c.A g c.L m c.env ct elt x sc cl (c.at_ hp tk) (fun _ => True) (fun i v => ∃ t, v = .int (a + (i : Int)) t) Fin j i ys news := by
    intro j
    induction j with
    | zero =>
      intro i ys zs hi hy hz hl
      cases (show i = z from hi)
      exact CompRestT.zero (fin ys zs hy hz hl)
    | succ j ih =>
      intro i ys zs hi hy hz hl
      refine CompRestT.succ fun v I oI C oC D m₂ h tk E' hv hC hx F N off ne => ?_
      obtain ⟨t, rfl⟩ := hv
      refine turn _ t I oI C oC D m₂ ys h tk E' _ hC hx N fun tk' => ?_
      by_cases e : a + (i : Int) ∈ kd
      · rw [decide_eq_true e]
        simp only [Bool.not_true, Bool.false_eq_true, if_false]
        refine CompEnd.intro (s₁ := c.at_ h tk) F N news (fun p hp => hp) off trivial (ih (i + 1) _ zs (by omega) hy (hz.trans ⟨fun q y hy => ?_, fun q y hy => q y (by omega)⟩) (by omega))
        by_cases q2 : y < a + (i : Int)
        · exact q y ⟨hy.1, q2⟩
        · rw [show y = a + (i : Int) by omega]; exact e
      · rw [decide_eq_false e]
        simp only [Bool.not_false, if_true]
        refine val _ t C oC m₂ h tk' _ E' hC hx (hC.ns (N _ (.tail _ (.head _))).1) (CompEnd.intro (s₁ := c.at_ h tk) F N news (fun p hp => hp) off trivial (ih (i + 1) _ (zs ++ [a + (i : Int)]) (by omega) ?_ ⟨fun q => absurd q (by simp), fun q => absurd (q _ (by lia)) e⟩ (by rw [List.length_append, List.length_singleton]; omega)))
        rw [List.map_append]
        exact BDs.app (.cons (show BD n'.imm (.int (a + (i : Int))) (.int (a + (i : Int)) t) by simp only [BD]; exact ⟨_, rfl⟩) .nil) hy
  exact key z 0 [] [] (by lia) .nil ⟨fun _ y hy => by omega, fun _ => rfl⟩ (Nat.le_refl _)
open LCg LCt in
theorem compB_sound (ok : GOk G c) {elt : PySem.Expr} {g : Comprehension} {sc : Scope} {pos : Pos} {k : V → St → Prop} (hB : compB G elt g sc st k) : WP c BV (eval (.ListComp elt [g] sc pos) c.env) n st k ex := by
  refine viewB_go hB fun x1 rn h s1 s2 s3 p1 p2 p3 p4 q1 q2 q3 q4 q5 q6 q7 q8 q9 j1 j2 j3 p5 p6 e h1 => ?_
  clear hB
  rw [e]
  clear e
  intro pins hp tk r
  refine cps fun Zz zz => orB_go h1 fun h0 g2 => oM_go g2 fun v hv g3 => gOf_go g3 fun i e1 g4 => oM_go g4 fun o ho g5 => sdOn_go g5 fun kvs e2 g6 => oM_go g6 fun v1 hv1 g7 => int1_go g7 fun a e3 g8 => oM_go g8 fun v2 hv2 g9 => int1_go g9 fun b e4 g10 => oM_go g10 fun v3 hv3 g11 => gOf_go g11 fun j e5 g12 => oM_go g12 fun o2 ho2 g13 => isOn_go g13 fun ks e6 g14 => ?_
  clear g13 g12 g11 g10 g9 g8 g7 g6 g5 g4 g3 g2 h1
  subst e1 e2 e3 e4 e5 e6
  obtain ⟨⟨ha1, ha2, hb1, hb2⟩, hk⟩ := g14
  simp only [Bool.and_eq_true] at h0
  obtain ⟨i0, i5, i6, i7, i8, i9, i10, i12⟩ := h0
  obtain ⟨kd1, kd2, kd3⟩ := compSc_use i5
  have hh := ok.hd i0
  obtain ⟨g, m, MW, ML, Am, F, N, ND, RW, RL, RV⟩ := id r
  obtain ⟨u, bu, hdb, hcell⟩ := RV h _ hv
  have hck : c.sc.names.lookup h = some .cell := by
    rw [← ok.sc] at i9
    have e : kindN c.sc h = c.sc.names.lookup h := kindN_eq
    rw [e] at i9
    revert i9
    cases c.sc.names.lookup h with
    | none => intro q; cases q
    | some q => cases q <;> intro q <;> first | rfl | cases q
  refine zz ?_
  rcases hcell with ⟨q, _⟩ | ⟨_, ca, oc, hc1, hc2, hc3⟩
  · rw [hck] at q; cases q
  refine cps fun Zz zz => ?_
  obtain ⟨H, gH, rfl⟩ := bu
  rw [nth_eq] at ho ho2
  refine RW.lensG ho fun H1 f1 pre1 post1 e1 u5 e3 _ => ?_
  obtain ⟨oH, kvs', rfl, hdH, hkv⟩ := u5
  rw [gH] at e1; cases e1
  have mH : (H, oH) ∈ MW ++ (ML ++ (n.imm ++ pins)) := mem4.mpr (.inl (by rw [e3]; simp))
  obtain ⟨v3, hval3, b3⟩ := hkv.get hv3
  obtain ⟨H2, gH2, rfl⟩ := b3
  refine RW.lensG ho2 fun H3 f3 pre3 post3 e1 u5 e4 _ => ?_
  obtain ⟨o3, kv3, rfl, lo3, hd3, hk3⟩ := u5
  rw [show n.ga[j]? = some H2 from gH2] at e1; cases e1
  have mS : (H2, o3) ∈ MW ++ (ML ++ (n.imm ++ pins)) := mem4.mpr (.inl (by rw [e4]; simp))
  have mC : (ca, oc) ∈ MW ++ (ML ++ (n.imm ++ pins)) := mem4.mpr (.inr (.inr (.inr hc2)))
  have fr : sc.names.lookup h = some .free := by
    have e : kindN sc h = sc.names.lookup h := kindN_eq
    rw [e] at i8
    revert i8
    cases sc.names.lookup h with
    | none => intro q; cases q
    | some q => cases q <;> intro q <;> first | rfl | cases q
  obtain ⟨cl, hcl, hlk⟩ := closure_one (env := c.env) hc1 sc.names [] i6 (fun _ q => nomatch q) (.inl ⟨_, lookup_mem fr, rfl⟩)
  obtain ⟨v1, hva, ba⟩ := hkv.get hv1
  obtain ⟨v2, hvb, bb⟩ := hkv.get hv2
  refine zz ?_
  refine ListComp_T (F₀ := F) (cl := cl) (by
    unfold closureFor
    simp only [hcl, pure_bind]) kd2 kd1 kd3 (okVar_use i7).1 ?_ fun _ => rfl
  refine Call_ (range_at ok Am F i10 (isRangeG_use i12) (callWith_type1 (args_cons (Subscript_ (name_at r hv fun u bu => ?_)) rfl) rfl rfl)) name_call
  refine cps fun Zz zz => ?_
  obtain ⟨H', gH', rfl⟩ := bu
  rw [gH] at gH'; cases gH'
  refine zz ?_
  refine item_at N mH hdH hkv hv1 fun y1 tk1 by1 => ?_
  refine args_cons (Subscript_ (name_at r hv fun u bu => ?_)) rfl
  refine cps fun Zz zz => ?_
  obtain ⟨H', gH', rfl⟩ := bu
  rw [gH] at gH'; cases gH'
  refine zz ?_
  refine item_at N mH hdH hkv hv2 fun y2 tk2 by2 => args_nil ?_
  refine cps fun Zz zz => ?_
  obtain ⟨t1, rfl⟩ := BV.int by1
  obtain ⟨t2, rfl⟩ := BV.int by2
  refine zz ?_
  refine call_range_2 ?_
  refine CompSrcT.range hh (F.keeps fun _ _ e => Heap.get?_push_of_some _ e) (N.grown fun _ _ e => Heap.get?_push_of_some _ e) (IsRange.new _ _ _ _ _ _ _) (small_one (by omega) (by omega) (by omega) (by omega)) (rangeSize_nat _ _) (by rw [sizeLine_eq]; omega) fun g' => ?_
  refine compB_rest (kd := ks) (n' := n) (fun k t I oI C oC D m₂ ys h' tk' E' Q hC hx N' hQ => ?_) (fun k t C oC m₂ h' tk' Q E' hC hx hn hQ => at_loc kd1 i7 hn hx hQ) fun ys zs hy hz hl => ?_
  · refine wpAny_isTrue_Compare1 (at_loc kd1 i7 (hC.ns (N' _ (.tail _ (.head _))).1) hx (Subscript_ (lcf_cell N' hlk (.tail _ (.tail _ (.tail _ mC))) hc3 ?_ kd1 ((relk (env := c.env) fr).trans ?_) hdb))) rfl
    · refine item_at N' (.tail _ (.tail _ (.tail _ mH))) hdH hkv hv3 fun y3 tk3 by3 => ?_
      refine cps fun Zz zz => ?_
      obtain ⟨H', gH', rfl⟩ := by3
      rw [gH2] at gH'; cases gH'
      refine zz ?_
      refine wpAny_notIn_of (intKind_is _ _ _ _) lo3 (kda_dict N' (.tail _ (.tail _ (.tail _ mS))) hd3).mapOf (wpAny_truthy_bool ?_)
      rw [some_in, hk3]
      exact hQ _
    · rw [if_pos (by
        show (true && c.sc.kind == .function && (c.sc.names.lookup h == some .cell)) = true
        rw [c.hk, hck]; rfl)]
  · intro D h' tk' F' N' o1
    refine cps fun Zz zz => ?_
    obtain ⟨le', r', bv⟩ := Rel.newL Am F' N' ND (fun p hp e => off1_mem o1 p hp e) RW RL RV hy (by rw [List.length_map]; omega)
    refine zz ?_
    refine Out.done r' le' bv (hk zs (hz.trans ⟨fun q x hx => q x (by omega), fun q x hx => q x (by omega)⟩) (by omega))
end
end
noncomputable section
section
variable {c : Cx} {G : GP} {ex : Bool → Int → St → Prop}
noncomputable def okX (c : Cx) (ex : Bool → Int → St → Prop) (test : Bool) (e : PySem.Expr) (st : St) (k : V → St → Prop) : Prop := match test with
  | false => ∀ n, WP c BV (eval e c.env) n st k ex
  | true => ∀ n, WP c RT (PySem.isTrue e c.env (eval e c.env)) n st k ex
theorem asB_truthy {n n₀ : Cn} (l : n₀.Le n) {st : St} {k : V → St → Prop} {v : V} {x : Value} {pins : Led} {hp : Heap} {tk : Nat} (r : Rel c pins n st hp) (hv : BV n v x) (q : asB v fun _ => k v st) :
    wpAny c.M c.A (truthy x) (Out c pins RT n₀ k) (XOut c pins n₀ ex) (c.at_ hp tk) := by
  obtain ⟨b, rfl, q⟩ := asB_use q
  rw [hv.bool]
  exact wpAny_truthy_bool (Out.done r l rfl q)
theorem sliceX_sound {f : FX} (hf : ∀ e n st k, f e st k → WP c BV (eval e c.env) n st k ex) {o : PySem.Expr} {lo hi stp : Option PySem.Expr} {p pos : Pos} {n : Cn} {st : St} {k : V → St → Prop} (h : sliceX f o lo hi stp st k) : WP c BV (eval (.Subscript o (.Slice lo hi stp p) pos) c.env) n st k ex := by
  cases stp with
  | some => exact h.elim
  | none =>
    have part : ∀ {e : Option PySem.Expr} {n n0 : Cn} {st : St} {pins : Led} {hp : Heap} {tk : Nat} {kk : Option V → St → Prop} {Q : Value → Shared → Prop} (_ : partX f e st kk) (l : n0.Le n) (_ : Rel c pins n st hp)
        (_ : ∀ n1 v val st1 h1 t1, n.Le n1 → Rel c pins n1 st1 h1 → partOk n1 v val → kk v st1 → Q val (c.at_ h1 t1)), wpAny c.M c.A (evalPart e c.env) Q (XOut c pins n0 ex) (c.at_ hp tk) := by
      intro e n n0 st pins hp tk kk Q h l r hQ
      cases e with
      | none => exact evalPart_none_step (hQ n none .none st hp tk .refl r rfl h)
      | some e => exact (hf _ n _ _ h).use l r fun n1 b v st1 h1 t1 l1 r1 bv q => hQ n1 (some b) v st1 h1 t1 l1 r1 bv q
    intro pins hp tk r
    refine Subscript_ ((hf _ n _ _ h).use .refl r fun n1 b v st1 h1 t1 l1 r1 bv q => ?_)
    refine wpAny_Slice (part q l1 r1 fun n2 vl l st2 h2 t2 l2 r2 bl q => part q (l1.trans l2) r2 fun n3 vu u st3 h3 t3 l3 r3 bu q => evalPart_none_step ?_)
    refine slice_sound q (bv.mono (l2.trans l3)) ?_ bu ((l1.trans l2).trans l3) r3
    cases vl with
    | none => exact bl
    | some x => exact BV.mono l3 bl
theorem subX_sound {f : FX} (hf : ∀ e n st k, f e st k → WP c BV (eval e c.env) n st k ex) {o i : PySem.Expr} (hs : isSliceE i = false) {pos : Pos} {n : Cn} {st : St} {k : V → St → Prop} (h : subX f o i st k) : WP c BV (eval (.Subscript o i pos) c.env) n st k ex := fun pins hp tk r =>
  Subscript_ ((hf _ n _ _ h).use .refl r fun n1 a va st1 h1 t1 l1 r1 ha q => (hf _ n1 _ _ q).use l1 r1 fun n2 b vb st2 h2 t2 l2 r2 hb q => (vcSub_sound hs q (ha.mono l2) hb).go (l1.trans l2) r2)
theorem cmp1_sound {f : FX} (hf : ∀ e n st k, f e st k → WP c BV (eval e c.env) n st k ex) {l r : PySem.Expr} {op : CmpOp} {pos : Pos} {n : Cn} {st : St} {k : V → St → Prop} (h : cmp1 f l op r st k) : WP c BV (eval (.Compare l [op] [r] pos) c.env) n st k ex := by
  obtain ⟨hb, h⟩ := orB_no h
  intro pins hp tk r
  exact wpAny_Compare1 ((hf _ n _ _ h).use .refl r fun n1 a va st1 h1 t1 l1 r1 ha q => (hf _ n1 _ _ q).use l1 r1 fun n2 b vb st2 h2 t2 l2 r2 hb q => (vcCmp_sound q (ha.mono l2) hb).go (l1.trans l2) r2) hb
theorem cmpT_sound {f : FX} (hf : ∀ e n st k, f e st k → WP c BV (eval e c.env) n st k ex) {l : PySem.Expr} {ops : List CmpOp} {rs : List PySem.Expr} {pos : Pos} {n : Cn} {st : St} {k : V → St → Prop} (h : cmpT f l ops rs st k) : WP c RT (PySem.isTrue (.Compare l ops rs pos) c.env (eval (.Compare l ops rs pos) c.env)) n st k ex := by
  intro pins hp tk rl
  cases ops with
  | nil => exact h.elim
  | cons op os => cases os with
    | nil =>
      refine one1_go h fun r e h => ?_
      subst e
      obtain ⟨hb, h⟩ := orB_no h
      exact wpAny_isTrue_Compare1 ((hf _ n _ _ h).use .refl rl fun n1 a va st1 h1 t1 l1 r1 ha q => (hf _ n1 _ _ q).use l1 r1 fun n2 b vb st2 h2 t2 l2 r2 hb q => (vcCmp_sound q (ha.mono l2) hb).use (l1.trans l2) r2 fun n3 b v st3 h3 t3 l3 r3 bv q => asB_truthy ((l1.trans l2).trans l3) r3 bv q) hb
    | cons op2 os =>
      refine nil1_go h fun e h => two1_go h fun r r2 e2 h => ?_
      subst e e2
      obtain ⟨hb, h⟩ := orB_no h
      refine isTrue_chain ((hf _ n _ _ h).use .refl rl fun n1 a va st1 h1 t1 l1 r1 ha q => ?_) hb
      refine test_link ((hf _ n1 _ _ q).use l1 r1 fun n2 b vb st2 h2 t2 l2 r2 hb q => (vcCmp_sound q (ha.mono l2) hb).use (l1.trans l2) r2 fun n3 d v st3 h3 t3 l3 r3 bv q => ?_)
      obtain ⟨bb, e, q'⟩ := brB_bool q
      clear q
      subst e
      rw [bv.bool]
      refine wpAny_truthy_bool ?_
      rcases q' with ⟨rfl, q⟩ | ⟨rfl, q⟩
      · rw [if_pos rfl]
        exact test_last ((hf _ n3 _ _ q).use ((l1.trans l2).trans l3) r3 fun n4 b4 v4 st4 h4 t4 l4 r4 bv4 q => (vcCmp_sound q ((hb.mono l3).mono l4) bv4).use (((l1.trans l2).trans l3).trans l4) r4 fun n5 b v st5 h5 t5 l5 r5 bv q => asB_truthy ((((l1.trans l2).trans l3).trans l4).trans l5) r5 bv q)
      · rw [if_neg Bool.false_ne_true]
        exact Out.done r3 ((l1.trans l2).trans l3) rfl q
theorem byD_use {l : List UInt8} {d : D} (e : byD l = some d) : d = .by_ l.length ∧ (l.length : Int) ≤ 4096 := by
  unfold byD at e
  cases q : Nat.ble l.length 100 with
  | false => rw [q] at e; cases e
  | true =>
    rw [q] at e
    cases e
    exact ⟨rfl, by have := Nat.le_of_ble_eq_true q; omega⟩
theorem const_sound {by0 : Bool} {cst : Const} {d : D} (e : constD by0 cst = some d) {n : Cn} {st : St} {k : V → St → Prop} {j : Nat} {pos : Pos} (h : k (.d d) st) : WP c BV (eval (.Constant cst j pos) c.env) n st k ex := by
  intro pins hp tk r
  have by_ : ∀ {l : List UInt8} {t : Tok}, byD l = some d → BV n (.d d) (.bytes l.toArray t) := fun e => by
    obtain ⟨rfl, hz⟩ := byD_use e
    exact BV.by' rfl hz
  cases cst <;> first | (cases e; done) | skip
  · cases e; exact wpAny_Constant_none (Out.done r .refl BV.none' h)
  · cases e; exact Constant_bool (Out.done r .refl BV.bool' h)
  · cases e; exact wpAny_Constant_int (Out.done r .refl BV.int' h)
  · cases e; exact Constant_str (Out.done r .refl BV.str' h)
  · rename_i l
    refine Constant_bytes (Out.done r .refl ?_ h)
    cases by0 with
    | true => exact by_ e
    | false => cases l with
      | nil => cases e; exact BV.xs' (by decide) (by decide)
      | cons b l => cases l with
        | nil =>
          have e : (Nat.beq b.toNat 120).casesOn (motive := fun _ => Option D) none (some (.xs 1)) = some d := e
          cases q : Nat.beq b.toNat 120 with
          | false => rw [q] at e; cases e
          | true =>
            rw [q] at e
            cases e
            rw [show b = 120 from UInt8.toNat_inj.mp (Nat.eq_of_beq_eq_true q)]
            exact BV.xs' (by decide) (by decide)
        | cons => exact by_ e
theorem callM_sound (ok : GOk G c) {f : FX} (hf : ∀ e n st k, f e st k → WP c BV (eval e c.env) n st k ex) {o : PySem.Expr} {a : Str} {ap p2 : Pos} {args : List PySem.Expr} {n : Cn} {st : St} {k : V → St → Prop} (h : callM G ex f o a ap args p2 st k) : WP c BV (eval (.Call (.Attribute o a ap) args [] p2) c.env) n st k ex := by
  obtain ⟨hi, h⟩ := orB_use h
  obtain ⟨pl, e⟩ := mcall (name := a) (pos := p2) (env := c.env) hi
  have hs : args.any isStar = false := by
    simp only [Bool.and_eq_true, Bool.not_eq_true'] at hi
    exact hi.2.2.1
  intro pins hp tk r
  refine MethodCall_ ((hf _ n _ _ h).use .refl r fun n1 ov v st1 h1 t1 l1 r1 bv q => ?_) e
  have list : ∀ {ds}, lstOf st1 ov = some ds → callL f ov a args st1 k → wpAny c.M c.A (getMethod v a pl) (fun x s => wpAny c.M c.A (callWith p2 x.1 x.2 (backTo p2 (starEach args c.env)) []) (Out c pins BV n k) (XOut c pins n ex) s) (XOut c pins n ex) (c.at_ h1 t1) := fun {ds} e q => by
    obtain ⟨hk, q⟩ := orB_use q
    exact methL_sound (ds := ds) e bv hk r1 fun id hid => (listM_sound hf hs bv hid q).go l1 r1
  cases ov with
  | g i =>
    obtain ⟨x, hw, q⟩ := oM_use q
    cases x with
    | inst C fs =>
      have q : callI G ex f (.g i) C fs a args st1 k := q
      unfold callI at q
      cases hl : lk a fs with
      | some d => rw [hl] at q; exact q.elim
      | none =>
        rw [hl] at q
        obtain ⟨m, hm, q⟩ := oM_use q
        obtain ⟨hk, q⟩ := orB_use q
        exact methI_sound ok hw hl hm bv r1 ((callRef_sound ok hf hk hs (.cons bv .nil) q).go l1 r1)
    | lst ds => exact list (congrArg gL hw) q
    | _ => exact q.elim
  | l i =>
    obtain ⟨x, hw, q⟩ := oM_use q
    replace q := oM_use q
    obtain ⟨ds, rfl, q⟩ := q
    exact list (congrArg lL hw) q
  | _ => exact q.elim
theorem boolop {P Q : Prop} {op : BoolOp} (h : (isAnd op).casesOn (motive := fun _ => Prop) Q P) : (op = .And ∧ P) ∨ (op = .Or ∧ Q) := by
  cases op
  · exact .inl ⟨rfl, h⟩
  · exact .inr ⟨rfl, h⟩
theorem notop {op : UnaryOp} (h : isNot op = true) : op = .Not := by cases op <;> first | rfl | cases h
theorem vcX_sound (ok : GOk G c) : ∀ (fuel : Nat) (test : Bool) (e : PySem.Expr) (st : St) (k : V → St → Prop), vcX G ex fuel test e st k → okX c ex test e st k := by
  intro fuel
  induction fuel with
  | zero => intro _ _ _ _ h; cases h
  | succ m ih =>
    intro test e st k h
    have ihF : ∀ e n st k, vcX G ex m false e st k → WP c BV (eval e c.env) n st k ex := fun e n st k h => ih false e st k h n
    have ihT : ∀ e n st k, vcX G ex m true e st k → WP c RT (PySem.isTrue e c.env (eval e c.env)) n st k ex := fun e n st k h => ih true e st k h n
    clear ih
    cases test with
    | false =>
      intro n
      cases e with
      | Constant cst j p =>
        obtain ⟨d, e, h⟩ := oM_use h
        exact const_sound e h
      | Name x p => exact vcName_sound ok h
      | BinOp l op r p => exact fun pins hp tk rl => wpAny_BinOp ((ihF _ n _ _ h).use .refl rl fun n1 a va st1 h1 t1 l1 r1 ha q => (ihF _ n1 _ _ q).use l1 r1 fun n2 b vb st2 h2 t2 l2 r2 hb q => (vcBin_sound q (ha.mono l2) hb).go (l1.trans l2) r2)
      | Compare l ops rs p =>
        refine one1_go h fun op e h => one1_go h fun r e2 h => ?_
        subst e e2
        exact cmp1_sound ihF h
      | IfExp t b o p =>
        intro pins hp tk r
        refine IfExp_ ((ihT _ n _ _ h).use .refl r fun n1 b v st1 h1 t1 l1 r1 bv q => ?_)
        rcases brB_use q bv with ⟨rfl, q⟩ | ⟨rfl, q⟩
        · rw [if_pos rfl]; exact (ihF _ n1 _ _ q).go l1 r1
        · rw [if_neg Bool.false_ne_true]; exact (ihF _ n1 _ _ q).go l1 r1
      | BoolOp op es p =>
        rcases boolop h with ⟨rfl, h⟩ | ⟨rfl, h⟩
        · exact vcAndV_sound ihF _ _ _ _ h
        · exact vcOrV_sound ihF _ _ _ _ h
      | UnaryOp op e p =>
        obtain ⟨o, h⟩ := orB_use h
        cases notop o
        intro pins hp tk r
        refine UnaryOp_ ((ihF _ n _ _ h).use .refl r fun n1 b v st1 h1 t1 l1 r1 bv q => ?_)
        obtain ⟨b, rfl, q⟩ := asB_use q
        rw [bv.bool]
        exact not_of (wpAny_truthy_bool (Out.done r1 l1 BV.bool' q))
      | Attribute o a p =>
        refine eNm_go h fun x px e h => ?_
        subst e
        exact fun pins hp tk r => Attribute_Name_ ((ihF _ n _ _ h).use .refl r fun n1 b v st1 h1 t1 l1 r1 bv q => (vcAttr_sound q bv).go l1 r1) attr_n
      | Subscript o i p =>
        cases i with
        | Slice lo hi stp q => exact sliceX_sound ihF h
        | _ => exact subX_sound ihF rfl h
      | Tuple es j p =>
        obtain ⟨hs, h⟩ := orB_no h
        intro pins hp tk r
        refine Tuple_ ((vcL_sound ihF _ _ n _ _ hs h).use .refl r fun n1 vs vals st1 h1 t1 l1 r1 bv q => ?_)
        obtain ⟨hz, q⟩ := orB_use q
        obtain ⟨ds, st2, n2, l2, r2, b2, q⟩ := frzL_sound q bv r1
        exact tuple_sound (l1.trans l2) r2 b2 (by have := bv.len; have := Nat.le_of_ble_eq_true hz; rw [lnth_eq] at this; omega) q
      | List es p =>
        obtain ⟨hs, h⟩ := orB_no h
        intro pins hp tk r
        refine List_ ((vcL_sound ihF _ _ n _ _ hs h).use .refl r fun n1 vs vals st1 h1 t1 l1 r1 bv q => ?_)
        obtain ⟨hz, q⟩ := orB_use q
        obtain ⟨ds, st2, n2, l2, r2, b2, q⟩ := frzL_sound q bv r1
        exact list_sound (l1.trans l2) r2 b2 (by have := bv.len; have := Nat.le_of_ble_eq_true hz; rw [lnth_eq] at this; omega) q
      | Dict ks vs p =>
        cases ks with
        | nil =>
          obtain ⟨rfl, h⟩ := nil1_use h
          exact dict0_sound h
        | cons x r =>
          obtain ⟨h0, h⟩ := orB_use h
          exact dict_sound ihF h0 (fun e => by cases e) h
      | Call fn args ks p2 =>
        refine nil1_go h fun e h => ?_
        subst e
        cases fn with
        | Name x p =>
          obtain ⟨hs, h⟩ := orB_no h
          exact fun pins hp tk r => Call_ ((ihF _ n _ _ h).use .refl r fun n1 b v st1 h1 t1 l1 r1 bv q => (vcCall_sound ok ihF hs bv q).go l1 r1) name_call
        | Attribute o a ap => exact callM_sound ok ihF h
        | _ => exact h.elim
      | ListComp elt gs sc p =>
        refine one1_go h fun g e h => ?_
        subst e
        have h : (isNameE elt).casesOn (motive := fun _ => Prop) (compA G elt g sc st k) (compB G elt g sc st k) := h
        cases q : isNameE elt with
        | false => rw [q] at h; exact compA_sound ok h
        | true => rw [q] at h; exact compB_sound ok h
      | _ => exact h.elim
    | true =>
      intro n
      have dflt : ∀ e, orB (plainT e) (vcX G ex m false e st fun v st => asB v fun _ => k v st) False → WP c RT (PySem.isTrue e c.env (eval e c.env)) n st k ex := fun e h => by
        obtain ⟨hp', h⟩ := orB_use h
        exact fun pins hp tk r => isTrue_plain ((ihF _ n _ _ h).use .refl r fun n1 b v st1 h1 t1 l1 r1 bv q => asB_truthy l1 r1 bv q) (plain_t hp')
      cases e with
      | Compare l ops rs p => exact cmpT_sound ihF h
      | IfExp t b o p =>
        intro pins hp tk r
        refine isTrue_IfExp ((ihT _ n _ _ h).use .refl r fun n1 b v st1 h1 t1 l1 r1 bv q => ?_)
        rcases brB_use q bv with ⟨rfl, q⟩ | ⟨rfl, q⟩
        · rw [if_pos rfl]; exact (ihT _ n1 _ _ q).go l1 r1
        · rw [if_neg Bool.false_ne_true]; exact (ihT _ n1 _ _ q).go l1 r1
      | BoolOp op es p =>
        rcases boolop h with ⟨rfl, h⟩ | ⟨rfl, h⟩
        · exact vcAndT_sound ihT _ _ _ _ h
        · exact vcOrT_sound ihT _ _ _ _ h
      | UnaryOp op e p =>
        obtain ⟨o, h⟩ := orB_use h
        cases notop o
        intro pins hp tk r
        refine isTrue_not ((ihT _ n _ _ h).use .refl r fun n1 b v st1 h1 t1 l1 r1 bv q => ?_)
        cases (show b = .d (.bool v) from bv)
        exact Out.done r1 l1 rfl q
      | _ => exact dflt _ h
end
end
noncomputable section
section
variable {c : Cx} {n : Cn} {st : St} {ex : Bool → Int → St → Prop}
theorem VarsOk.weak {pins : Led} {m : Str → Option Value} {vars : List (Str × V)} {x : Addr × Obj} (h : VarsOk c n pins m vars) : VarsOk c n (x :: pins) m vars := fun x y e => by
  obtain ⟨v, a, b, d⟩ := h x y e
  exact ⟨v, a, b, d.imp id fun ⟨u1, ca, o, u2, u3, u4⟩ => ⟨u1, ca, o, u2, .tail _ u3, u4⟩⟩
theorem pin_perm {A B C pins : Led} {x : Addr × Obj} : (x :: (A ++ (B ++ (C ++ pins)))).Perm (A ++ (B ++ (C ++ (x :: pins)))) := by
  have e1 : A ++ (B ++ (C ++ pins)) = (A ++ B ++ C) ++ pins := by simp
  have e2 : A ++ (B ++ (C ++ (x :: pins))) = (A ++ B ++ C) ++ x :: pins := by simp
  rw [e1, e2]
  exact List.perm_middle.symm
theorem nd_rem {l l' : Led} {a : Addr} {o : Obj} (pm : ((a, o) :: l).Perm l') (ND : (l'.map (·.1)).Nodup) : (l.map (·.1)).Nodup ∧ ∀ p ∈ l, p.1 ≠ a := by
  have := (List.Perm.nodup_iff (List.Perm.map _ pm)).mpr ND
  rw [List.map_cons, List.nodup_cons] at this
  exact ⟨this.2, fun p hp e => this.1 (List.mem_map.mpr ⟨p, hp, e⟩)⟩
theorem Rel.pinNew {pins : Led} {h : Heap} (r : Rel c pins n st h) (o : Obj) (hf : o.isFreed = false) : Rel c ((h.objs.size, o) :: pins) n st (h.push o) := by
  obtain ⟨g, m, MW, ML, Am, F, N, ND, RW, RL, RV⟩ := r
  exact ⟨g, m, MW, ML, Am, F.push o, news_sub (News.push F N o hf) fun p hm => pin_perm.symm.subset hm, nd_add pin_perm ND fun p hm => Nat.ne_of_lt (Heap.lt_size (N p hm).1), RW, RL, RV.weak⟩
theorem Rel.drop {pins : Led} {h : Heap} {d : Addr} {o : Obj} (ho : ∀ v, o.data ≠ .cell v) (r : Rel c ((d, o) :: pins) n st h) : Rel c pins n st h := by
  obtain ⟨g, m, MW, ML, Am, F, N, ND, RW, RL, RV⟩ := r
  exact ⟨g, m, MW, ML, Am, F, news_sub N drop_sub, drop_nd ND, RW, RL, RV.drop ho⟩
theorem Rel.pin {pins : Led} {h h' : Heap} {d : Addr} {o o' : Obj} (ho : ∀ v, o.data ≠ .cell v) (r : Rel c ((d, o) :: pins) n st h) (hk : ∀ b x, b ∉ [d] → h.get? b = some x → h'.get? b = some x) (hd : h'.get? d = some o') : Rel c ((d, o') :: pins) n st h' := by
  obtain ⟨g, m, MW, ML, Am, F, N, ND, RW, RL, RV⟩ := r
  have z := N (d, o) (pin_perm.subset (.head _))
  obtain ⟨nd, lt⟩ := nd_rem pin_perm ND
  refine ⟨g, m, MW, ML, Am, ⟨F.ns.at' fun o e => hk _ o (fun q => z.2.1 (List.mem_singleton.mp q).symm) e, fun b o e => hk b o (fun q => ?_) (F.keep b o e), F.above⟩, fun p hp => ?_, nd_add pin_perm nd lt, RW, RL, (RV.drop ho).weak⟩
  · have := z.2.2
    rw [← List.mem_singleton.mp q] at this
    rw [this] at e; cases e
  · rcases List.mem_cons.mp (pin_perm.symm.subset hp) with rfl | hp
    · exact ⟨hd, z.2⟩
    · have w := N p (pin_perm.subset (.tail _ hp))
      exact ⟨hk _ _ (fun q => lt p hp (List.mem_singleton.mp q)) w.1, w.2⟩
theorem Rel.at_pin {pins : Led} {h : Heap} {d : Addr} {o : Obj} (r : Rel c ((d, o) :: pins) n st h) : h.get? d = some o := by
  obtain ⟨g, m, MW, ML, Am, F, N, ND, RW, RL, RV⟩ := r
  exact (N (d, o) (pin_perm.subset (.head _))).1
theorem Rel.at_imm {pins : Led} {h : Heap} {d : Addr} {o : Obj} (r : Rel c pins n st h) (hm : (d, o) ∈ n.imm) : h.get? d = some o := by
  obtain ⟨g, m, MW, ML, Am, F, N, ND, RW, RL, RV⟩ := r
  exact (N (d, o) (by simp [hm])).1
theorem noCell {o : Obj} {vs : Array Value} (h : o.data = .fields vs) : ∀ v, o.data ≠ .cell v := fun v e => by rw [h] at e; cases e
theorem Rel.unpin {pins : Led} {h h' : Heap} {d : Addr} {o : Obj} (ho : ∀ v, o.data ≠ .cell v) (r : Rel c ((d, o) :: pins) n st h) (hk : ∀ b x, b ∉ [d] → h.get? b = some x → h'.get? b = some x) : Rel c pins n st h' := by
  obtain ⟨g, m, MW, ML, Am, F, N, ND, RW, RL, RV⟩ := r
  have z := N (d, o) (pin_perm.subset (.head _))
  obtain ⟨nd, lt⟩ := nd_rem pin_perm ND
  refine ⟨g, m, MW, ML, Am, ⟨F.ns.at' fun o e => hk _ o (fun q => z.2.1 (List.mem_singleton.mp q).symm) e, fun b o e => hk b o (fun q => ?_) (F.keep b o e), F.above⟩, fun p hp => ?_, nd, RW, RL, RV.drop ho⟩
  · have := z.2.2
    rw [← List.mem_singleton.mp q] at this
    rw [this] at e; cases e
  · have w := N p (drop_sub p hp)
    exact ⟨hk _ _ (fun q => lt p hp (List.mem_singleton.mp q)) w.1, w.2⟩
theorem subVars_use : ∀ {s t : List (Str × V)}, subVars s t → ∀ {x y}, lk x s = some y → lk x t = some y
  | [], _, _, _, _, e => by cases e
  | (z, v) :: r, t, h, x, y, e => by
    unfold lk at e
    cases q : seq x z with
    | true => rw [q] at e; cases e; rw [seq_iff.mp q]; exact h.1
    | false => rw [q] at e; exact subVars_use h.2 e
theorem subSt_rel {s t : St} (h : subSt s t) {pins : Led} {hp : Heap} (r : Rel c pins n t hp) : Rel c pins n s hp := by
  obtain ⟨g, m, MW, ML, Am, F, N, ND, RW, RL, RV⟩ := r
  obtain ⟨e1, e2, e3⟩ := h
  exact ⟨g, m, MW, ML, Am, F, N, ND, by rw [e1]; exact RW, by rw [e2]; exact RL, fun x y e => RV x y (subVars_use e3 e)⟩
theorem for_list_ex {t iter : PySem.Expr} {body : List Stmt} {pos : Pos} {k : AFlow → St → Prop} {P : List D → St → Prop} (hh : c.hd = none)
    (hs : ∀ x, foldedSetIterable iter c.env x = pure x)
    (h : WP c BV (eval iter c.env) n st (fun v st' => ∃ ds, v = .d (.lst ds) ∧ P ds st') ex)
    (hgo : ∀ It l i u (s' : Shared) (Q' : Unit → Shared → Prop) (E' : Value → Shared → Prop) n' d, s'.heap.IsListIter It l i → True → BD n' d u → Q' () s' → wpAny c.M c.A (letOwnedTupleGo t (.ref It) u) Q' E' s')
    (hP : ∀ ds st, P ds st → ∃ (J : Nat → St → Prop) (B : Nat → St → Prop), J 0 st ∧
      (∀ i d n' st' u, ds[i]? = some d → BV n' (.d d) u → J i st' → WP c RU (assign t c.env u) n' st' (fun _ st'' => B i st'') noEx) ∧
      (∀ i n' st', B i st' → WP c RF (execs body c.env) n' st' (loopK (J (i + 1)) k) noEx) ∧ ∀ st', J ds.length st' → ∀ n pins h, Rel c pins n st' h → ∃ s, Rel c pins n s h ∧ k .next s) : WP c RF (exec (.For t iter body [] pos) c.env) n st k ex := by
  intro pins hp tk r
  refine wpAny_For (h.use .refl r fun n1 b v st1 h1 t1 l1 r1 bv q => ?_) hs
  refine cps fun Zz zz => ?_
  obtain ⟨ds, rfl, q⟩ := q
  obtain ⟨J, B, hJ, step, hbody, done⟩ := hP ds st1 q
  simp only [BV, BD] at bv
  obtain ⟨l, ws, q, rfl, hm, hb, hz⟩ := bv
  have hl : h1.get? l = some (listOf ws.toArray q) := r1.at_imm hm
  have hls : h1.IsList l ws.toArray := ⟨_, hl, rfl, _, rfl⟩
  have hne : l ≠ h1.objs.size := Nat.ne_of_lt (Heap.lt_size hl)
  refine zz ?_
  refine wpAny_pyIter_list hls ?_
  have W := Walks.list (prog := thePg) (w := c.w) (A := c.A) hh h1.objs.size l hne ws.toArray
  have r2 := r1.pinNew { cls := .type "list_iterator", data := .fields #[.ref l, .int 0 0] } rfl
  generalize hIt : h1.objs.size = It at W hne r2 ⊢
  refine codeAny_forLoop_any
    (fun m s' => ∃ h' tk n' st' i oI, s' = c.at_ h' tk ∧ n1.Le n' ∧ (oI.cls = .type "list_iterator" ∧ oI.data = .fields #[.ref l, .int (i : Nat) 0]) ∧ Rel c ((It, oI) :: pins) n' st' h' ∧ J i st' ∧ i ≤ ds.length ∧ m = ds.length + 1 - i) ?_ (ds.length + 1)
    ⟨_, t1, n1, st1, 0, _, rfl, .refl, ⟨rfl, rfl⟩, r2, hJ, Nat.zero_le _, rfl⟩
  rintro m s' ⟨h', tk', n', st', i, oI, rfl, le, ⟨hc1, hc2⟩, r', hJ', hi, rfl⟩
  have hls' : h'.IsList l ws.toArray := ⟨_, r'.at_imm (le.imm _ hm), rfl, _, rfl⟩
  have hit' : h'.IsListIter It l i := ⟨oI, r'.at_pin, hc1, hc2⟩
  have hsz : ws.toArray.size = ds.length := by rw [List.size_toArray, hb.len]
  by_cases hlt : i < ds.length
  · refine W.item i _ _ _ (by lia) ⟨hit', hls'⟩ fun v h₁ tk₁ hP hst₁ hk₁ => ?_
    refine cps fun Zz zz => ?_
    obtain ⟨oI', g1, g2, g3⟩ := id hst₁.1
    have r3 := r'.pin (noCell hc2) hk₁ g1
    have hP' : ws[i]? = some v := by simpa using hP
    obtain ⟨d, hd, bd⟩ := hb.at hP'
    have bd' := bd.mono le.imm
    refine zz ?_
    refine hgo It l (i + 1) v _ _ _ n'.imm d hst₁.1 trivial bd' ?_
    refine wpAny_mono (step i d n' st' v hd (by simpa only [BV] using bd') hJ' _ h₁ tk₁ r3) (fun _ s₂ o => ?_) fun _ _ x => x.no.elim
    cases o with
    | mk n4 b4 st4 h4 t4 l4 r4 rv4 q4 =>
    refine wpAny_mono (hbody i n4 st4 q4 _ h4 t4 r4) (fun f s₃ o => ?_) fun _ _ x => x.no.elim
    cases o with
    | mk n5 fl st5 h5 t5 l5 r5 rv5 q5 =>
    have fin : J (i + 1) st5 → ∃ m', m' < ds.length + 1 - i ∧ ∃ h' tk n' st' j oI, c.at_ h5 t5 = c.at_ h' tk ∧ n1.Le n' ∧ (oI.cls = .type "list_iterator" ∧ oI.data = .fields #[.ref l, .int (j : Nat) 0]) ∧ Rel c ((It, oI) :: pins) n' st' h' ∧ J j st' ∧ j ≤ ds.length ∧ m' = ds.length + 1 - j := fun hj =>
      ⟨ds.length + 1 - (i + 1), by lia, h5, t5, n5, st5, i + 1, oI', rfl, (le.trans l4).trans l5, ⟨g2, g3⟩, r5, hj, hlt, rfl⟩
    cases fl with
    | next => cases (show f = .next from rv5); exact fin q5
    | cont => cases (show f = .cont from rv5); exact fin q5
    | brk => cases (show f = .brk from rv5); exact Out.done (r5.drop (noCell g3)) (l1.trans ((le.trans l4).trans l5)) (b := AFlow.next) rfl q5
    | ret x => obtain ⟨v', rfl, bv'⟩ := rv5; exact Out.done (r5.drop (noCell g3)) (l1.trans ((le.trans l4).trans l5)) (b := AFlow.ret x) ⟨v', rfl, bv'⟩ q5
  · have hin : i = ds.length := by lia
    subst hin
    refine W.done _ _ _ (by rw [hsz]; exact ⟨hit', hls'⟩) fun h₁ tk₁ hk₁ => wpAny_execs_nil ?_
    refine cps fun Zz zz => ?_
    obtain ⟨s, hs, q⟩ := done _ hJ' _ _ _ (r'.unpin (noCell hc2) hk₁)
    refine zz ?_
    exact Out.done hs (l1.trans le) (b := AFlow.next) rfl q
noncomputable def RR (a b : Int) (_ : Cn) (_ : Unit) (v : Value) : Prop := ∃ r, v = .ref r
theorem for_range_sound {x : Str} {px : Pos} {iter : PySem.Expr} {body : List Stmt} {pos : Pos} {k : AFlow → St → Prop} {P : Int → Int → St → Prop} (hh : c.hd = none)
    (hs : ∀ x, foldedSetIterable iter c.env x = pure x)
    (h : ∀ pins hp tk (Q : Value → Shared → Prop), Rel c pins n st hp → (∀ n1 st1 hp' tk' r t u v a b, n.Le n1 → Rel c pins n1 st1 hp' → IsRange hp' r a b 1 t u v → P a b st1 → Q (.ref r) (c.at_ hp' tk')) → wpAny c.M c.A (eval iter c.env) Q (XOut c pins n ex) (c.at_ hp tk))
    (hP : ∀ a b st, P a b st → ∃ (J : Nat → St → Prop) (B : Nat → St → Prop), (-4096 ≤ a ∧ a ≤ 4096 ∧ -4096 ≤ b ∧ b ≤ 4096) ∧ J 0 st ∧
      (∀ (i : Nat) n' st' u, a + i < b → BV n' (.d (.int (a + i))) u → J i st' → WP c RU (assign (.Name x px) c.env u) n' st' (fun _ st'' => B i st'') noEx) ∧
      (∀ i n' st', B i st' → WP c RF (execs body c.env) n' st' (loopK (J (i + 1)) k) noEx) ∧ ∀ st', J (b - a).toNat st' → ∀ n pins h, Rel c pins n st' h → ∃ s, Rel c pins n s h ∧ k .next s) : WP c RF (exec (.For (.Name x px) iter body [] pos) c.env) n st k ex := by
  intro pins hp tk r
  refine wpAny_For (h pins hp tk _ r fun n1 st1 h1 t1 rg t u v a b l1 r1 hr q => ?_) hs
  refine cps fun Zz zz => ?_
  obtain ⟨J, B, ⟨e1, e2, e3, e4⟩, hJ, step, hbody, done⟩ := hP a b st1 q
  refine zz ?_
  refine wpAny_pyIter_range hr (small_one (by lia) (by lia) (by lia) (by lia)) ?_
  have hn := rangeSize_nat a b
  generalize hN : (b - a).toNat = N at hn done
  have hN' : ∀ i : Nat, i < N → a + (i : Int) < b := fun i hi => by lia
  have W := Walks.range (prog := thePg) (w := c.w) (A := c.A) hh h1.objs.size a 1 N
  rw [hn]
  have r2 := r1.pinNew { cls := .type "range_iterator", dict := none, data := .fields #[rawInt a, rawInt (N : Int), rawInt 1], slots := #[] } rfl
  have hit0 : IsRangeIter (h1.push { cls := .type "range_iterator", dict := none, data := .fields #[rawInt a, rawInt (N : Int), rawInt 1], slots := #[] }) h1.objs.size (a + ((0 : Nat) : Int) * 1) ((N : Int) - ((0 : Nat) : Int)) 1 := by
    simpa using Heap.get?_push_size h1 rfl
  generalize hIt : h1.objs.size = It at W r2 hit0 ⊢
  refine codeAny_forLoop_any
    (fun m s' => ∃ h' tk n' st' i, s' = c.at_ h' tk ∧ n1.Le n' ∧ Rel c ((It, { cls := .type "range_iterator", dict := none, data := .fields #[rawInt (a + ((i : Nat) : Int) * 1), rawInt ((N : Int) - ((i : Nat) : Int)), rawInt 1], slots := #[] }) :: pins) n' st' h' ∧ J i st' ∧ i ≤ N ∧ m = N + 1 - i) ?_ (N + 1)
    ⟨_, t1, n1, st1, 0, rfl, .refl, by simpa using r2, hJ, Nat.zero_le _, rfl⟩
  rintro m s' ⟨h', tk', n', st', i, rfl, le, r', hJ', hi, rfl⟩
  have hit' : IsRangeIter h' It (a + ((i : Nat) : Int) * 1) ((N : Int) - ((i : Nat) : Int)) 1 := r'.at_pin
  by_cases hlt : i < N
  · refine W.item i _ _ _ hlt hit' fun v h₁ tk₁ hP hst₁ hk₁ => ?_
    refine cps fun Zz zz => ?_
    obtain ⟨t', rfl⟩ := hP
    have r3 := r'.pin (noCell rfl) hk₁ hst₁
    refine zz ?_
    refine wpAny_of_eq (rfl : letOwnedTupleGo (.Name x px) (.ref It) (.int (a + (i : Nat) * 1) t') = pure ()) ?_
    rw [show a + ((i : Nat) : Int) * 1 = a + (i : Int) by lia]
    refine wpAny_mono (step i n' st' _ (hN' i hlt) BV.int' hJ' _ h₁ tk₁ r3) (fun _ s₂ o => ?_) fun _ _ x => x.no.elim
    cases o with
    | mk n4 b4 st4 h4 t4 l4 r4 rv4 q4 =>
    refine wpAny_mono (hbody i n4 st4 q4 _ h4 t4 r4) (fun f s₃ o => ?_) fun _ _ x => x.no.elim
    cases o with
    | mk n5 fl st5 h5 t5 l5 r5 rv5 q5 =>
    have fin : J (i + 1) st5 → ∃ m', m' < N + 1 - i ∧ ∃ h' tk n' st' j, c.at_ h5 t5 = c.at_ h' tk ∧ n1.Le n' ∧ Rel c ((It, { cls := .type "range_iterator", dict := none, data := .fields #[rawInt (a + ((j : Nat) : Int) * 1), rawInt ((N : Int) - ((j : Nat) : Int)), rawInt 1], slots := #[] }) :: pins) n' st' h' ∧ J j st' ∧ j ≤ N ∧ m' = N + 1 - j := fun hj =>
      ⟨N + 1 - (i + 1), by lia, h5, t5, n5, st5, i + 1, rfl, (le.trans l4).trans l5, r5, hj, hlt, rfl⟩
    cases fl with
    | next => cases (show f = .next from rv5); exact fin q5
    | cont => cases (show f = .cont from rv5); exact fin q5
    | brk => cases (show f = .brk from rv5); exact Out.done (r5.drop (noCell rfl)) (l1.trans ((le.trans l4).trans l5)) (b := AFlow.next) rfl q5
    | ret x => obtain ⟨v', rfl, bv'⟩ := rv5; exact Out.done (r5.drop (noCell rfl)) (l1.trans ((le.trans l4).trans l5)) (b := AFlow.ret x) ⟨v', rfl, bv'⟩ q5
  · have hin : i = N := by lia
    subst hin
    refine W.done _ _ _ hit' fun h₁ tk₁ hk₁ => wpAny_execs_nil ?_
    refine cps fun Zz zz => ?_
    obtain ⟨s, hs, q⟩ := done _ hJ' _ _ _ (r'.unpin (noCell rfl) hk₁)
    refine zz ?_
    exact Out.done hs (l1.trans le) (b := AFlow.next) rfl q
theorem while_sound {test : PySem.Expr} {body : List Stmt} {pos : Pos} {k : AFlow → St → Prop} {X : Type} {S : X → St} {J : X → Prop} {m : X → Nat} {T : X → V → St → Prop} {B : X → St → Prop} (h0 : ∃ x, J x ∧ subSt (S x) st)
    (hsub : ∀ s t, subSt s t → ∀ pins n h, Rel c pins n t h → Rel c pins n s h)
    (ht : ∀ x, J x → ∀ n, WP c RT (PySem.isTrue test c.env (eval test c.env)) n (S x) (fun v st => brB v (B x st) (k .next st)) noEx)
    (hb : ∀ x st', B x st' → ∀ n, WP c RF (execs body c.env) n st' (loopK (fun st => ∃ y, (J y ∧ m y < m x) ∧ subSt (S y) st) k) noEx) : WP c RF (exec (.While test body [] pos) c.env) n st k ex := by
  intro pins hp tk r
  obtain ⟨x0, j0, s0⟩ := h0
  refine wpAny_While (codeAny_whileLoop (fun q s' => ∃ h' tk n' x, s' = c.at_ h' tk ∧ n.Le n' ∧ Rel c pins n' (S x) h' ∧ J x ∧ q = m x) ?_ (m x0) ⟨hp, tk, n, x0, rfl, .refl, hsub _ _ s0 _ _ _ r, j0, rfl⟩)
  rintro q s' ⟨h', tk', n', x, rfl, le, r', jx, rfl⟩
  refine wpAny_mono (ht x jx n' _ h' tk' r') (fun b s₂ o => ?_) fun _ _ x => x.no.elim
  cases o with
  | mk n4 b4 st4 h4 t4 l4 r4 rv4 q4 =>
  rcases brB_use q4 rv4 with ⟨rfl, q4⟩ | ⟨rfl, q4⟩
  · rw [if_pos rfl]
    refine wpAny_mono (hb x st4 q4 n4 _ h4 t4 r4) (fun f s₃ o => ?_) fun _ _ x => x.no.elim
    cases o with
    | mk n5 fl st5 h5 t5 l5 r5 rv5 q5 =>
    have fin : (∃ y, (J y ∧ m y < m x) ∧ subSt (S y) st5) → ∃ q, q < m x ∧ ∃ h' tk n' x, c.at_ h5 t5 = c.at_ h' tk ∧ n.Le n' ∧ Rel c pins n' (S x) h' ∧ J x ∧ q = m x := fun ⟨y, ⟨jy, my⟩, sy⟩ => ⟨m y, my, h5, t5, n5, y, rfl, (le.trans l4).trans l5, hsub _ _ sy _ _ _ r5, jy, rfl⟩
    cases fl with
    | next => cases (show f = .next from rv5); exact fin q5
    | cont => cases (show f = .cont from rv5); exact fin q5
    | brk => cases (show f = .brk from rv5); exact Out.done r5 ((le.trans l4).trans l5) (b := AFlow.next) rfl q5
    | ret x => obtain ⟨v', rfl, bv'⟩ := rv5; exact Out.done r5 ((le.trans l4).trans l5) (b := AFlow.ret x) ⟨v', rfl, bv'⟩ q5
  · rw [if_neg Bool.false_ne_true]
    exact wpAny_execs_nil (Out.done r4 (le.trans l4) (b := AFlow.next) rfl q4)
end
end
noncomputable section
section
variable {c : Cx} {G : GP} {n : Cn} {st : St} {ex : Bool → Int → St → Prop}
theorem BVs.rev {n : Cn} : ∀ {l : List V} {vs : List Value}, BVs n l vs → BVs n l.reverse vs.reverse
  | [], vs, h => by cases (show _ = _ from h); exact .nil
  | x :: r, _, ⟨v, q, e, a, b⟩ => by
    subst e
    rw [List.reverse_cons, List.reverse_cons]
    exact BVs.app (.cons a .nil) b.rev
theorem storeAll_sound (hG : c.sc = G.sc) : ∀ (xs : List Str) (vs : List V) (vals : List Value) (n : Cn) (st : St) (k : St → Prop), storeAll G xs vs st k → BVs n vs vals → WP c RU (assignInOrder (xs.map fun x => bindName c.env x) vals) n st (fun _ st => k st) ex
  | [], [], vals, n, st, k, h, hb => fun pins hp tk r => assignInOrder_nil (Out.done r .refl (b := ()) trivial h)
  | [], _ :: _, _, _, _, _, h, _ => h.elim
  | _ :: _, [], _, _, _, _, h, _ => h.elim
  | x :: xs, v :: vs, vals, n, st, k, h, hb => fun pins hp tk r => by
    obtain ⟨v0, vr, rfl, b1, b2⟩ := hb
    refine assignInOrder_cons (wpAny_bindName ?_)
    refine (store_sound (ku := fun _ st => storeAll G xs vs st k) (ex := ex) hG h b1 fun st h => h).use .refl r fun n1 b v st1 h1 t1 l1 r1 bv q => ?_
    exact (storeAll_sound hG xs vs vr n1 st1 k q (b2.mono l1)).go l1 r1
theorem storeV_any {G : GP} {x : Str} {v : V} {st : St} {k : St → Prop} {P : Prop} (hk : ∀ st, k st → P) (h : storeV G x v st k) : P := by
  obtain ⟨ok, h⟩ := orB_use h
  cases e : boolV v with
  | none => rw [e] at h; exact hk _ h
  | some b =>
    rw [e] at h
    cases b with
    | true => exact hk _ h
    | false => exact hk _ h
theorem storeAll_len {G : GP} : ∀ {xs : List Str} {vs : List V} {st : St} {k : St → Prop}, storeAll G xs vs st k → xs.length = vs.length
  | [], [], _, _, _ => rfl
  | [], _ :: _, _, _, h => h.elim
  | _ :: _, [], _, _, h => h.elim
  | x :: xs, v :: vs, st, k, h => congrArg (· + 1) (storeV_any (fun st h => storeAll_len (xs := xs) (vs := vs) h) h)
theorem namesOf_some (c : Cx) : ∀ {ts : List PySem.Expr} {xs : List Str}, namesOf ts = some xs → xs.length = ts.length ∧ ((assignEach ts c.env).length = ts.length ∧ (assignEach ts c.env).findIdx? (·.1) = none) ∧
    ∀ G vs vals n st k ex, c.sc = G.sc → storeAll G xs vs st k → BVs n vs vals → WP c RU (assignInOrder ((assignEach ts c.env).map (·.2)) vals) n st (fun _ st => k st) ex
  | [], xs, h => by
    cases h
    refine ⟨rfl, ⟨rfl, rfl⟩, fun G vs vals n st k ex hG h hb => ?_⟩
    exact storeAll_sound (xs := []) hG vs vals n st k h hb
  | t :: ts, xs, h => by
    refine cps fun Zz zz => ?_
    obtain ⟨x, p, l, rfl, q, rfl⟩ := namesOf_cons h
    obtain ⟨a1, ⟨a2, a3⟩, a4⟩ := namesOf_some c q
    refine zz ?_
    refine ⟨congrArg (· + 1) a1, ⟨congrArg (· + 1) a2, ?_⟩, fun G vs vals n st k ex hG h hb => ?_⟩
    · show List.findIdx? _ ((false, assign (.Name x p) c.env) :: assignEach ts c.env) = none
      rw [List.findIdx?_cons, a3]; rfl
    · cases vs with
      | nil => exact h.elim
      | cons v vs =>
        refine cps fun Zz zz => ?_
        obtain ⟨v0, vr, rfl, b1, b2⟩ := hb
        refine zz ?_
        intro pins hp tk r
        show wpAny _ _ (assignInOrder ((assign (.Name x p) c.env) :: (assignEach ts c.env).map (·.2)) (v0 :: vr)) _ _ _
        refine assignInOrder_cons (wpAny_assign_Name ?_)
        refine (store_sound (ku := fun _ st => storeAll G l vs st k) (ex := ex) hG h b1 fun st h => h).use .refl r fun n1 b v st1 h1 t1 l1 r1 bv q => ?_
        exact (a4 G vs vr n1 st1 k ex hG q (b2.mono l1)).go l1 r1
theorem BDs.toV {n : Cn} : ∀ {ds : List D} {ws : List Value}, BDs n.imm ds ws → BVs n (ds.map V.d) ws
  | [], _, h => by rw [h.nil_inv]; exact .nil
  | d :: r, _, h => by
    obtain ⟨v, q, rfl, b1, b2⟩ := h.cons_inv
    exact .cons (by simpa only [BV] using b1) b2.toV
theorem unpack_sound (ok : GOk G c) (hh : c.hd = none) {ts : List PySem.Expr} {k1 : Nat} {p1 : Pos} {v : V} {val : Value} {k : St → Prop} (h : vcUnpack G ts v st k) (hv : BV n v val) : WP c RU (assign (.Tuple ts k1 p1) c.env val) n st (fun _ st => k st) ex := by
  refine cps fun Zz zz => ?_
  obtain ⟨xs, e, h⟩ := oM_use h
  obtain ⟨d, rfl, h⟩ := dOf_use h
  obtain ⟨ds, rfl, h⟩ := tOf_use h
  obtain ⟨a, ws, rfl, hm, hb⟩ := hv.tup
  obtain ⟨a1, ⟨a2, a3⟩, a4⟩ := namesOf_some c e
  refine zz ?_
  intro pins hp tk r
  refine cps fun Zz zz => ?_
  have hlen : xs.length = ds.length := by have := storeAll_len h; rwa [List.length_map] at this
  have hit := r.at_imm hm
  obtain ⟨g, m, MW, ML, Am, F, N, ND, RW, RL, RV⟩ := r
  refine zz ?_
  exact unpackN_ F N ⟨_, hit, rfl, _, rfl⟩ hh (by rw [a2, ← a1, hlen, List.size_toArray, hb.len]) a3 fun h' F' N' =>
    a4 G (ds.map V.d) ws n st k ex ok.sc h hb.toV _ _ _ ⟨g, m, MW, ML, Am, F', N', ND, RW, RL, RV⟩
theorem ncT_use {e : PySem.Expr} (h : ncT e.ctorIdx = true) : constantsAlone 8 e = false ∧ foldedForSure 8 e = false := by
  unfold ncT at h
  rw [Bool.or_eq_true, Bool.or_eq_true] at h
  rcases h with h | h | h
  · exact PySem.Expr.Compare.elim (motive_1 := fun e => constantsAlone 8 e = false ∧ foldedForSure 8 e = false) e (Nat.eq_of_beq_eq_true h) fun _ _ _ _ => ⟨rfl, rfl⟩
  · exact PySem.Expr.Call.elim (motive_1 := fun e => constantsAlone 8 e = false ∧ foldedForSure 8 e = false) e (Nat.eq_of_beq_eq_true h) fun _ _ _ _ => ⟨rfl, rfl⟩
  · exact PySem.Expr.List.elim (motive_1 := fun e => constantsAlone 8 e = false ∧ foldedForSure 8 e = false) e (Nat.eq_of_beq_eq_true h) fun _ _ => ⟨rfl, rfl⟩
theorem ncA_use {e : PySem.Expr} (h : ncA e = true) : constantsAlone 8 e = false ∧ foldedForSure 8 e = false := by
  unfold ncA at h
  rw [Bool.or_eq_true] at h
  rcases h with h | h
  · exact ncT_use h
  · by_cases q : e.ctorIdx = 2
    · rw [dif_pos q] at h
      revert h
      refine PySem.Expr.BinOp.elim (motive_1 := fun e => (q : e.ctorIdx = 2) → PySem.Expr.BinOp.elim (motive_1 := fun _ => Bool) e q (fun _ _ r _ => Nat.beq r.ctorIdx 16) = true → constantsAlone 8 e = false ∧ foldedForSure 8 e = false) e q (fun l o r p q h => ?_) q
      refine PySem.Expr.Call.elim (motive_1 := fun r => constantsAlone 8 (.BinOp l o r p) = false ∧ foldedForSure 8 (.BinOp l o r p) = false) r (Nat.eq_of_beq_eq_true h) fun f a k p => ⟨?_, rfl⟩
      show (constantsAlone 7 l && constantsAlone 7 (.Call f a k p)) = false
      rw [show constantsAlone 7 (.Call f a k p) = false from rfl, Bool.and_false]
    · rw [dif_neg q] at h; cases h
theorem names_filter {sc : Scope} {env : Env} (he : ∀ x, env.kindOf x = sc.names.lookup x) {line : Nat} {f : PySem.Expr → Option Str} (hf : ∀ x p, f (.Name x p) = if (env.kindOf x == some NameKind.local && p.line == line) = true then some x else none) {ts : List PySem.Expr} : ∀ {xs : List Str}, namesOf ts = some xs → sameLine line ts = true → xs.all (okVar sc) = true → ts.filterMap f = xs := by
  induction ts with
  | nil => intro xs h _ _; cases h; rfl
  | cons t ts ih =>
    intro xs h h2 h3
    obtain ⟨x, p, l, rfl, q, rfl⟩ := namesOf_cons h
    have h2 : (Nat.beq p.line line && sameLine line ts) = true := h2
    rw [Bool.and_eq_true] at h2
    rw [List.all_cons, Bool.and_eq_true] at h3
    rw [List.filterMap_cons, hf, if_pos (by rw [he, (okVar_use h3.1).1, show p.line = line from Nat.eq_of_beq_eq_true h2.1]; simp)]
    exact congrArg (x :: ·) (ih q h2.2 h3.2)
theorem eraseDups_nodup : ∀ {l : List Str}, l.Nodup → l.eraseDups = l
  | [], _ => rfl
  | x :: r, h => by
    rw [List.nodup_cons] at h
    rw [List.eraseDups_cons, List.filter_eq_self.mpr (fun a ha => by
      have : a ≠ x := fun e => h.1 (e ▸ ha)
      simpa using this), eraseDups_nodup h.2]
theorem swap_pure {ts es : List PySem.Expr} {k1 k2 : Nat} {p1 p2 : Pos} {xs : List Str} (h : swapOk c.sc ts es = true) (e : namesOf ts = some xs) : swappedStores [.Tuple ts k1 p1] (.Tuple es k2 p2) c.env = pure (some xs) := by
  unfold swapOk at h
  rw [e] at h
  simp only [Bool.and_eq_true, Bool.not_eq_true'] at h
  obtain ⟨h1, h2, h3, h4, h5, h6, h7⟩ := h
  have e1 : (ts.length == 2 || ts.length == 3) = true := by
    rw [lnth_eq] at h1
    rw [Bool.or_eq_true] at h1 ⊢
    exact h1.imp (fun q => beq_iff_eq.mpr (Nat.eq_of_beq_eq_true q)) fun q => beq_iff_eq.mpr (Nat.eq_of_beq_eq_true q)
  have e2 : (es.length != ts.length) = false := by
    have := Nat.eq_of_beq_eq_true h2
    rw [lnth_eq, lnth_eq] at this
    rw [this]; simp
  have e3 : (c.env.blockKind != ScopeKind.function) = false := by
    have : c.env.blockKind = .function := by
      show (if c.sc.kind.isAnnotationScope then ScopeKind.function else c.sc.kind) = .function
      rw [c.hk]; rfl
    rw [this]; rfl
  have hl := (namesOf_some c e).1
  have e4 := fun (f : PySem.Expr → Bool) (hf : ∀ e, f e = isStar e) => (show es.any f = es.any isStar from congrArg es.any (funext hf)).trans h3
  have e5 := fun (f : PySem.Expr → Option Str) hf => names_filter (env := c.env) (sc := c.sc) (f := f) (fun x => rfl) hf e h4 h6
  have e6 : (xs.length != ts.length || xs.eraseDups.length != xs.length) = false := by
    rw [eraseDups_nodup (distS_nodup h5), hl]; simp
  obtain ⟨a, ha, hna⟩ := List.any_eq_true.mp h7
  have e7 : es.all (foldedForSure 8) = false := by
    rw [List.all_eq_false]
    exact ⟨a, ha, by rw [(ncA_use hna).2]; exact Bool.false_ne_true⟩
  have e8 : es.all (constantsAlone 8) = false := by
    rw [List.all_eq_false]
    exact ⟨a, ha, by rw [(ncA_use hna).1]; exact Bool.false_ne_true⟩
  show (if _ = true then pure none else if _ = true then pure none else if _ = true then pure none else if _ = true then pure none else if _ = true then unsupported _ else pure (some _)) = _
  refine (if_neg ?_).trans ((if_neg ?_).trans ((if_neg ?_).trans ((if_neg ?_).trans ((if_neg ?_).trans ?_))))
  · rw [e1, e2, e3]; decide
  · rw [e4]
    · exact Bool.false_ne_true
    · exact fun e => by cases e <;> rfl
  · rw [e5]
    · rw [e6]; exact Bool.false_ne_true
    · exact fun _ _ => rfl
  · rw [e7]; exact Bool.false_ne_true
  · rw [e8]; exact Bool.false_ne_true
  · rw [e5]
    exact fun _ _ => rfl
end
end
noncomputable section
theorem swaps_no {e : PySem.Expr} {t : Option PySem.Expr} {l : Nat} {env : Env} (h : isCompE e = false) : swapsWith e t l env = pure false := by
  cases e <;> first | rfl | cases h
theorem typeOf_Exc : typeOf (.type "Exception") = pure (.type "type") := by kernel_rfl
theorem ns_some_of {K : Frag} {h : Heap} {N : Addr} {mN : Str → Option Value} {n : Str} {v : Value} (X : K.In h) (G : h.Ns N mN) (e : nsIn K N n = some (some v)) : mN n = some v := by
  obtain ⟨o, es, ep, ho, hd, _, hf⟩ := G
  unfold nsIn at e
  split at e
  · rename_i c d es' n' sl q
    have z := X _ _ q
    rw [ho] at z
    cases z
    cases hd
    split at e
    · rename_i en he
      cases e
      rw [← hf]
      unfold nsFind findBy
      rw [← Array.find?_toList, he]
      rfl
    · split at e <;> cases e
  · cases e
noncomputable abbrev exBm : List Value := [.type "Exception", .type "BaseException", .type "object"]
noncomputable abbrev exNm : Str := Str.ofString "QuicError"
noncomputable abbrev exObj38 : Obj := excClassObj exNm exNm 38 37 [.type "Exception"] exBm true [] [] false none none (some (.ref 22)) none (some (.str exNm 202)) (some (.str exNm 210)) (some (.bool true)) "Exception.__new__"
theorem exc_38 (P : Params) : (heapK P).lookup 38 = some exObj38 := by kernel_rfl
noncomputable abbrev exFd : FuncData := fnOf (Str.ofString "__init__") (Str.ofString "QuicError.__init__") (fPr (stIn 5 0)) (fBd (stIn 5 0)) (fSc (stIn 5 0)) .none .none .none (.str (Str.ofString "quic.errors") 194) none (.ref 34) .none
theorem exc_35 (P : Params) : (heapK P).lookup 35 = some { cls := .type "function", data := .func exFd } := by kernel_rfl
theorem exc_code (P : Params) : codeIn (heapK P) (.ref 34) (Str.ofString "QuicError.__init__") = true := by kernel_rfl
theorem exc_ns (P : Params) : nsOkIn (heapK P) 37 = true := by kernel_rfl
theorem exc_init (P : Params) : nsIn (heapK P) 37 "__init__" = some (some (.ref 35)) := by kernel_rfl
theorem exc_set (P : Params) : findIn (heapK P) (.ref 38) "__setattr__" = some (some (.builtin "object.__setattr__")) := by kernel_rfl
theorem exc_f1 (P : Params) : findIn (heapK P) (.ref 38) (Str.ofString "code") = some none := by kernel_rfl
theorem exc_f2 (P : Params) : findIn (heapK P) (.ref 38) (Str.ofString "frame_type") = some none := by kernel_rfl
theorem exc_f3 (P : Params) : findIn (heapK P) (.ref 38) (Str.ofString "text") = some none := by kernel_rfl
theorem exc_cls (P : Params) : clsIn (heapK P) 38 = some { name := exNm, bases := [.type "Exception"], mro := .ref 38 :: exBm, ns := 37, qualname := exNm, hasDict := true, slotNames := [], subclasses := [], abstract := false, collection := none, hasDel := false } := by kernel_rfl
theorem exc_meth (P : Params) : findCls (heapK P) (.type "Exception") (.type "type") (Str.ofString "__init__") = some (.val (.builtin "Exception.__init__")) := by kernel_rfl
theorem exc_gE (P : Params) : nsIn (heapK P) mainGlobals (Str.ofString "Exception") = some none := by kernel_rfl
theorem exc_gS (P : Params) : nsIn (heapK P) mainGlobals (Str.ofString "str") = some none := by kernel_rfl
theorem exc_scope : (isFunK (fSc (stIn 5 0)).kind && (!(fSc (stIn 5 0)).isCoroutine && (!(fSc (stIn 5 0)).isGenerator && (allNotCell (fSc (stIn 5 0)).names && [Str.ofString "self", Str.ofString "code", Str.ofString "frame_type", Str.ofString "text"].all (okVar (fSc (stIn 5 0))))))) = true := by kernel_rfl
theorem exc_bind (a b d e : Value) : bindArgs exFd ⟨[a, b, d, e], []⟩ = pure ([Str.ofString "self", Str.ofString "code", Str.ofString "frame_type", Str.ofString "text"].zip [a, b, d, e]) := by kernel_rfl
theorem exc_body {R : Prop} (k : ∀ (p1 p2 p3 p4 p5 p6 p7 p8 p9 p10 p11 p12 q1 q2 q3 q4 q5 q6 q7 q8 q9 q10 q11 q12 : Pos) (j : Nat), Nat.beq p2.endLine p11.line = true → fBd (stIn 5 0) =
    [.Expr (.Call (.Attribute (.Name (Str.ofString "Exception") p1) (Str.ofString "__init__") p2) [.Name (Str.ofString "self") p3, .BinOp (.BinOp (.Call (.Name (Str.ofString "str") p4) [.Name (Str.ofString "code") p5] [] p6) .Add (.Constant (.str (Str.ofString ": ")) j p7) p8) .Add (.Name (Str.ofString "text") p9) p10] [] p11) p12,
     .Assign [.Attribute (.Name (Str.ofString "self") q1) (Str.ofString "code") q2] (.Name (Str.ofString "code") q3) q4,
     .Assign [.Attribute (.Name (Str.ofString "self") q5) (Str.ofString "frame_type") q6] (.Name (Str.ofString "frame_type") q7) q8,
     .Assign [.Attribute (.Name (Str.ofString "self") q9) (Str.ofString "text") q10] (.Name (Str.ofString "text") q11) q12] → R) : R := k _ _ _ _ _ _ _ _ _ _ _ _ _ _ _ _ _ _ _ _ _ _ _ _ _ rfl rfl
section
variable {w : World} {p : Program} {loose : List Str} {mean : ExcName → Option Value} {mg mb : Str → Option Value} {A : Around} {h₀ : Heap} {L : Addr} {m : Str → Option Value} {hp : Heap} {s : Shared} {E : Value → Shared → Prop}
theorem exc_walk {e t : Addr} {code : Int} {tc : Tok} {ft : Value} {text : Str} {tt : Tok} {news : Led} {cdv : Value} {Q : Flow → Shared → Prop} (hc : 0 ≤ code ∧ code < 10) (htx : text.length ≤ 100) (X : (heapK w.params).In h₀) (T : Top p loose mean mg mb h₀)
    (F : Fr h₀ L s.heap m) (N : News h₀ L s.heap ((e, excObj0 t) :: news)) (hne : ∀ p ∈ news, p.1 ≠ e) (m1 : m (Str.ofString "self") = some (.ref e)) (m2 : m (Str.ofString "code") = some (.int code tc)) (m3 : m (Str.ofString "frame_type") = some ft) (m4 : m (Str.ofString "text") = some (.str text tt))
    (ret : ∀ d t' od h' tk, Fr h₀ L h' m → News h₀ L h' ((e, excObj d t') :: (d, od) :: news) → ExcDict od code → (∀ p ∈ news, p.1 ≠ d) → e ≠ d → Q .next { s with heap := h', toks := tk }) :
    wpAny (model thePg w) A (execs (fBd (stIn 5 0)) (envOf (Str.ofString "QuicError.__init__") (fSc (stIn 5 0)) L 35 cdv)) Q E s := by
  refine exc_body fun p1 p2 p3 p4 p5 p6 p7 p8 p9 p10 p11 p12 q1 q2 q3 q4 q5 q6 q7 q8 q9 q10 q11 q12 j hl hb => ?_
  rw [hb]
  have hk : (fSc (stIn 5 0)).kind = .function := rfl
  have nd : ∀ x, seq x (Str.ofString "__debug__") = false → (x == Str.ofString "__debug__") = false := fun x h => by rw [← seq_eq]; exact h
  obtain ⟨pl, hm⟩ := mcall (o := .Name (Str.ofString "Exception") p1) (name := Str.ofString "__init__") (apos := p2) (pos := p11) (args := [.Name (Str.ofString "self") p3, .BinOp (.BinOp (.Call (.Name (Str.ofString "str") p4) [.Name (Str.ofString "code") p5] [] p6) .Add (.Constant (.str (Str.ofString ": ")) j p7) p8) .Add (.Name (Str.ofString "text") p9) p10]) (env := envOf (Str.ofString "QuicError.__init__") (fSc (stIn 5 0)) L 35 cdv) (by
    show (true && (true && (true && Nat.beq p2.endLine p11.line))) = true
    rw [hl]; rfl)
  have hp : ExcCls (heapK w.params) _ := ⟨exc_cls _, rfl, rfl⟩
  refine wpAny_execs_cons (wpAny_Expr_any (MethodCall_ (nameX_B F X (topRead_of T) (exc_gE _) rfl (by decide) ?_ hk rfl (nd _ rfl)) hm) rfl (swaps_no rfl))
  refine method_type F X typeOf_Exc (by decide +kernel) (exc_meth _) rfl ?_
  refine callWith_method1 (first := []) (args_cons (nameX_L F m1 (args_cons (wpAny_BinOp (wpAny_BinOp (Call_ (nameX_B F X (topRead_of T) (exc_gS _) rfl (by decide) (callWith_type1 (args_cons (nameX_L F m2 (args_nil ?_) hk rfl (nd _ rfl)) rfl) rfl rfl) hk rfl (nd _ rfl)) name_call))) rfl) hk rfl (nd _ rfl)) rfl) rfl rfl
  have hlen : (Str.ofString (toString code)).length ≤ 10 := by
    have : ∀ k : Fin 10, (Str.ofString (toString ((k.val : Nat) : Int))).length ≤ 10 := by decide +kernel
    have := this ⟨code.toNat, by omega⟩
    rwa [show ((code.toNat : Nat) : Int) = code by omega] at this
  refine P.str_of_int (shown (N := 2 ^ 1920) (by omega) (by omega) (Int.le_refl _)) ?_
  refine Constant_str (add_str (fun t1 k1 => nameX_L F m4 (add_str (fun t2 k2 => args_nil ?_) ?_) hk rfl (nd _ rfl)) ?_)
  · refine exc_init_builtin F X N hne (exc_38 _) fun t3 h3 F3 N3 => ?_
    refine wpAny_execs_cons (plainObj_wpAny_Assign_Attribute (nameX_L F3 m2 (nameX_L F3 m1 ?_ hk rfl (nd _ rfl)) hk rfl (nd _ rfl)) (swaps_no rfl))
    refine exc_set_first (adr := []) F3 X N3 hne (fun _ _ _ h => nomatch h) hp (exc_f1 _) (exc_set _) fun d h4 k4 F4 N4 off lt => ?_
    have nd4 : ∀ p ∈ news, p.1 ≠ d := fun p hp => off p hp d (.head _)
    have ed : e ≠ d := Nat.ne_of_lt lt
    refine wpAny_execs_cons (plainObj_wpAny_Assign_Attribute (nameX_L F4 m3 (nameX_L F4 m1 ?_ hk rfl (nd _ rfl)) hk rfl (nd _ rfl)) (swaps_no rfl))
    refine exc_set_dict F4 X N4 (.head _) (.tail _ (.head _)) hp (exc_f2 _) (exc_set _) rfl rfl (.tail ed (.head nd4)) (Nat.le_of_ble_eq_true rfl) fun h5 F5 N5 => ?_
    refine wpAny_execs_cons (plainObj_wpAny_Assign_Attribute (nameX_L F5 m4 (nameX_L F5 m1 ?_ hk rfl (nd _ rfl)) hk rfl (nd _ rfl)) (swaps_no rfl))
    refine exc_set_dict F5 X N5 (.head _) (.tail _ (.head _)) hp (exc_f3 _) (exc_set _) rfl rfl (.tail ed (.head nd4)) (Nat.le_of_ble_eq_true rfl) fun h6 F6 N6 => ?_
    exact wpAny_execs_nil (ret _ _ _ _ _ F6 N6 ⟨_, _, rfl, tc, rfl⟩ nd4 ed)
  · rw [sizeLine_eq, Str.length_append]
    have : (Str.ofString ": ").length = 2 := rfl
    omega
  · rw [sizeLine_eq]
    have : (Str.ofString ": ").length = 2 := rfl
    omega
theorem mk_exc {c : Cx} (hd : c.dp + 1 < recursionLimit) {g hp : Heap} {tk : Nat} {news : Led} {m : Str → Option Value} {code : Int} {tc : Tok} {ft : Value} {text : Str} {tt : Tok} (hc : 0 ≤ code ∧ code < 10) (htx : text.length ≤ 100) (Am : Amb c g) (F : Fr g c.L hp m) (N : News g c.L hp news) {Q : Value → Shared → Prop}
    (ret : ∀ e d t' od h' tk', Fr g c.L h' m → News g c.L h' ((e, excObj d t') :: (d, od) :: news) → ExcDict od code → (∀ p ∈ news, p.1 ≠ d) → (∀ p ∈ news, p.1 ≠ e) → e ≠ d → Q (.ref e) (c.at_ h' tk')) :
    wpAny c.M c.A (call (.ref 38) [.int code tc, ft, .str text tt]) Q E (c.at_ hp tk) := by
  have hK := exc_38 c.w.params
  have hC := F.keep _ _ (Am.X _ _ hK)
  have Xs := Am.X.keeps F.keep
  have hn : hp.Ns 37 (hp.nsMap 37) := .of_isNs (isNs_of_in Xs (exc_ns _))
  have hi : hp.nsMap 37 "__init__" = some (.ref 35) := ns_some_of Xs hn (exc_init _)
  have hfI := F.keep _ _ (Am.X _ _ (exc_35 c.w.params))
  refine wpAny_call_exc_init ExcF hC hn hi hfI rfl (fun h' e hm => ?_) (by rw [sizeLine_eq]; exact Nat.le_of_ble_eq_true rfl)
  obtain ⟨t, F', N', hne⟩ := made_news hm F N
  have hs := exc_scope
  simp only [Bool.and_eq_true, Bool.not_eq_true'] at hs
  obtain ⟨s1, s2, s3, s4, s5⟩ := hs
  refine wpAny_call ?_
  refine PySem.W.code_def (s := c.at_ h' tk) (env := c.env) (K := heapK c.w.params) Am.B F' Am.X N' Am.T rfl rfl c.hk (exc_35 _) (exc_code _) hd (BindsTo.of_eq (exc_bind _ _ _ _)) (fun y hy => ?_) (fun g' L' h₁ FG F1 N1 B1 X1 T1 => ?_) s2 s3 (by cases q : (fSc (stIn 5 0)).kind <;> first | rfl | (rw [q] at s1; cases s1)) (allNotCell_use s4)
  · have : y.1 ∈ [Str.ofString "self", Str.ofString "code", Str.ofString "frame_type", Str.ofString "text"] := (List.of_mem_zip (show (y.1, y.2) ∈ _ from hy)).1
    exact (okVar_use (List.all_eq_true.mp s5 _ this)).1
  · refine exc_walk (s := c.at_ h₁ _) hc htx X1 T1 F1 N1 hne rfl rfl rfl rfl fun d t' od h2 tk' F2 N2 ed nd ne => ?_
    refine leaveK_ F2 N2 fun F3 N3 => ⟨rfl, ret e d t' od h2 tk' F3 N3 ed nd hne ne⟩
end
theorem exc_keep (P : Params) : keepIn (heapK P) (.ref 38) = true := by kernel_rfl
section
variable {c : Cx} {G : GP} {n : Cn} {st : St} {ex : Bool → Int → St → Prop}
theorem raise_sound (ok : GOk G c) {f : FX} (hf : ∀ e n st k, f e st k → WP c BV (eval e c.env) n st k ex) {e : PySem.Expr} {pos : Pos} {k : AFlow → St → Prop} (hR : raiseX G f e st (ex true)) : WP c RF (exec (.Raise (some e) none pos) c.env) n st k ex := by
  refine eCl_go hR fun fn args ks p e1 h => nil1_go h fun e2 h => eNm_go h fun q qp e3 h => orB_go h fun h0 hv => ?_
  subst e1 e2 e3
  simp only [Bool.and_eq_true, Bool.not_eq_true'] at h0
  obtain ⟨i1, i2, i3, i4⟩ := h0
  intro pins hp tk r
  obtain ⟨g, m, MW, ML, Am, F, N, ND, RW, RL, RV⟩ := id r
  refine raise_q (ok.hd i1) Am.X (exc_38 _) (Call_ ?_ name_call)
  rw [← ok.sc] at i3
  obtain ⟨hdb, hg⟩ := ok.glob q _ (isTopG_use i2)
  rcases hg with ⟨u, h1, h2⟩ | ⟨b, h1, _⟩
  · cases (show u = .ref 38 from h2 ⟨[], [], []⟩)
    refine nameX_K F Am.X (topRead_of Am.T) h1 ?_ c.hk (isGlobN_use i3) hdb
    have key : ∀ {n1 : Cn} {st1 : St} {h1 : Heap} {t1 : Nat} {vs : List V} {vals : List Value}, n.Le n1 → Rel c pins n1 st1 h1 → BVs n1 vs vals → (errV vs fun c x => orB (litErr c x) (ex true c st1) False) → wpAny c.M c.A (call (.ref 38) vals) (RaisePost c.K (XOut c pins n ex)) (XOut c pins n ex) (c.at_ h1 t1) := by
      intro n1 st1 h1 t1 vs vals l1 r1 bv q
      obtain ⟨code, y, x, rfl, q⟩ := errV_use q
      obtain ⟨hl, q⟩ := orB_use q
      obtain ⟨v1, q1, rfl, b1, bv⟩ := bv
      obtain ⟨v2, q2, rfl, b2, bv⟩ := bv
      obtain ⟨v3, q3, rfl, b3, bv⟩ := bv
      cases (show q3 = [] from bv)
      obtain ⟨tc, rfl⟩ := b1.int
      obtain ⟨tt, rfl⟩ := b3.str
      unfold litErr at hl
      rw [Bool.and_eq_true] at hl
      obtain ⟨g1, m1, MW1, ML1, Am1, F1, N1, ND1, RW1, RL1, RV1⟩ := r1
      refine mk_exc (by have := c.hdp; omega) ?_ ?_ Am1 F1 N1 fun e d t' od h' tk' F' N' ed nd ne ed' => ?_
      · cases code with
        | ofNat k => have := Nat.le_of_ble_eq_true hl.1; exact ⟨Int.natCast_nonneg k, by show (k : Int) < 10; omega⟩
        | negSucc k => exact Bool.noConfusion hl.1
      · have := Nat.le_of_ble_eq_true hl.2
        rw [lnth_eq] at this
        exact this
      · refine ⟨e, d, t', rfl, (N' _ (.head _)).1, Am1.X.keeps F'.keep, .first n1 st1 code h' tk' e d t' od g1 m1 MW1 ML1 l1 Am1 F' N' ?_ ed RW1 RL1 q⟩
        rw [List.map_cons, List.map_cons, List.nodup_cons, List.nodup_cons]
        refine ⟨fun hm => ?_, fun hm => ?_, ND1⟩
        · rcases List.mem_cons.mp hm with z | hm
          · exact ed' z
          · obtain ⟨p, hp, z⟩ := List.mem_map.mp hm
            exact ne p hp z
        · obtain ⟨p, hp, z⟩ := List.mem_map.mp hm
          exact nd p hp z
    cases args with
    | nil =>
      exact False.elim hv
    | cons a ar =>
      have hs' := i4
      rw [List.any_cons, Bool.or_eq_false_iff] at hs'
      refine callWith_K Am.X (exc_keep _) ((vcL_sound hf p (a :: ar) n st _ i4 hv).use .refl r fun n1 vs vals st1 h1 t1 l1 r1 bv q => ⟨?_, key l1 r1 bv q⟩) (star_no hs'.1) (back_no _ _ _ hs'.2)
      obtain ⟨g1, m1, MW1, ML1, Am1, F1, N1, ND1, RW1, RL1, RV1⟩ := r1
      exact Am1.X.keeps F1.keep
  · cases h1
end
end
noncomputable section
section
variable {c : Cx} {G : GP} {n : Cn} {st : St} {ex : Bool → Int → St → Prop}
theorem lk_delV {x w : Str} {y : V} : ∀ {vars : List (Str × V)}, lk x (delV w vars) = some y → x ≠ w ∧ lk x vars = some y
  | [], h => by cases h
  | p :: r, h => by
    unfold delV at h
    cases e : seq w p.1 with
    | true =>
      rw [e] at h
      obtain ⟨a, b⟩ := lk_delV (vars := r) h
      refine ⟨a, ?_⟩
      unfold lk
      have : seq x p.1 = false := by
        cases q : seq x p.1 with
        | false => rfl
        | true => exact absurd ((seq_iff.mp q).trans (seq_iff.mp e).symm) a
      rw [this]; exact b
    | false =>
      rw [e] at h
      unfold lk at h ⊢
      cases q : seq x p.1 with
      | true =>
        rw [q] at h
        refine ⟨fun z => ?_, h⟩
        rw [← z, q] at e; cases e
      | false => rw [q] at h; exact lk_delV (vars := r) h
noncomputable abbrev Cx.hold (c : Cx) (e : Addr) : Cx := { c with hd := some (.ref e) }
theorem name_goes_x {A : Around} {s : Shared} {g : Heap} {m : Str → Option Value} {news : Led} {w : Str} {pos : Pos} {Q : Unit → Shared → Prop} {E : Value → Shared → Prop} (F : Fr g c.L s.heap m) (N : News g c.L s.heap news) (hw : okVar c.sc w = true)
    (h : ∀ h' v, Fr g c.L h' (fun x => if x = w then v else m x) → News g c.L h' news → Q () { s with heap := h', toks := s.toks + 1 }) :
    wpAny c.M A (do bindName c.env w .none; unbindBehindTheSuite c.env w pos) Q E s :=
  wpAny_nameGoes_keeps (okVar_use hw).1 F.ns (by show (c.sc.kind == .class || (c.sc.kind == .module && c.L != mainGlobals)) = false; rw [c.hk]; rfl) fun h' v hn hs => h h' v (F.set hn hs) (N.set hs)
theorem try_on {A : Around} (hA : A = c.A₀.deeper c.env) (hS : c.S = true) {q w : Str} {qp hp' : Pos} {h0 : Stmt} {hb : List Stmt} {s : Shared} {e d : Addr} {g G : Heap} {m : Str → Option Value} {news : Led} {Q : Flow → Shared → Prop} {E : Value → Shared → Prop}
    (hw : okVar c.sc w = true) (hn : nsIn c.K mainGlobals q = some (some (.ref 38))) (hq : c.sc.names.lookup q = some .globalImplicit) (hdb : (q == ("__debug__" : Str)) = false) (Am : Amb c g) (F : Fr g c.L G m) (R : RaisedQ c.base G (c.env :: c.outer) e d news s.heap) (us : G.UpToSlots s.heap)
    (k : ∀ h' g' vs sl tk, Amb (c.hold e) g' → Fr g' c.L h' (fun y => if y = w then some (.ref e) else m y) → News g' c.L h' ((e, ⟨.ref 38, some d, .fields vs, sl⟩) :: news) →
      wpAny c.M (A.mark (some (.ref e))) (execs (h0 :: hb) c.env) (fun f s₄ => wpAny c.M A (do bindName c.env w .none; unbindBehindTheSuite c.env w hp') (fun _ s₅ => Q f s₅) E s₄) (fun _ _ => False) { s with heap := h', toks := tk }) :
    wpAny c.M A (noteFrame (.ref e) c.env) (fun _ s₂ => wpAny c.M A (setFlight (.ref e) none) (fun _ s₃ => wpAny c.M A (handleBy (.ref e) c.env [.ExceptHandler (some (.Name q qp)) (some w) (h0 :: hb) hp']) Q E s₃) E s₂) E s := by
  have t := Am.t
  unfold Turn at t
  rw [hS] at t
  obtain ⟨D, T0, XB, TB⟩ := t
  subst hA
  refine caught_x R F Am.B us XB TB D T0 hn (exc_38 _) rfl (fun h' g' vs sl tk T' F' N' K' X' P' D' => ?_) c.hk (okVar_use hw).1 hq hdb
  refine wpAny_mono (k h' g' vs sl tk ⟨K', X', P', ?_⟩ F' N') (fun _ _ x => x) fun _ _ x => x.elim
  show Turn c g'
  unfold Turn
  rw [hS]
  exact ⟨D', T', XB, TB⟩
theorem try_sound (ok : GOk G c) {b : List Stmt} {q w : Str} {qp hp' pos : Pos} {h0 : Stmt} {hb : List Stmt} {k : AFlow → St → Prop} {ex' : Int → St → Prop} (hc : (G.h && (G.s && (isQE (G.glob q) && (isGlobN (kindN G.sc q) && okVar G.sc w)))) = true)
    (hb1 : WP c RF (execs b c.env) n st k fun md i st => match md with | true => False | false => ex' i st)
    (hb2 : ∀ c' : Cx, GOk G.off c' → c'.env = c.env → ∀ n i st, ex' i st → WP c' RF (execs (h0 :: hb) c'.env) n ⟨st.W, st.Lc, setV w (.exc i) st.vars⟩ (fun fl st => retOf fl fun d => k (.ret d) ⟨st.W, st.Lc, delV w st.vars⟩) noEx) : WP c RF (exec (.Try b [.ExceptHandler (some (.Name q qp)) (some w) (h0 :: hb) hp'] [] [] pos) c.env) n st k ex := by
  refine cps fun Zz zz => ?_
  simp only [Bool.and_eq_true] at hc
  obtain ⟨i1, i2, i3, i4, i5⟩ := hc
  obtain ⟨hS, hA⟩ := ok.s i2
  obtain ⟨hdb, hg⟩ := ok.glob q _ (isTopG_use i3)
  rw [← ok.sc] at i4 i5
  refine zz ?_
  intro pins hp tk r
  refine wpAny_Try_except (wpAny_mono (hb1 pins hp tk r) (fun f s' o => ?_) fun e s' x => ?_)
  · cases f with
    | next => exact wpAny_execs_nil o
    | _ => exact o
  · cases x with
    | first _ _ _ _ _ _ _ _ _ _ _ _ _ _ _ _ _ _ _ _ _ q => exact q.elim
    | on n1 st1 code h1 t1 e d t od g G9 m MW ML le Am F R us ND hx RW RL RV q1 =>
      rcases hg with ⟨u, g1, g2⟩ | ⟨b, g1, _⟩
      · cases (show u = .ref 38 from g2 ⟨[], [], []⟩)
        refine try_on hA hS i5 g1 (isGlobN_use i4) hdb Am F R us fun h2 g' vs sl tk2 Am2 F2 N2 => ?_
        have le2 : n1.Le ⟨n1.ga, n1.la, (e, ⟨.ref 38, some d, .fields vs, sl⟩) :: (d, od) :: n1.imm⟩ := ⟨fun _ _ h => h, fun _ _ h => h, fun p hp => .tail _ (.tail _ hp)⟩
        have pm : ((e, (⟨.ref 38, some d, .fields vs, sl⟩ : Obj)) :: (d, od) :: (MW ++ (ML ++ (n1.imm ++ pins)))).Perm (MW ++ (ML ++ (((e, ⟨.ref 38, some d, .fields vs, sl⟩) :: (d, od) :: n1.imm) ++ pins))) := by
          rw [← List.append_assoc MW, ← List.append_assoc MW, List.cons_append, List.cons_append]
          exact (List.perm_middle.trans (List.perm_middle.cons _)).symm
        have rel : Rel (c.hold e) pins ⟨n1.ga, n1.la, (e, ⟨.ref 38, some d, .fields vs, sl⟩) :: (d, od) :: n1.imm⟩ ⟨st1.W, st1.Lc, setV w (.exc code) st1.vars⟩ h2 :=
          ⟨g', _, MW, ML, Am2, F2, news_sub N2 fun p hp => pm.symm.subset hp, (List.Perm.nodup_iff (List.Perm.map _ pm)).mp ND, RW.mono fun _ _ _ => RO.mono le2, RL.mono fun _ _ _ => RLo.mono le2,
            (RV.mono le2).store i5 ⟨e, d, vs, sl, od, rfl, .head _, .tail _ (.head _), hx⟩⟩
        have okc : GOk G.off (c.hold e) := ⟨ok.sc, fun h => Bool.noConfusion h, fun h => Bool.noConfusion h, ok.glob, ok.meth, ok.okn, fun _ _ h => nomatch h⟩
        refine wpAny_mono (hb2 (c.hold e) okc rfl _ _ _ q1 pins h2 tk2 rel) (fun f s' o => ?_) fun _ _ x => x.no
        cases o with
        | mk n3 b st3 h3 t3 l3 r3 rv3 q3 =>
          refine cps fun Zz zz => ?_
          obtain ⟨y, rfl, q3⟩ := retOf_use q3
          obtain ⟨g3, m3, MW3, ML3, Am3, F3, N3, ND3, RW3, RL3, RV3⟩ := r3
          refine zz ?_
          refine name_goes_x (s := c.at_ h3 t3) F3 N3 i5 fun h4 v F4 N4 => ?_
          refine Out.done (c := c) (tk := t3 + 1) (st := ⟨st3.W, st3.Lc, delV w st3.vars⟩) ⟨g3, _, MW3, ML3, ⟨Am3.B, Am3.X, Am3.T, Am3.t⟩, F4, N4, ND3, RW3, RL3, fun x y e => ?_⟩ (le.trans (le2.trans l3)) rv3 q3
          refine cps fun Zz zz => ?_
          obtain ⟨ne, e⟩ := lk_delV e
          obtain ⟨v', a, b, hh⟩ := RV3 x y e
          refine zz ?_
          exact ⟨v', a, b, hh.imp (fun h => ⟨h.1, (if_neg ne).trans h.2⟩) id⟩
      · cases g1
noncomputable abbrev FS := Stmt → St → (AFlow → St → Prop) → Prop
theorem vcB_sound {f : FS} (hf : ∀ s n st k, f s st k → WP c RF (exec s c.env) n st k ex) : ∀ (b : List Stmt) (n : Cn) (st : St) (k : AFlow → St → Prop), vcB f b st k → WP c RF (execs b c.env) n st k ex := by
  intro b
  induction b with
  | nil => intro n st k h pins hp tk r; exact wpAny_execs_nil (Out.done r .refl (b := AFlow.next) rfl h)
  | cons s rest ih =>
    intro n st k h pins hp tk r
    refine wpAny_execs_cons ((hf s n st _ h).use .refl r fun n1 fl f h1 t1 st1 l1 r1 bv q => ?_)
    cases fl with
    | next => cases (show f = .next from bv); exact (ih n1 _ _ q).go l1 r1
    | brk => cases (show f = .brk from bv); exact Out.done r1 l1 (b := AFlow.brk) rfl q
    | cont => cases (show f = .cont from bv); exact Out.done r1 l1 (b := AFlow.cont) rfl q
    | ret x => obtain ⟨v, rfl, bv'⟩ := bv; exact Out.done r1 l1 (b := AFlow.ret x) ⟨v, rfl, bv'⟩ q
theorem target_sound (ok : GOk G c) (hh : c.hd = none) {t : PySem.Expr} {v : V} {val : Value} {k : St → Prop} (h : vcTarget G t v st k) (hv : BV n v val) : WP c RU (assign t c.env val) n st (fun _ st => k st) ex := by
  cases t with
  | Name x p =>
    intro pins hp tk r
    exact wpAny_assign_Name (store_sound (ku := fun _ st => k st) (ex := ex) ok.sc h hv (fun _ h => h) pins hp tk r)
  | Tuple es j p => exact unpack_sound ok hh (orB_no h).2 hv
  | _ => exact h.elim
theorem nt_go {t : PySem.Expr} (ht : isNT t = true) (It l : Addr) (i : Nat) (u : Value) (s' : Shared) (Q' : Unit → Shared → Prop) (E' : Value → Shared → Prop) (n' : Led) (d : D) (hi : s'.heap.IsListIter It l i) (hd : BD n' d u) (h : Q' () s') : wpAny c.M c.A (letOwnedTupleGo t (.ref It) u) Q' E' s' := by
  cases t <;> first | cases ht | skip
  · exact wpAny_of_eq (a := ()) rfl h
  · rename_i es kk pp
    cases u with
    | ref T => exact wpAny_letOwnedTupleGo_listiter hi h
    | _ => exact wpAny_pure h
theorem range_eval (ok : GOk G c) {f : FX} (hf : ∀ e n st k, f e st k → WP c BV (eval e c.env) n st k ex) {rn : Str} {rp p2 : Pos} {args : List PySem.Expr} {P : Int → Int → St → Prop} (h1 : isRangeG (G.glob rn) = true) (h2 : isGlobN (kindN G.sc rn) = true) (h3 : args.any isStar = false)
    (h : vcL f args st fun vs st => rangeV vs fun a b => P a b st) : ∀ pins hp tk (Q : Value → Shared → Prop), Rel c pins n st hp → (∀ n1 st1 hp' tk' r t u v a b, n.Le n1 → Rel c pins n1 st1 hp' → IsRange hp' r a b 1 t u v → P a b st1 → Q (.ref r) (c.at_ hp' tk')) → wpAny c.M c.A (eval (.Call (.Name rn rp) args [] p2) c.env) Q (XOut c pins n ex) (c.at_ hp tk) := by
  intro pins hp tk Q r hQ
  refine Call_ ?_ name_call
  have key : ∀ vals n1 st1 h1 t1, n.Le n1 → Rel c pins n1 st1 h1 → ∀ vs, BVs n1 vs vals → (rangeV vs fun a b => P a b st1) → wpAny c.M c.A (call (.type "range") vals) Q (XOut c pins n ex) (c.at_ h1 t1) := by
    intro vals n1 st1 h1 t1 l1 r1 vs bv q
    have fresh : ∀ o : Obj, o.isFreed = false → (∀ v, o.data ≠ .cell v) → Rel c pins n1 st1 (h1.push o) := fun o hf ho => (r1.pinNew o hf).drop ho
    replace q := rangeV_use q
    obtain ⟨a, b, ⟨rfl, rfl⟩ | rfl, q⟩ := q
    · obtain ⟨v, rfl, h⟩ := bv.one
      obtain ⟨t, rfl⟩ := h.int
      exact call_range_1 (hQ n1 st1 _ _ _ _ _ _ 0 b l1 (fresh _ rfl fun v e => by cases e) (Heap.get?_push_size _ rfl) q)
    · obtain ⟨v, u, rfl, h, h'⟩ := bv.two
      obtain ⟨t, rfl⟩ := h.int
      obtain ⟨t', rfl⟩ := h'.int
      exact call_range_2 (hQ n1 st1 _ _ _ _ _ _ a b l1 (fresh _ rfl fun v e => by cases e) (Heap.get?_push_size _ rfl) q)
  have hg := isRangeG_use h1
  refine (vcName_sound (n := n) (ex := ex) (k := fun v st' => v = .bi .range ∧ vcL f args st' fun vs st => rangeV vs fun a b => P a b st) ok ?_).use .refl r fun n0 b v st0 h0 t0 l0 r0 bv q => ?_
  · have hn : lk rn st.vars = none := by
      cases e : lk rn st.vars with
      | none => rfl
      | some y =>
        obtain ⟨g, m, MW, ML, Am, F, N, ND, RW, RL, RV⟩ := r
        obtain ⟨_, _, _, hk⟩ := RV rn y e
        rw [← ok.sc] at h2
        rw [isGlobN_use h2] at hk
        rcases hk with ⟨h, _⟩ | ⟨h, _⟩ <;> cases h
    unfold nameX
    rw [hn]
    show oM (G.glob rn) _
    rw [hg]
    show orB (isGlobN (kindN G.sc rn)) _ False
    rw [h2]
    exact ⟨rfl, h⟩
  obtain ⟨rfl, q⟩ := q
  cases (show v = .type "range" from bv)
  cases args with
  | nil => exact callWith_type0 (key [] n0 st0 h0 t0 l0 r0 [] .nil q)
  | cons e r' =>
    have hs' := h3
    rw [List.any_cons, Bool.or_eq_false_iff] at hs'
    exact PyProof.Rows.callWith_type1 ((vcL_sound hf p2 _ n0 _ _ h3 q).use l0 r0 fun n1 vs vals st1 h1 t1 l1 r1 bv q => key vals n1 st1 h1 t1 (l0.trans l1) r1 vs bv q) (star_no hs'.1) (back_no _ _ _ hs'.2)
end
end
noncomputable section
section
theorem swapsSole {t v : PySem.Expr} {l : Nat} {env : Env} (h : isCompE v = false) : swapsWithSole [t] v l env = pure false := by
  unfold swapsWithSole; exact swaps_no h
theorem unroll_parts {c : Cx} {G : GP} (ok : GOk G c) (hh : c.hd = none) {t : PySem.Expr} {body : List Stmt} {ds : List D} {k : AFlow → St → Prop} {F : FS} (hF : ∀ s n st k, F s st k → WP c RF (exec s c.env) n st k noEx) :
    (∀ i d n' st' u, ds[i]? = some d → BV n' (.d d) u → (fun i st => unroll (fun d st k => vcTarget G t (.d d) st fun st => vcB F body st k) (ds.drop i) st k) i st' → WP c RU (assign t c.env u) n' st' (fun _ st'' => (fun i st => vcB F body st (loopK (fun st => unroll (fun d st k => vcTarget G t (.d d) st fun st => vcB F body st k) (ds.drop (i + 1)) st k) k)) i st'') noEx) ∧
    (∀ i n' st', (fun i st => vcB F body st (loopK (fun st => unroll (fun d st k => vcTarget G t (.d d) st fun st => vcB F body st k) (ds.drop (i + 1)) st k) k)) i st' → WP c RF (execs body c.env) n' st' (loopK ((fun i st => unroll (fun d st k => vcTarget G t (.d d) st fun st => vcB F body st k) (ds.drop i) st k) (i + 1)) k) noEx) ∧
    ∀ st', (fun i st => unroll (fun d st k => vcTarget G t (.d d) st fun st => vcB F body st k) (ds.drop i) st k) ds.length st' → ∀ n pins h, Rel c pins n st' h → ∃ s, Rel c pins n s h ∧ k .next s := by
  refine ⟨?_, ?_, ?_⟩
  · intro i d n' st' u hd hv hJ
    have e : ds.drop i = d :: ds.drop (i + 1) := by
      obtain ⟨h1, h2⟩ := List.getElem?_eq_some_iff.mp hd
      rw [List.drop_eq_getElem_cons h1, h2]
    rw [e] at hJ
    exact target_sound ok hh hJ hv
  · intro i n' st' hB
    exact vcB_sound hF _ _ _ _ hB
  · intro st' hJ n pins h r
    rw [List.drop_length] at hJ
    exact ⟨_, r, hJ⟩
theorem fsi_name {z : Str} {zp : Pos} {env : Env} (x : Value) : foldedSetIterable (.Name z zp) env x = pure x := rfl
theorem fsi_call {f : PySem.Expr} {args : List PySem.Expr} {p : Pos} {env : Env} (x : Value) : foldedSetIterable (.Call f args [] p) env x = pure x := rfl
theorem not_disp {v : PySem.Expr} {ts : List PySem.Expr} {k : Nat} {p : Pos} {env : Env} (h : v.ctorIdx ≠ 25) : swappedStores [.Tuple ts k p] v env = pure none := by cases v <;> first | rfl | exact absurd rfl h
theorem ifX_sound {c : Cx} {n : Cn} {st : St} {I : Option Inv} {t : PySem.Expr} {b o : List Stmt} {p : Pos} {ft : (V → St → Prop) → Prop} {fb fo : St → (AFlow → St → Prop) → Prop} {k : AFlow → St → Prop} {ex : Bool → Int → St → Prop} (hT : ∀ k, ft k → WP c RT (PySem.isTrue t c.env (eval t c.env)) n st k ex) (hb : ∀ n st k, fb st k → WP c RF (execs b c.env) n st k ex) (ho : ∀ n st k, fo st k → WP c RF (execs o c.env) n st k ex)
    (h : ifX I ft fb fo k) : WP c RF (exec (.If t b o p) c.env) n st k ex := by
  have main : ∀ k', ft (fun v st => brB v (fb st k') (fo st k')) → WP c RF (exec (.If t b o p) c.env) n st k' ex := fun k' h pins hp tk r => by
    refine wpAny_If ((hT _ h).use .refl r fun n1 b v st1 h1 t1 l1 r1 bv q => ?_)
    rcases brB_use q bv with ⟨rfl, q⟩ | ⟨rfl, q⟩
    · rw [if_pos rfl]; exact (hb n1 _ _ q).go l1 r1
    · rw [if_neg Bool.false_ne_true]; exact (ho n1 _ _ q).go l1 r1
  cases I with
  | none => exact main k h
  | some I =>
    intro pins hp tk r
    refine (main _ h.1).use .refl r fun n2 fl f st2 h2 t2 l rr rv q => ?_
    cases fl with
    | next =>
      obtain ⟨x, hJ, hs⟩ := q
      cases (show f = .next from rv)
      exact Out.done (subSt_rel hs rr) l (b := AFlow.next) rfl (h.2 x hJ)
    | brk => exact Out.done rr l rv q
    | cont => exact Out.done rr l rv q
    | ret x => exact Out.done rr l rv q
section
variable {c : Cx} {G : GP} {n : Cn} {st : St} {ex : Bool → Int → St → Prop} {f : FX}
theorem asgX_sound (ok : GOk G c) (hf : ∀ e n st k, f e st k → WP c BV (eval e c.env) n st k ex) {t v : PySem.Expr} {pos : Pos} {k : AFlow → St → Prop} (h : asgX G f t v st (k .next)) : WP c RF (exec (.Assign [t] v pos) c.env) n st k ex := by
  cases t with
  | Name x p =>
    obtain ⟨hc, h⟩ := orB_no h
    intro pins hp tk r
    refine wpAny_Assign_Name ((hf _ n _ _ h).use .refl r fun n1 b v st1 h1 t1 l1 r1 bv q => ?_) (swaps_no hc)
    exact (store_sound (ku := fun _ st => k .next st) (ex := ex) ok.sc q bv (fun _ h => h)).use l1 r1 fun n2 b v st2 h2 t2 l2 r2 bv q => Out.done r2 (l1.trans l2) (b := AFlow.next) rfl q
  | Tuple ts k1 p1 =>
    have h : asgT G f ts v st (k .next) := h
    unfold asgT at h
    cases he : isDisp v with
    | some es =>
      rw [he] at h
      obtain ⟨h0, hv⟩ := orB_use h
      clear h
      rw [Bool.and_eq_true] at h0
      obtain ⟨hh, h0⟩ := h0
      have hh := ok.hd hh
      obtain ⟨k2, p3, rfl⟩ := isDisp_use he
      rw [← ok.sc] at h0
      have h0' := h0
      unfold swapOk at h0'
      cases e : namesOf ts with
      | none => rw [e] at h0'; cases h0'
      | some xs =>
        rw [e] at h0' hv
        simp only [Bool.and_eq_true, Bool.not_eq_true'] at h0'
        obtain ⟨g1, g2, g3, _⟩ := h0'
        intro pins hp tk r
        refine Assign_Tuple_swapped (Tuple_ ((vcL_sound hf _ _ n _ _ g3 hv).use .refl r fun n1 vs vals st1 h1 t1 l1 r1 bv q => ?_)) (by rfl) (swap_pure h0 e)
        have q : storeAll G xs.reverse vs.reverse st1 (k .next) := q
        have hlen : vals.length = xs.length := by
          have := storeAll_len q
          rw [List.length_reverse, List.length_reverse] at this
          rw [bv.len, this]
        have hsm : vals.length ≤ 3 := by
          have hl := (namesOf_some c e).1
          rw [lnth_eq, Bool.or_eq_true] at g1
          rcases g1 with g | g
          · have := Nat.eq_of_beq_eq_true g; omega
          · have := Nat.eq_of_beq_eq_true g; omega
        obtain ⟨g, m', MW, ML, Am, F, N, ND, RW, RL, RV⟩ := id r1
        refine newTuple_N F N (fun h' F' N' => ?_) (by rw [sizeLine_eq]; omega)
        refine unpackItemsN_ F' N' ⟨_, (N' _ (.head _)).1, rfl, _, rfl⟩ hh (by simpa using hlen.symm) fun h2 F2 N2 => ?_
        have r2 : Rel c pins n1 st1 h2 := ⟨g, m', MW, ML, Am, F2, news_sub N2 fun p hp => .tail _ hp, ND, RW, RL, RV⟩
        refine (storeAll_sound ok.sc (ex := ex) _ _ vals.reverse n1 st1 _ q bv.rev).use l1 r2 fun n3 b v st3 h3 t3 l3 r3 bv q => ?_
        exact Out.done r3 (l1.trans l3) (b := AFlow.next) rfl q
    | none =>
      rw [he] at h
      obtain ⟨h0, h⟩ := orB_use h
      rw [Bool.and_eq_true, Bool.and_eq_true, Bool.not_eq_true'] at h0
      have hh := ok.hd h0.1
      intro pins hp tk r
      refine Assign_Tuple ((hf _ n _ _ h).use .refl r fun n1 b val st1 h1 t1 l1 r1 bv q => ?_) (swapsSole h0.2.1) (not_disp (isDisp_no he))
      exact (unpack_sound (ex := ex) ok hh q bv).use l1 r1 fun n2 b v st2 h2 t2 l2 r2 bv q => Out.done r2 (l1.trans l2) (b := AFlow.next) rfl q
  | Attribute o a p =>
    obtain ⟨hc, h⟩ := orB_no h
    intro pins hp tk r
    refine plainObj_wpAny_Assign_Attribute ((hf _ n _ _ h).use .refl r fun n1 b v st1 h1 t1 l1 r1 bv q => (hf _ n1 _ _ q).use l1 r1 fun n2 b2 v2 st2 h2 t2 l2 r2 bv2 q => ?_) (swaps_no hc)
    exact (vcSetAttr_sound (ex := ex) (ku := fun _ st => k .next st) ok.okn q bv2 (bv.mono l2) (fun _ h => h)).use (l1.trans l2) r2 fun n3 b v st3 h3 t3 l3 r3 bv q => Out.done r3 ((l1.trans l2).trans l3) (b := AFlow.next) rfl q
  | Subscript o i p =>
    obtain ⟨hc, h⟩ := orB_no h
    intro pins hp tk r
    refine wpAny_Assign_Subscript ((hf _ n _ _ h).use .refl r fun n1 b v st1 h1 t1 l1 r1 bv q => (hf _ n1 _ _ q).use l1 r1 fun n2 b2 v2 st2 h2 t2 l2 r2 bv2 q => (hf _ n2 _ _ q).use (l1.trans l2) r2 fun n3 b3 v3 st3 h3 t3 l3 r3 bv3 q => ?_) (swaps_no hc)
    exact (vcSetItem_sound (ex := ex) (ku := fun _ st => k .next st) q (bv2.mono l3) bv3 (bv.mono (l2.trans l3)) (fun _ h => h)).use ((l1.trans l2).trans l3) r3 fun n4 b v st4 h4 t4 l4 r4 bv q => Out.done r4 (((l1.trans l2).trans l3).trans l4) (b := AFlow.next) rfl q
  | _ => exact h.elim
theorem augX_sound (ok : GOk G c) (hf : ∀ e n st k, f e st k → WP c BV (eval e c.env) n st k ex) {t v : PySem.Expr} {op : Operator} {pos : Pos} {k : AFlow → St → Prop} (h : augX G f t op v st (k .next)) : WP c RF (exec (.AugAssign t op v pos) c.env) n st k ex := by
  refine eAt_go h fun o a p e z0z => orB_go z0z fun e2 h => ?_
  clear z0z
  subst e
  cases (show op = .Add by cases op <;> first | rfl | cases e2)
  intro pins hp tk r
  refine wpAny_AugAssign_AttributeAny ((hf _ n _ _ h).use .refl r fun n1 bo vo st1 h1 t1 l1 r1 bvo q => ?_)
  refine (vcAttr_sound (ex := ex) q bvo).use l1 r1 fun n2 ba va st2 h2 t2 l2 r2 bva q => ?_
  refine (hf _ n2 _ _ q).use (l1.trans l2) r2 fun n3 b3 v3 st3 h3 t3 l3 r3 bv3 q => ?_
  obtain ⟨x, y, rfl, rfl, q2⟩ := int2_use q
  obtain ⟨t, rfl⟩ := (bva.mono l3).int
  obtain ⟨t', rfl⟩ := bv3.int
  refine wpAny_iadd_int ?_
  exact (vcSetAttr_sound (ex := ex) (ku := fun _ st => k .next st) ok.okn q2 ((bvo.mono l2).mono l3) BV.int' (fun _ h => h)).use ((l1.trans l2).trans l3) r3 fun n4 b v st4 h4 t4 l4 r4 bv q => Out.done r4 (((l1.trans l2).trans l3).trans l4) (b := AFlow.next) rfl q
theorem forX_sound (ok : GOk G c) (hf : ∀ e n st k, f e st k → WP c BV (eval e c.env) n st k ex) {F : FS} (hF : ∀ s n st k, F s st k → WP c RF (exec s c.env) n st k noEx) {t it : PySem.Expr} {b : List Stmt} {p : Pos} {k : AFlow → St → Prop} (h : forX G f (vcB F) t it p b st k) : WP c RF (exec (.For t it b [] p) c.env) n st k ex := by
  have hB := vcB_sound hF
  cases it with
  | Call fn args ks p2 =>
    refine cps fun Zz zz => ?_
    refine nil1_go h fun e h => eNm_go h fun rn rp e2 h => orB_go h fun h0 hv => ?_
    subst e e2
    simp only [Bool.and_eq_true, Bool.not_eq_true'] at h0
    obtain ⟨hh, h1, h2, h3, h4⟩ := h0
    have hh := ok.hd hh
    obtain ⟨x, px, rfl⟩ := isNameE_use h4
    refine zz ?_
    refine for_range_sound (P := fun a b' st => forRange (G.inv (lineOf p) st) a b' (vcTarget G (.Name x px)) (vcB F b) st k) hh fsi_call (range_eval ok hf h1 h2 h3 hv) ?_
    intro a b' st' hP
    unfold forRange at hP
    cases e : G.inv (lineOf p) st' with
    | none => rw [e] at hP; exact hP.elim
    | some I =>
      refine cps fun Zz zz => ?_
      rw [e] at hP
      obtain ⟨⟨e1, e2, e3, e4⟩, h5, h6, h7⟩ := hP
      refine zz ?_
      refine ⟨fun i st => ∃ x, I.J i x ∧ subSt (I.S x) st, fun i st => vcB F b st (loopK (fun st => ∃ x, I.J (i + 1) x ∧ subSt (I.S x) st) k), ⟨e1, e2, e3, e4⟩, h5, ?_, fun i n' st' q => hB _ n' _ _ q, ?_⟩
      · rintro i n' st' u hi bv ⟨y, hJ, hs⟩ pins hp tk r
        exact target_sound ok hh (h6 i y ⟨hi, hJ⟩) bv pins hp tk (subSt_rel hs r)
      · rintro st' ⟨y, hJ, hs⟩ n pins h r
        exact ⟨_, subSt_rel hs r, h7 y hJ⟩
  | Name z zp =>
    refine cps fun Zz zz => ?_
    obtain ⟨h0, h⟩ := orB_use h
    rw [Bool.and_eq_true] at h0
    have hh := ok.hd h0.1
    have key : WP c BV (eval (.Name z zp) c.env) n st (fun v st => ∃ ds, v = .d (.lst ds) ∧ forList (G.inv (lineOf p) st) ds (vcTarget G t) (vcB F b) st k) ex := (hf _ n _ _ h).mono (fun v st q => by
      obtain ⟨d, rfl, q⟩ := dOf_use q
      obtain ⟨ds, rfl, q⟩ := lOf_use q
      exact ⟨ds, rfl, q⟩) fun _ _ _ x => x
    refine zz ?_
    refine for_list_ex hh fsi_name key (fun It l i u s' Q' E' n' d a b cc e => nt_go h0.2 It l i u s' Q' E' n' d a cc e) ?_
    intro ds st' hP
    unfold forList at hP
    cases e : G.inv (lineOf p) st' with
    | some I =>
      refine cps fun Zz zz => ?_
      rw [e] at hP
      obtain ⟨h4, h5, h6, h7⟩ := hP
      refine zz ?_
      refine ⟨fun i st => ∃ x, I.J i x ∧ subSt (I.S x) st, fun i st => vcB F b st (loopK (fun st => ∃ x, I.J (i + 1) x ∧ subSt (I.S x) st) k), h5, ?_, fun i n' st' q => hB _ n' _ _ q, ?_⟩
      · rintro i d n' st' u hd bv ⟨y, hJ, hs⟩ pins hp tk r
        rw [h4, List.getElem?_map] at hd
        cases e : I.items[i]? with
        | none => rw [e] at hd; cases hd
        | some a =>
          refine cps fun Zz zz => ?_
          rw [e] at hd
          cases hd
          refine zz ?_
          exact target_sound ok hh (h6 i a y ⟨e, hJ⟩) bv pins hp tk (subSt_rel hs r)
      · rintro st' ⟨y, hJ, hs⟩ n pins h r
        rw [h4, List.length_map] at hJ
        exact ⟨_, subSt_rel hs r, h7 y hJ⟩
    | none =>
      rw [e] at hP
      exact ⟨_, _, hP, (unroll_parts ok hh hF).1, (unroll_parts ok hh hF).2.1, (unroll_parts ok hh hF).2.2⟩
  | _ => exact h.elim
end
theorem vcS_sound : ∀ (fuel : Nat) (G : GP) (c : Cx) (_ : GOk G c) (ex : Bool → Int → St → Prop) (s : Stmt) (n : Cn) (st : St) (k : AFlow → St → Prop), vcS G fuel ex s st k → WP c RF (exec s c.env) n st k ex := by
  intro fuel
  induction fuel with
  | zero => intro _ _ _ _ _ _ _ _ h; cases h
  | succ m ih =>
    intro G c ok ex s n st k h
    have ihF : ∀ ex e n st k, vcX G ex m false e st k → WP c BV (eval e c.env) n st k ex := fun ex e n st k h => vcX_sound ok m false e st k h n
    have ihT : ∀ ex e n st k, vcX G ex m true e st k → WP c RT (PySem.isTrue e c.env (eval e c.env)) n st k ex := fun ex e n st k h => vcX_sound ok m true e st k h n
    have ihB : ∀ ex b n st k, vcB (vcS G m ex) b st k → WP c RF (execs b c.env) n st k ex := fun ex => vcB_sound (ih G c ok ex)
    cases s with
    | If t b o p => exact ifX_sound (fun k h => ihT ex t n st k h) (ihB ex b) (ihB ex o) h
    | Return e p =>
      refine oM_go h fun e he h => ?_
      subst he
      intro pins hp tk r
      refine wpAny_Return_some ((ihF ex _ n _ _ h).use .refl r fun n1 b v st1 h1 t1 l1 r1 bv q => ?_)
      obtain ⟨d, st2, n2, l2, r2, b2, q⟩ := frz_sound q bv r1
      exact Out.done r2 (l1.trans l2) (b := AFlow.ret d) ⟨v, rfl, by simpa only [BV] using b2⟩ q
    | Assign ts v p =>
      refine one1_go h fun t e h => ?_
      subst e
      exact asgX_sound ok (ihF ex) h
    | AugAssign t op v p => exact augX_sound ok (ihF ex) h
    | Expr e p =>
      obtain ⟨hc, h⟩ := orB_no h
      intro pins hp tk r
      have hi : interactive c.env = false := by
        show (c.sc.kind == .module && _) = false
        rw [c.hk]; rfl
      exact wpAny_Expr_any ((ihF ex _ n _ _ h).use .refl r fun n1 b v st1 h1 t1 l1 r1 bv q => Out.done r1 l1 (b := AFlow.next) rfl q) hi (swaps_no hc)
    | Pass p => exact fun pins hp tk r => wpAny_Pass (Out.done r .refl (b := AFlow.next) rfl h)
    | Raise e cs p =>
      refine oM_go h fun e he h => ?_
      subst he
      cases cs with
      | none => exact raise_sound ok (ihF ex) h
      | some => exact h.elim
    | For t it b els p =>
      refine nil1_go h fun e h => ?_
      subst e
      exact forX_sound ok (ihF ex) (ih G c ok noEx) h
    | While t b els p =>
      refine nil1_go h fun e z0z => orB_go z0z fun h0 hv => ?_
      clear z0z
      subst e
      unfold whileX at hv
      cases e : G.winv (lineOf p) st with
      | none => rw [e] at hv; exact hv.elim
      | some I =>
        rw [e] at hv
        obtain ⟨h1, h2⟩ := hv
        exact while_sound (S := I.S) (J := I.J) (m := I.m) (T := fun _ _ _ => True) (B := fun x st => vcB (vcS G m noEx) _ st (loopK (fun st => ∃ y : I.X, (I.J y ∧ I.m y < I.m x) ∧ subSt (I.S y) st) k)) h1 (fun s t h pins n hp r => subSt_rel h r)
          (fun x jx n => ihT noEx _ n _ _ (h2 x jx)) (fun x st' hB n => ihB noEx _ n _ _ hB)
    | Try b hs els fin p =>
      refine nil1_go h fun e z0z => nil1_go z0z fun e2 z1z => one1_go z1z fun hd e3 h => ?_
      clear z1z z0z
      obtain ⟨ty, nm, body, hp⟩ := hd
      refine oM_go h fun q e4 z0z => eNm_go z0z fun q qp e5 z1z => oM_go z1z fun w e6 hv => ?_
      clear z1z z0z
      subst e e2 e3 e5 e4 e6
      cases body with
      | nil => exact hv.elim
      | cons h0 hb =>
        obtain ⟨hc, h⟩ := orB_use hv
        refine try_sound ok hc (ex' := fun c st => vcB (vcS G.off m noEx) (h0 :: hb) ⟨st.W, st.Lc, setV w (.exc c) st.vars⟩ fun fl st => retOf fl fun d => k (.ret d) ⟨st.W, st.Lc, delV w st.vars⟩) ((ihB _ _ n _ _ h).mono (fun _ _ q => q) fun md i st q => by cases md <;> exact q) ?_
        intro c' ok' he n i st hB
        exact vcB_sound (ih _ c' ok' noEx) _ n _ _ hB
    | _ => exact h.elim
end
end
noncomputable section
noncomputable def notDbg (x : Str) : Bool := !seq x (Str.ofString "__debug__")
noncomputable def retV : AFlow → V
  | .ret d => .d d
  | _ => .d .none
section
variable {c : Cx}
noncomputable def Cx.kid (c : Cx) (A' : Around) (sf : Bool) (qual : Str) (scope : Scope) (L' f : Addr) (cdv : Value) (cl : List (Str × Addr)) (g : Heap) (hk : scope.kind = .function) (hr : 1 ≤ c.room) (hd : A'.depth ≤ c.dp + 1) (hu : A'.units ≤ c.un + 20) : Cx :=
  { w := c.w, p := c.p, loose := c.loose, mean := c.mean, mg := c.mg, mb := c.mb, dp := A'.depth + 1, un := A'.units + 3, gd := A'.guards, nm := qual, sc := scope, L := L', a := f, cd := cdv, cl := cl, outer := c.env :: c.outer, A₀ := A', base := c.base, g₀ := g, S := sf, hd := A'.handled, s₀ := c.s₀, hk := hk, room := c.room - 1,
    hdp := by have := c.hdp; omega, hun := by have := c.hun; omega }
theorem Cx.kid_A {c : Cx} {A' : Around} {sf : Bool} {qual : Str} {scope : Scope} {L' f : Addr} {cdv : Value} {cl : List (Str × Addr)} {g : Heap} {hk : scope.kind = .function} {hr : 1 ≤ c.room} {hd : A'.depth ≤ c.dp + 1} {hu : A'.units ≤ c.un + 20} (hA : A'.frames = some (c.env :: c.outer)) :
    (c.kid A' sf qual scope L' f cdv cl g hk hr hd hu).A = A'.deeper (c.kid A' sf qual scope L' f cdv cl g hk hr hd hu).env := by
  obtain ⟨h1, h2, h3, h4, h5⟩ := A'
  cases (show h3 = _ from hA)
  rfl
theorem zip_fst_sub : ∀ (xs : List Str) (vals : List Value), ((xs.zip vals).map (·.1)).Sublist xs
  | [], _ => by simp
  | _ :: _, [] => by simp
  | x :: xs, v :: vs => by rw [List.zip_cons_cons, List.map_cons]; exact (zip_fst_sub xs vs).cons_cons _
theorem RaisedQ.sub {base G : Heap} {l : List Env} {e d : Addr} {news news' : Led} {h : Heap} (r : RaisedQ base G l e d news h) (hs : ∀ p ∈ news', p ∈ news) : RaisedQ base G l e d news' h := by
  obtain ⟨B, hB, hBG, hl, hfl⟩ := r
  exact ⟨B, hB, hBG, fun q hq => hl q (hs q hq), hfl⟩
theorem zip_at {n : Cn} {y : V} {x : Str} {xs : List Str} : ∀ {Vs : List V} {vals : List Value}, BVs n Vs vals → lk x (xs.zip Vs) = some y → ∃ v, BV n y v ∧ x ∈ xs ∧ (x, v) ∈ xs.zip vals := by
  induction xs with
  | nil => intro _ _ _ e; cases e
  | cons z r ih =>
    intro Vs vals hb e
    cases Vs with
    | nil => cases e
    | cons V1 Vr =>
      obtain ⟨v, q, rfl, b1, b2⟩ := hb
      rw [List.zip_cons_cons] at e ⊢
      unfold lk at e
      cases s : seq x z with
      | true => rw [s] at e; cases e; rw [seq_iff.mp s]; exact ⟨v, b1, .head _, .head _⟩
      | false =>
        rw [s] at e
        obtain ⟨u, h1, h2, h3⟩ := ih b2 e
        exact ⟨u, h1, .tail _ h2, .tail _ h3⟩
theorem zip_lookup {c' : Cx} {n : Cn} {pins : Led} : ∀ {xs : List Str} {Vs : List V} {vals : List Value}, xs.Nodup → xs.all (okVar c'.sc) = true → BVs n Vs vals → VarsOk c' n pins (fun y => (xs.zip vals).reverse.lookup y) (xs.zip Vs) := by
  intro xs Vs vals hnd hok hb x y e
  obtain ⟨v, h1, hm, h3⟩ := zip_at hb e
  have h2 := List.all_eq_true.mp hok _ hm
  refine ⟨v, h1, (okVar_use h2).2, .inl ⟨(okVar_use h2).1, ?_⟩⟩
  have look : ∀ (l : List (Str × Value)), (l.map (·.1)).Nodup → (x, v) ∈ l → l.lookup x = some v := by
    intro l
    induction l with
    | nil => intro _ h; cases h
    | cons p r ih =>
      intro hn hm
      rw [List.map_cons, List.nodup_cons] at hn
      obtain ⟨a, b⟩ := p
      rw [List.lookup_cons]
      rcases List.mem_cons.mp hm with e | hm'
      · cases e; simp
      · have : (x == a) = false := by
          rw [beq_eq_false_iff_ne]
          rintro rfl
          exact hn.1 (List.mem_map.mpr ⟨_, hm', rfl⟩)
        rw [this]; exact ih hn.2 hm'
  refine look _ ?_ (List.mem_reverse.mpr h3)
  rw [List.map_reverse]
  exact ((List.reverse_perm _).nodup_iff.mpr ((zip_fst_sub xs vals).nodup hnd))
theorem call_perm {A B C D : Led} : (A ++ (B ++ (C ++ D))).Perm (A ++ ([] ++ (C ++ (B ++ D)))) := by
  rw [List.nil_append]
  refine List.Perm.append_left A ?_
  rw [← List.append_assoc, ← List.append_assoc]
  exact List.Perm.append_right D List.perm_append_comm
theorem call_perm2 {A B C D E : Led} : (A ++ (E ++ (C ++ (B ++ D)))).Perm (E ++ (A ++ (B ++ (C ++ D)))) := by
  have h1 : (A ++ (E ++ (C ++ (B ++ D)))).Perm (E ++ (A ++ (C ++ (B ++ D)))) := by
    rw [← List.append_assoc, ← List.append_assoc E]
    exact List.Perm.append_right _ List.perm_append_comm
  refine h1.trans (List.Perm.append_left E (List.Perm.append_left A ?_))
  rw [← List.append_assoc, ← List.append_assoc]
  exact List.Perm.append_right D List.perm_append_comm
theorem call_nd {l l' r : Led} {x y : Addr × Obj} (pm : l.Perm (r ++ l')) (h : ((x :: y :: l).map (·.1)).Nodup) : ((x :: y :: l').map (·.1)).Nodup := by
  have h2 := (List.Perm.nodup_iff (List.Perm.map (fun x : Addr × Obj => x.1) ((pm.cons y).cons x))).mp h
  refine List.Nodup.sublist (List.Sublist.map _ ?_) h2
  exact .cons_cons _ (.cons_cons _ (List.sublist_append_right _ _))
theorem Frs.noL {w : World} {n n' : Cn} (h1 : n.ga = n'.ga) (h2 : n.imm = n'.imm) {as : List Addr} {W : List AObj} {M : Led} (h : Frs (RO w n) as W M) : Frs (RO w n') as W M := by
  obtain ⟨ga, la, imm⟩ := n
  obtain ⟨ga', la', imm'⟩ := n'
  cases h1; cases h2
  refine h.mono fun a x f r => ?_
  cases x <;> exact r
theorem callee_mono {c : Cx} {n n1 : Cn} {st : St} {ML : Led} (hi : ∀ p ∈ n.imm, p ∈ n1.imm) (RL : Frs (RLo n) n.la st.Lc ML) : Frs (RLo ⟨n1.ga, n.la, n1.imm⟩) n.la st.Lc ML := RL.mono fun a o f h => by
  cases o with
  | none => exact h
  | some ds => obtain ⟨ws, m, e, hd, z⟩ := h; exact ⟨ws, m, e, hd.mono hi, z⟩
theorem fn_code {A' : Around} (hA : A'.frames = some (c.env :: c.outer)) (hd : A'.depth ≤ c.dp + 1) (hu : A'.units ≤ c.un + 20) {f : Addr} {name qual : Str} {params : Arguments} {body : List Stmt} {scope : Scope} {dV kV doc pm cdv ct oc : Value} {an od : Option Addr} {osl : Array (Option Value)} {xs : List Str}
    (hK : c.K.lookup f = some ⟨oc, od, .func (fnOf name qual params body scope dV kV doc pm an cdv ct), osl⟩) (hcd : codeIn c.K cdv qual = true) (hr : 1 ≤ c.room)
    (hk : scope.kind = .function) (hco : scope.isCoroutine = false) (hgen : scope.isGenerator = false) (hcell : ∀ x ∈ scope.names, x.2 ≠ .cell) (hxs : xs.all (okVar scope) = true) (hnd : distS xs = true)
    {n : Cn} {st : St} {Vs : List V} {vals : List Value} {k : V → St → Prop} {ex : Bool → Int → St → Prop} (hb : BVs n.noL Vs vals) (hbind : ∀ s, BindsTo s (fnOf name qual params body scope dV kV doc pm an cdv ct) ⟨vals, []⟩ (xs.zip vals))
    (hbody : ∀ L' g, WP (c.kid A' false qual scope L' f cdv [] g hk hr hd hu) RF (execs body (c.kid A' false qual scope L' f cdv [] g hk hr hd hu).env) n.noL ⟨st.W, [], xs.zip Vs⟩ (fun fl s => k (retV fl) ⟨s.W, st.Lc, st.vars⟩) (fun _ i s => ex false i ⟨s.W, st.Lc, st.vars⟩))
    {pins : Led} {hp : Heap} {tk : Nat} (r : Rel c pins n st hp) {R : Result → Shared → Prop} (hret : ∀ v s', Out c pins BV n k v s' → R (.ok (.ret v)) s') (herr : ∀ e s', XOut c pins n ex e s' → R (.error e) s') : codeAny c.M A' (.call (.ref f) ⟨vals, []⟩) R (c.at_ hp tk) := by
  obtain ⟨h₀, m, MW, ML, Am, F, N, ND, RW, RL, RV⟩ := r
  have hroom : A'.depth < recursionLimit := by have := c.hdp; omega
  refine PySem.W.code_def Am.B F Am.X N Am.T hA rfl c.hk hK hcd hroom (hbind _) (fun y hy => ?_) ?_ hco hgen hk hcell
  · have : y.1 ∈ xs := (List.of_mem_zip (show (y.1, y.2) ∈ _ from hy)).1
    exact (okVar_use (List.all_eq_true.mp hxs _ this)).1
  intro g L' h₁ FG F' N' B' X' T'
  have pm := call_perm (A := MW) (B := ML) (C := n.imm) (D := pins)
  have ND' := (List.Perm.nodup_iff (List.Perm.map (fun x : Addr × Obj => x.1) pm)).mp ND
  have rel : Rel (c.kid A' false qual scope L' f cdv [] g hk hr hd hu) (ML ++ pins) n.noL ⟨st.W, [], xs.zip Vs⟩ h₁ :=
    ⟨g, _, MW, [], ⟨B', X', T', rfl⟩, F', news_sub N' fun p hp => pm.symm.subset hp, ND', RW.noL rfl rfl, .nil, zip_lookup (distS_nodup hnd) hxs hb⟩
  have hw := hbody L' g _ h₁ (tk + (xs.zip vals).length) rel
  rw [Cx.kid_A hA] at hw
  refine wpAny_mono hw (fun fl s' o => ?_) (fun e s' x => ?_)
  · cases o with
    | mk n1 b st1 h1 t1 le1 r1 rv1 q1 =>
    obtain ⟨g1, m1, MW1, ML1, Am1, F1, N1, ND1, RW1, RL1, RV1⟩ := r1
    have hg : g1 = g := Am1.t
    subst hg
    have pm1 := call_perm2 (A := MW1) (B := ML) (C := n1.imm) (D := pins) (E := ML1)
    refine ⟨_, m1, _, F1, news_sub N1 (l' := MW1 ++ (ML ++ (n1.imm ++ pins))) fun p hp => pm1.symm.subset (List.mem_append_right _ hp), fun F2 N2 => ?_⟩
    have ND2 : ((MW1 ++ (ML ++ (n1.imm ++ pins))).map (·.1)).Nodup := by
      have := (List.Perm.nodup_iff (List.Perm.map (fun x : Addr × Obj => x.1) pm1)).mp ND1
      rw [List.map_append] at this
      exact (List.nodup_append.mp this).2.1
    have le2 : n.Le ⟨n1.ga, n.la, n1.imm⟩ := ⟨le1.ga, fun _ _ h => h, le1.imm⟩
    have r2 : Rel c pins ⟨n1.ga, n.la, n1.imm⟩ ⟨st1.W, st.Lc, st.vars⟩ h1 := ⟨h₀, m, MW1, ML, Am, F2, N2, ND2, RW1.noL rfl rfl, callee_mono (c := c) le1.imm RL, RV.mono le2⟩
    refine hret _ _ (Out.done r2 le2 (b := retV b) ?_ q1)
    cases b with
    | ret x => obtain ⟨v, rfl, bv⟩ := rv1; simpa only [retV, BV] using bv
    | next => cases (show fl = .next from rv1); exact BV.none'
    | brk => cases (show fl = .brk from rv1); exact BV.none'
    | cont => cases (show fl = .cont from rv1); exact BV.none'
  · cases x with
    | first n1 st1 code h1 t1 e d t od g1 m1 MW1 ML1 le1 Am1 F1 N1 ND1 hx RW1 RL1 q1 =>
      have hg : g1 = g := Am1.t
      subst hg
      have pm1 := call_perm2 (A := MW1) (B := ML) (C := n1.imm) (D := pins) (E := ML1)
      have hs : ∀ p ∈ MW1 ++ (ML ++ (n1.imm ++ pins)), p ∈ MW1 ++ (ML1 ++ (n1.imm ++ (ML ++ pins))) := fun p hp => pm1.symm.subset (List.mem_append_right _ hp)
      rw [List.map_cons, List.nodup_cons] at ND1
      have le2 : n.Le ⟨n1.ga, n.la, n1.imm⟩ := ⟨le1.ga, fun _ _ h => h, le1.imm⟩
      refine leave_q_first B' F1 N1 (fun p hp e' => ND1.1 (List.mem_map.mpr ⟨p, hp, e'⟩)) (fun h' R us => ?_) hk
      refine herr _ _ ?_
      exact .on ⟨n1.ga, n.la, n1.imm⟩ ⟨st1.W, st.Lc, st.vars⟩ code h' t1 e d t od h₀ g1 m MW1 ML le2 Am FG (R.sub fun p hp => (List.mem_cons.mp hp).elim (fun e => e ▸ .head _) fun h => .tail _ (hs p h)) us
        (call_nd pm1 (List.nodup_cons.mpr ND1)) hx (RW1.noL rfl rfl) (callee_mono (c := c) le1.imm RL) (RV.mono le2) q1
    | on n1 st1 code h1 t1 e d t od g1 G m1 MW1 ML1 le1 Am1 F1 R us ND1 hx RW1 RL1 RV1 q1 =>
      have hg : g1 = g := Am1.t
      subst hg
      have pm1 := call_perm2 (A := MW1) (B := ML) (C := n1.imm) (D := pins) (E := ML1)
      have hs : ∀ p ∈ MW1 ++ (ML ++ (n1.imm ++ pins)), p ∈ MW1 ++ (ML1 ++ (n1.imm ++ (ML ++ pins))) := fun p hp => pm1.symm.subset (List.mem_append_right _ hp)
      have le2 : n.Le ⟨n1.ga, n.la, n1.imm⟩ := ⟨le1.ga, fun _ _ h => h, le1.imm⟩
      refine leave_q_on B' F1 R us (fun h' R us => ?_)
      refine herr _ _ ?_
      exact .on ⟨n1.ga, n.la, n1.imm⟩ ⟨st1.W, st.Lc, st.vars⟩ code h' t1 e d t od h₀ g1 m MW1 ML le2 Am FG (R.sub fun p hp => (List.mem_cons.mp hp).elim (fun e => e ▸ .head _) fun h => .tail _ (hs p h)) us
        (call_nd pm1 ND1) hx (RW1.noL rfl rfl) (callee_mono (c := c) le1.imm RL) (RV.mono le2) q1
theorem fn_call {f : Addr} {n : Cn} {st : St} {vals : List Value} {k : V → St → Prop} {ex : Bool → Int → St → Prop}
    (h : ∀ pins hp tk, Rel c pins n st hp → ∀ R : Result → Shared → Prop, (∀ v s', Out c pins BV n k v s' → R (.ok (.ret v)) s') → (∀ e s', XOut c pins n ex e s' → R (.error e) s') → codeAny c.M c.A (.call (.ref f) ⟨vals, []⟩) R (c.at_ hp tk)) : WP c BV (call (.ref f) vals) n st k ex := fun pins hp tk r =>
  wpAny_call (h pins hp tk r _ (fun _ _ o => o) fun _ _ o => o)
theorem Turn.use {g : Heap} (t : Turn c g) (hS : c.S = true) : KtsDicts c.fs g ∧ KtsTurn c.fs c.g₀ g ∧ c.K.In c.base ∧ Top c.p c.loose c.mean c.mg c.mb c.base := by
  unfold Turn at t
  rw [hS] at t
  exact t
theorem Turn.mk {g : Heap} (hS : c.S = true) (t : KtsDicts c.fs g ∧ KtsTurn c.fs c.g₀ g ∧ c.K.In c.base ∧ Top c.p c.loose c.mean c.mg c.mb c.base) : Turn c g := by
  unfold Turn
  rw [hS]
  exact t
theorem bindL_skip {kindOf : Str → Option NameKind} {x : Str} : ∀ {l : List (Str × Value)} {m : Str → Option Value}, x ∉ l.map (·.1) → bindL kindOf l m x = m x
  | [], _, _ => rfl
  | (y, v) :: r, m, h => by
    rw [List.map_cons, List.mem_cons, not_or] at h
    show bindL kindOf r _ x = m x
    rw [bindL_skip h.2]
    split
    · exact if_neg h.1
    · rfl
theorem bindC_skip {kindOf : Str → Option NameKind} {x : Str} : ∀ {l : List (Str × Value)} {m : Str → Option Value}, x ∉ l.map (·.1) → bindC kindOf l m x = m x
  | [], _, _ => rfl
  | (y, v) :: r, m, h => by
    rw [List.map_cons, List.mem_cons, not_or] at h
    show bindC kindOf r _ x = m x
    rw [bindC_skip h.2]
    split
    · rfl
    · exact if_neg h.1
theorem bindL_at {kindOf : Str → Option NameKind} {x : Str} {v : Value} (hk : kindOf x = some .local) : ∀ {l : List (Str × Value)} {m : Str → Option Value}, (l.map (·.1)).Nodup → (x, v) ∈ l → bindL kindOf l m x = some v
  | [], _, _, h => nomatch h
  | (y, w) :: r, m, hn, h => by
    rw [List.map_cons, List.nodup_cons] at hn
    rcases List.mem_cons.mp h with e | h'
    · cases e
      show bindL kindOf r _ x = some v
      rw [bindL_skip hn.1, if_pos hk]
      exact if_pos rfl
    · show bindL kindOf r _ x = some v
      exact bindL_at hk hn.2 h'
theorem bindC_at {kindOf : Str → Option NameKind} {x : Str} {v : Value} (hk : kindOf x = some .cell) : ∀ {l : List (Str × Value)} {m : Str → Option Value}, (l.map (·.1)).Nodup → (x, v) ∈ l → bindC kindOf l m x = some v
  | [], _, _, h => nomatch h
  | (y, w) :: r, m, hn, h => by
    rw [List.map_cons, List.nodup_cons] at hn
    rcases List.mem_cons.mp h with e | h'
    · cases e
      show bindC kindOf r _ x = some v
      rw [bindC_skip hn.1, if_neg (by rw [hk]; intro q; cases q)]
      exact if_pos rfl
    · show bindC kindOf r _ x = some v
      exact bindC_at hk hn.2 h'
theorem cellsAre_at {cm : Str → Option Value} : ∀ {cl : List (Str × Addr)} {cells : List (Addr × Obj)}, CellsAre cm cl cells → ∀ {x : Str} {a : Addr}, cl.lookup x = some a → ∃ o, (a, o) ∈ cells ∧ o.data = .cell (cm x)
  | _, _, .nil, _, _, h => by cases h
  | _, _, .cons (n := z) (c := b) (o := o) hd r, x, a, h => by
    rw [List.lookup_cons] at h
    cases e : x == z with
    | true => rw [e] at h; cases h; exact ⟨o, .head _, by rw [hd, eq_of_beq e]⟩
    | false =>
      rw [e] at h
      obtain ⟨o', h1, h2⟩ := cellsAre_at r h
      exact ⟨o', .tail _ h1, h2⟩
noncomputable def okPar (sc : Scope) (x : Str) : Bool := (isLocN (kindN sc x) || isCellK (kindN sc x)) && notDbg x
theorem okPar_use {sc : Scope} {x : Str} (h : okPar sc x = true) : (sc.names.lookup x = some .local ∨ sc.names.lookup x = some .cell) ∧ (x == Str.ofString "__debug__") = false := by
  unfold okPar notDbg at h
  rw [kindN_eq, Bool.and_eq_true, seq_eq, Bool.not_eq_true', Bool.or_eq_true] at h
  refine ⟨?_, h.2⟩
  replace h := h.1
  revert h
  cases sc.names.lookup x with
  | none => intro h; rcases h with h | h <;> cases h
  | some k => cases k <;> intro h <;> first | exact .inl rfl | exact .inr rfl | (rcases h with h | h <;> cases h)
theorem fn_codeS (hh : c.hd = none) (hS : c.S = true) (hcl : c.cl = []) {f : Addr} {name qual : Str} {params : Arguments} {body : List Stmt} {scope : Scope} {dV kV doc pm cdv ct oc : Value} {an od : Option Addr} {osl : Array (Option Value)} {xs : List Str}
    (hK : c.K.lookup f = some ⟨oc, od, .func (fnOf name qual params body scope dV kV doc pm an cdv ct), osl⟩) (hcd : codeIn c.K cdv qual = true) (hr : 1 ≤ c.room)
    (hk : scope.kind = .function) (hco : scope.isCoroutine = false) (hgen : scope.isGenerator = false) (hxs : xs.all (okPar scope) = true) (hnd : distS xs = true) (hndc : ((cellsFrom 0 scope.names []).map (·.1)).Nodup) (hone : ∀ L' : Nat, cellsFrom (L' + 1) scope.names [] = [] ∨ ∃ x, cellsFrom (L' + 1) scope.names [] = [(x, L' + 1)])
    {n : Cn} {st : St} {Vs : List V} {vals : List Value} {k : V → St → Prop} {ex : Bool → Int → St → Prop} (hb : BVs n.noL Vs vals) (hbind : ∀ s, BindsTo s (fnOf name qual params body scope dV kV doc pm an cdv ct) ⟨vals, []⟩ (xs.zip vals))
    (hbody : ∀ L' g hd hu, WP (c.kid c.A true qual scope L' f cdv (cellsFrom (L' + 1) scope.names []) g hk hr hd hu) RF (execs body (c.kid c.A true qual scope L' f cdv (cellsFrom (L' + 1) scope.names []) g hk hr hd hu).env) n.noL ⟨st.W, [], xs.zip Vs⟩ (fun fl s => k (retV fl) ⟨s.W, st.Lc, st.vars⟩) noEx) : WP c BV (call (.ref f) vals) n st k ex := by
  refine fn_call fun pins hp tk r R hret herr => ?_
  obtain ⟨h₀, m, MW, ML, Am, F, N, ND, RW, RL, RV⟩ := r
  obtain ⟨D0, T0, XB, TB⟩ := Am.t.use hS
  have hroom : c.A.depth < recursionLimit := by have := c.hdp; show c.dp < _; omega
  have hE : c.env = envOf c.nm c.sc c.L c.a c.cd := by show envX c.nm c.sc c.L c.a c.cd c.cl = _; rw [hcl]; rfl
  have hA : c.A.frames = some (envOf c.nm c.sc c.L c.a c.cd :: c.outer) := by show some (c.env :: c.outer) = _; rw [hE]
  have hkind : ((xs.zip vals).all fun y => scope.names.lookup y.1 == some .local || scope.names.lookup y.1 == some .cell) = true := by
    rw [List.all_eq_true]
    intro y hy
    have : y.1 ∈ xs := (List.of_mem_zip (show (y.1, y.2) ∈ _ from hy)).1
    rcases (okPar_use (List.all_eq_true.mp hxs _ this)).1 with e | e <;> rw [e] <;> decide
  refine code_defSC Am.B F Am.X N Am.T XB TB D0 T0 hA hK hcd hroom (hbind _) hkind hndc ?_ c.hk hco hgen hk
  intro g L' h₁ tk' cells FG F' N' Y B' X' T' D' lt
  rw [← hE] at B' D'
  have pm := call_perm (A := MW) (B := ML) (C := n.imm) (D := pins)
  have pmc : (cells ++ (MW ++ (ML ++ (n.imm ++ pins)))).Perm (MW ++ ([] ++ (n.imm ++ (ML ++ (cells ++ pins))))) := by
    have h1 := (List.Perm.append_left cells pm)
    refine h1.trans ?_
    have e1 : cells ++ (MW ++ ([] ++ (n.imm ++ (ML ++ pins)))) = cells ++ ((MW ++ n.imm ++ ML) ++ pins) := by simp
    have e2 : MW ++ ([] ++ (n.imm ++ (ML ++ (cells ++ pins)))) = (MW ++ n.imm ++ ML) ++ (cells ++ pins) := by simp
    rw [e1, e2, ← List.append_assoc cells, ← List.append_assoc (MW ++ n.imm ++ ML) cells]
    exact List.Perm.append_right _ List.perm_append_comm
  have NDc : ((cells ++ (MW ++ (ML ++ (n.imm ++ pins)))).map (·.1)).Nodup := by
    rcases hone L' with e | ⟨x, e⟩
    · rw [e] at Y; cases Y; exact ND
    · rw [e] at Y
      obtain ⟨o, rfl, _⟩ := Y.one
      show (((L' + 1) : Nat) :: _).Nodup
      rw [List.nodup_cons]
      refine ⟨fun hm => ?_, ND⟩
      obtain ⟨p, hp, e⟩ := List.mem_map.mp hm
      have := lt p hp
      rw [e] at this
      exact absurd this (Nat.not_lt_of_ge (Nat.le_succ _))
  have NDk := (List.Perm.nodup_iff (List.Perm.map (fun x : Addr × Obj => x.1) pmc)).mp NDc
  have hdd : c.A.depth ≤ c.dp + 1 := Nat.le_succ _
  have huu : c.A.units ≤ c.un + 20 := Nat.le_add_right _ _
  have hzip : ((xs.zip vals).map (·.1)).Nodup := (zip_fst_sub xs vals).nodup (distS_nodup hnd)
  have rel : Rel (c.kid c.A true qual scope L' f cdv (cellsFrom (L' + 1) scope.names []) g hk hr hdd huu) (ML ++ (cells ++ pins)) n.noL ⟨st.W, [], xs.zip Vs⟩ h₁ := by
    refine ⟨g, _, MW, [], ⟨B', X', T', Turn.mk rfl ⟨D', .refl, XB, TB⟩⟩, F', news_sub N' fun p hp => pmc.symm.subset hp, NDk, RW.noL rfl rfl, .nil, fun x y e => ?_⟩
    obtain ⟨v, b1, b2, b3⟩ := zip_at hb e
    obtain ⟨h1, h2⟩ := okPar_use (List.all_eq_true.mp hxs _ b2)
    refine ⟨v, b1, h2, h1.imp (fun h1 => ⟨h1, bindL_at h1 hzip b3⟩) fun h1 => ⟨h1, ?_⟩⟩
    have hs := cellsFrom_some scope.names (L' + 1) [] (.inl h1)
    obtain ⟨ca, hca⟩ := Option.isSome_iff_exists.mp hs
    obtain ⟨o, ho, hod⟩ := cellsAre_at Y hca
    exact ⟨ca, o, hca, by simp [ho], by rw [hod, bindC_at h1 hzip b3]⟩
  have hw := hbody L' g hdd huu _ h₁ tk' rel
  rw [Cx.kid_A rfl] at hw
  refine wpAny_mono hw (fun fl s' o => ?_) (fun e s' x => x.no.elim)
  cases o with
  | mk n1 b st1 h1 t1 le1 r1 rv1 q1 =>
  obtain ⟨g1, m1, MW1, ML1, Am1, F1, N1, ND1, RW1, RL1, RV1⟩ := r1
  obtain ⟨D1, T1, _, _⟩ := Am1.t.use rfl
  have pm1 := call_perm2 (A := MW1) (B := ML) (C := n1.imm) (D := cells ++ pins) (E := ML1)
  have sub1 : ∀ p ∈ MW1 ++ (ML ++ (n1.imm ++ pins)), p ∈ MW1 ++ (ML1 ++ (n1.imm ++ (ML ++ (cells ++ pins)))) := fun p hp => pm1.symm.subset (List.mem_append_right _ (by
    simp only [List.mem_append] at hp ⊢
    rcases hp with h | h | h | h <;> simp [h]))
  refine leaveS_r F1 (news_sub N1 (l' := MW1 ++ (ML ++ (n1.imm ++ pins))) sub1) (by rw [← hE]; exact T1) fun h₀' T2 F2 N2 B2 X2 P2 D2 => ?_
  have ND2 : ((MW1 ++ (ML ++ (n1.imm ++ pins))).map (·.1)).Nodup := by
    have := (List.Perm.nodup_iff (List.Perm.map (fun x : Addr × Obj => x.1) pm1)).mp ND1
    rw [List.map_append] at this
    have := (List.nodup_append.mp this).2.1
    refine List.Nodup.sublist (List.Sublist.map _ ?_) this
    exact List.Sublist.append (List.Sublist.refl _) (List.Sublist.append (List.Sublist.refl _) (List.Sublist.append (List.Sublist.refl _) (List.sublist_append_right _ _)))
  have le2 : n.Le ⟨n1.ga, n.la, n1.imm⟩ := ⟨le1.ga, fun _ _ h => h, le1.imm⟩
  have r2 : Rel c pins ⟨n1.ga, n.la, n1.imm⟩ ⟨st1.W, st.Lc, st.vars⟩ h1 := ⟨h₀', m, MW1, ML, ⟨B2, X2, P2, Turn.mk hS ⟨D2, T2, XB, TB⟩⟩, F2, N2, ND2, RW1.noL rfl rfl, callee_mono (c := c) le1.imm RL, RV.mono le2⟩
  refine hret _ _ (Out.done r2 le2 (b := retV b) ?_ q1)
  cases b with
  | ret x => obtain ⟨v, rfl, bv⟩ := rv1; simpa only [retV, BV] using bv
  | next => cases (show fl = .next from rv1); exact BV.none'
  | brk => cases (show fl = .brk from rv1); exact BV.none'
  | cont => cases (show fl = .cont from rv1); exact BV.none'
end
end
noncomputable section
structure FRow where
  f : Addr
  name : Str
  qual : Str
  s : Stmt
  pm : Value
  cdv : Value
  xs : List Str
noncomputable abbrev FRow.fd (r : FRow) : FuncData := fnOf r.name r.qual (fPr r.s) (fBd r.s) (fSc r.s) .none .none .none r.pm none r.cdv .none
noncomputable abbrev FRow.obj (r : FRow) : Obj := { cls := .type "function", data := .func r.fd }
noncomputable abbrev r35 : FRow := ⟨35, Str.ofString "__init__", Str.ofString "QuicError.__init__", (stIn 5 0), Value.str (Str.ofString "quic.errors") 194, Value.ref 34, [Str.ofString "self", Str.ofString "code", Str.ofString "frame_type", Str.ofString "text"]⟩
noncomputable abbrev r48 : FRow := ⟨48, Str.ofString "add_piece", Str.ofString "add_piece", (stAt 7), Value.str (Str.ofString "quic.pieces") 235, Value.ref 47, [Str.ofString "pieces", Str.ofString "offset", Str.ofString "data"]⟩
noncomputable abbrev r55 : FRow := ⟨55, Str.ofString "taken_from", Str.ofString "taken_from", (stAt 8), Value.str (Str.ofString "quic.pieces") 235, Value.ref 54, [Str.ofString "pieces", Str.ofString "at"]⟩
noncomputable abbrev r60 : FRow := ⟨60, Str.ofString "covered", Str.ofString "covered", (stAt 9), Value.str (Str.ofString "quic.pieces") 235, Value.ref 59, [Str.ofString "pieces"]⟩
noncomputable abbrev r67 : FRow := ⟨67, Str.ofString "add_span", Str.ofString "add_span", (stAt 11), Value.str (Str.ofString "quic.spans") 273, Value.ref 66, [Str.ofString "spans", Str.ofString "low", Str.ofString "high"]⟩
noncomputable abbrev r74 : FRow := ⟨74, Str.ofString "cut_span", Str.ofString "cut_span", (stAt 12), Value.str (Str.ofString "quic.spans") 273, Value.ref 73, [Str.ofString "spans", Str.ofString "low", Str.ofString "high"]⟩
noncomputable abbrev r81 : FRow := ⟨81, Str.ofString "has_span", Str.ofString "has_span", (stAt 13), Value.str (Str.ofString "quic.spans") 273, Value.ref 80, [Str.ofString "spans", Str.ofString "low", Str.ofString "high"]⟩
noncomputable abbrev r88 : FRow := ⟨88, Str.ofString "first_span", Str.ofString "first_span", (stAt 14), Value.str (Str.ofString "quic.spans") 273, Value.ref 87, [Str.ofString "spans", Str.ofString "most"]⟩
noncomputable abbrev r102 : FRow := ⟨102, Str.ofString "__init__", Str.ofString "RecvPart.__init__", (stIn 24 0), Value.str (Str.ofString "quic.recvpart") 321, Value.ref 101, [Str.ofString "self", Str.ofString "limit"]⟩
noncomputable abbrev r109 : FRow := ⟨109, Str.ofString "check_end", Str.ofString "RecvPart.check_end", (stIn 24 1), Value.str (Str.ofString "quic.recvpart") 321, Value.ref 108, [Str.ofString "self", Str.ofString "end", Str.ofString "is_final", Str.ofString "frame_type"]⟩
noncomputable abbrev r116 : FRow := ⟨116, Str.ofString "grown", Str.ofString "RecvPart.grown", (stIn 24 2), Value.str (Str.ofString "quic.recvpart") 321, Value.ref 115, [Str.ofString "self", Str.ofString "end"]⟩
noncomputable abbrev r123 : FRow := ⟨123, Str.ofString "on_stream", Str.ofString "RecvPart.on_stream", (stIn 24 3), Value.str (Str.ofString "quic.recvpart") 321, Value.ref 122, [Str.ofString "self", Str.ofString "offset", Str.ofString "data", Str.ofString "is_end"]⟩
noncomputable abbrev r130 : FRow := ⟨130, Str.ofString "has_all", Str.ofString "RecvPart.has_all", (stIn 24 4), Value.str (Str.ofString "quic.recvpart") 321, Value.ref 129, [Str.ofString "self"]⟩
noncomputable abbrev r137 : FRow := ⟨137, Str.ofString "on_reset", Str.ofString "RecvPart.on_reset", (stIn 24 5), Value.str (Str.ofString "quic.recvpart") 321, Value.ref 136, [Str.ofString "self", Str.ofString "code", Str.ofString "final_size"]⟩
noncomputable abbrev r144 : FRow := ⟨144, Str.ofString "read", Str.ofString "RecvPart.read", (stIn 24 6), Value.str (Str.ofString "quic.recvpart") 321, Value.ref 143, [Str.ofString "self", Str.ofString "most"]⟩
noncomputable abbrev r151 : FRow := ⟨151, Str.ofString "stop", Str.ofString "RecvPart.stop", (stIn 24 7), Value.str (Str.ofString "quic.recvpart") 321, Value.ref 150, [Str.ofString "self", Str.ofString "code"]⟩
noncomputable abbrev r165 : FRow := ⟨165, Str.ofString "used_to", Str.ofString "RecvPart.used_to", (stIn 24 9), Value.str (Str.ofString "quic.recvpart") 321, Value.ref 164, [Str.ofString "self"]⟩
noncomputable abbrev r172 : FRow := ⟨172, Str.ofString "is_over", Str.ofString "RecvPart.is_over", (stIn 24 10), Value.str (Str.ofString "quic.recvpart") 321, Value.ref 171, [Str.ofString "self"]⟩
noncomputable abbrev r194 : FRow := ⟨194, Str.ofString "__init__", Str.ofString "SendPart.__init__", (stIn 33 0), Value.str (Str.ofString "quic.sendpart") 463, Value.ref 193, [Str.ofString "self", Str.ofString "limit"]⟩
noncomputable abbrev r201 : FRow := ⟨201, Str.ofString "write", Str.ofString "SendPart.write", (stIn 33 1), Value.str (Str.ofString "quic.sendpart") 463, Value.ref 200, [Str.ofString "self", Str.ofString "data"]⟩
noncomputable abbrev r208 : FRow := ⟨208, Str.ofString "finish", Str.ofString "SendPart.finish", (stIn 33 2), Value.str (Str.ofString "quic.sendpart") 463, Value.ref 207, [Str.ofString "self"]⟩
noncomputable abbrev r215 : FRow := ⟨215, Str.ofString "reset", Str.ofString "SendPart.reset", (stIn 33 3), Value.str (Str.ofString "quic.sendpart") 463, Value.ref 214, [Str.ofString "self", Str.ofString "code"]⟩
noncomputable abbrev r222 : FRow := ⟨222, Str.ofString "on_stop", Str.ofString "SendPart.on_stop", (stIn 33 4), Value.str (Str.ofString "quic.sendpart") 463, Value.ref 221, [Str.ofString "self", Str.ofString "code"]⟩
noncomputable abbrev r236 : FRow := ⟨236, Str.ofString "new_room", Str.ofString "SendPart.new_room", (stIn 33 6), Value.str (Str.ofString "quic.sendpart") 463, Value.ref 235, [Str.ofString "self", Str.ofString "most_new"]⟩
noncomputable abbrev r257 : FRow := ⟨257, Str.ofString "next_chunk", Str.ofString "SendPart.next_chunk", (stIn 33 9), Value.str (Str.ofString "quic.sendpart") 463, Value.ref 256, [Str.ofString "self", Str.ofString "most", Str.ofString "most_new"]⟩
noncomputable abbrev r264 : FRow := ⟨264, Str.ofString "next_reset", Str.ofString "SendPart.next_reset", (stIn 33 10), Value.str (Str.ofString "quic.sendpart") 463, Value.ref 263, [Str.ofString "self"]⟩
noncomputable abbrev r271 : FRow := ⟨271, Str.ofString "on_acked", Str.ofString "SendPart.on_acked", (stIn 33 11), Value.str (Str.ofString "quic.sendpart") 463, Value.ref 270, [Str.ofString "self", Str.ofString "offset", Str.ofString "size", Str.ofString "is_end"]⟩
noncomputable abbrev r285 : FRow := ⟨285, Str.ofString "on_reset_acked", Str.ofString "SendPart.on_reset_acked", (stIn 33 13), Value.str (Str.ofString "quic.sendpart") 463, Value.ref 284, [Str.ofString "self"]⟩
noncomputable abbrev r292 : FRow := ⟨292, Str.ofString "on_reset_lost", Str.ofString "SendPart.on_reset_lost", (stIn 33 14), Value.str (Str.ofString "quic.sendpart") 463, Value.ref 291, [Str.ofString "self"]⟩
noncomputable abbrev r299 : FRow := ⟨299, Str.ofString "is_over", Str.ofString "SendPart.is_over", (stIn 33 15), Value.str (Str.ofString "quic.sendpart") 463, Value.ref 298, [Str.ofString "self"]⟩
noncomputable abbrev r313 : FRow := ⟨313, Str.ofString "_law_box", Str.ofString "_law_box", (stAt 35), Value.str (Str.ofString "law_no0083_01") 642, Value.ref 312, [Str.ofString "script", Str.ofString "seed_here"]⟩
noncomputable abbrev r320 : FRow := ⟨320, Str.ofString "_law_take", Str.ofString "_law_take", (stAt 36), Value.str (Str.ofString "law_no0083_01") 642, Value.ref 319, [Str.ofString "box", Str.ofString "wide"]⟩
noncomputable abbrev r327 : FRow := ⟨327, Str.ofString "_law_end", Str.ofString "_law_end", (stAt 37), Value.str (Str.ofString "law_no0083_01") 642, Value.ref 326, [Str.ofString "here", Str.ofString "end", Str.ofString "is_final"]⟩
noncomputable abbrev r332 : FRow := ⟨332, Str.ofString "_law_come", Str.ofString "_law_come", (stAt 38), Value.str (Str.ofString "law_no0083_01") 642, Value.ref 331, [Str.ofString "box", Str.ofString "part", Str.ofString "here"]⟩
noncomputable abbrev r339 : FRow := ⟨339, Str.ofString "_law_read", Str.ofString "_law_read", (stAt 39), Value.str (Str.ofString "law_no0083_01") 642, Value.ref 338, [Str.ofString "part", Str.ofString "here"]⟩
noncomputable abbrev r346 : FRow := ⟨346, Str.ofString "_law_receiving_right", Str.ofString "_law_receiving_right", (stAt 40), Value.str (Str.ofString "law_no0083_01") 642, Value.ref 345, [Str.ofString "box"]⟩
noncomputable abbrev r353 : FRow := ⟨353, Str.ofString "_law_refused", Str.ofString "_law_refused", (stAt 41), Value.str (Str.ofString "law_no0083_01") 642, Value.ref 352, [Str.ofString "part", Str.ofString "form"]⟩
noncomputable abbrev r360 : FRow := ⟨360, Str.ofString "_law_sending_step", Str.ofString "_law_sending_step", (stAt 42), Value.str (Str.ofString "law_no0083_01") 642, Value.ref 359, [Str.ofString "box", Str.ofString "part", Str.ofString "here"]⟩
noncomputable abbrev r367 : FRow := ⟨367, Str.ofString "_law_sending_right", Str.ofString "_law_sending_right", (stAt 43), Value.str (Str.ofString "law_no0083_01") 642, Value.ref 366, [Str.ofString "box"]⟩
noncomputable abbrev r374 : FRow := ⟨374, Str.ofString "law", Str.ofString "law", (stAt 44), Value.str (Str.ofString "law_no0083_01") 642, Value.ref 373, [Str.ofString "script"]⟩
noncomputable abbrev rows : List FRow := [r35, r48, r55, r60, r67, r74, r81, r88, r102, r109, r116, r123, r130, r137, r144, r151, r165, r172, r194, r201, r208, r215, r222, r236, r257, r264, r271, r285, r292, r299, r313, r320, r327, r332, r339, r346, r353, r360, r367, r374]
noncomputable abbrev S (x : String) : Str := Str.ofString x
noncomputable abbrev globTab : List (Str × V) := [
  (S "len", .bi .len), (S "max", .bi .max), (S "min", .bi .min), (S "sorted", .bi .sorted), (S "range", .bi .range), (S "list", .bi .list), (S "bytes", .bi .bytes), (S "int", .bi .int),
  (S "QuicError", .top 38), (S "add_piece", .top 48), (S "taken_from", .top 55), (S "covered", .top 60), (S "add_span", .top 67), (S "cut_span", .top 74), (S "has_span", .top 81), (S "first_span", .top 88),
  (S "RecvPart", .top 175), (S "SendPart", .top 302), (S "OPEN_STATES", .top 180),
  (S "_law_box", .top 313), (S "_law_take", .top 320), (S "_law_end", .top 327), (S "_law_come", .top 332), (S "_law_read", .top 339), (S "_law_receiving_right", .top 346), (S "_law_refused", .top 353), (S "_law_sending_step", .top 360), (S "_law_sending_right", .top 367),
  (S "FLOW_CONTROL_ERROR", .d (.int 3)), (S "STREAM_STATE_ERROR", .d (.int 5)), (S "FINAL_SIZE_ERROR", .d (.int 6)), (S "FRAME_RESET", .d (.int 4)), (S "FRAME_STREAM", .d (.int 8)),
  (S "RECEIVING", .d (.str (S "recv"))), (S "SIZE_KNOWN", .d (.str (S "size_known"))), (S "DATA_RECEIVED_recvpart", .d (.str (S "data_recvd"))), (S "DATA_READ", .d (.str (S "data_read"))), (S "RESET_RECEIVED_recvpart", .d (.str (S "reset_recvd"))), (S "RESET_READ", .d (.str (S "reset_read"))),
  (S "READY", .d (.str (S "ready"))), (S "SENDING", .d (.str (S "send"))), (S "DATA_SENT", .d (.str (S "data_sent"))), (S "DATA_RECEIVED_sendpart", .d (.str (S "data_recvd"))), (S "RESET_SENT", .d (.str (S "reset_sent"))), (S "RESET_RECEIVED_sendpart", .d (.str (S "reset_recvd")))]
noncomputable def chkV (K : Frag) (x : Str) : V → Bool
  | .top b => match nsIn K mainGlobals x with
    | some (some (.ref a)) => Nat.beq a b
    | _ => false
  | .d (.str s) => match nsIn K mainGlobals x with
    | some (some (.str s' _)) => seq s' s
    | _ => false
  | .d (.int i) => match nsIn K mainGlobals x with
    | some (some (.int j _)) => decide (j = i)
    | _ => false
  | .bi _ => match nsIn K mainGlobals x with
    | some none => true
    | _ => false
  | _ => false
noncomputable def bootOk (x : Str) : V → Bool
  | .bi b => match bootBuiltins x with
    | some v => v == b.val
    | none => false
  | _ => true
noncomputable def allB {α : Type} (f : α → Bool) : List α → Bool
  | [] => true
  | x :: r => match f x with
    | true => allB f r
    | false => false
theorem allB_use {α : Type} {f : α → Bool} : ∀ {l : List α}, allB f l = true → ∀ x ∈ l, f x = true
  | [], _, _, h => nomatch h
  | y :: r, h, x, hx => by
    unfold allB at h
    cases e : f y with
    | false => rw [e] at h; cases h
    | true =>
      rw [e] at h
      rcases List.mem_cons.mp hx with rfl | hx
      · exact e
      · exact allB_use h x hx
theorem lk_mem' {α : Type} {x : Str} : ∀ {l : List (Str × α)} {y : α}, lk x l = some y → (x, y) ∈ l
  | [], _, e => by cases e
  | p :: r, y, e => by
    unfold lk at e
    cases s : seq x p.1 with
    | true => rw [s] at e; cases e; rw [seq_iff.mp s]; exact .head _
    | false => rw [s] at e; exact .tail _ (lk_mem' e)
theorem glob_chk (P : Params) : allB (fun p => chkV (heapK P) p.1 p.2) globTab = true := by kernel_rfl
theorem glob_boot : allB (fun p => bootOk p.1 p.2 && (!seq p.1 (S "__debug__") && !seq p.1 (S "__name__"))) globTab = true := by decide +kernel
theorem glob_ok (P : Params) (x : Str) (v : V) (h : lk x globTab = some v) : (x == ("__debug__" : Str)) = false ∧ ((∃ u, nsIn (heapK P) mainGlobals x = some (some u) ∧ ∀ n, BV n v u) ∨ (∃ b, v = .bi b ∧ nsIn (heapK P) mainGlobals x = some none ∧ bootBuiltins x = some b.val ∧ x ≠ "__name__")) := by
  have hm := lk_mem' h
  have h1 := allB_use (glob_chk P) _ hm
  have h2 := allB_use glob_boot _ hm
  simp only [Bool.and_eq_true, Bool.not_eq_true'] at h2
  obtain ⟨h2, h3, h4⟩ := h2
  rw [seq_eq] at h3 h4
  refine ⟨h3, ?_⟩
  dsimp only at h1
  unfold chkV at h1
  split at h1
  · split at h1
    · rename_i e
      exact .inl ⟨_, e, fun n => by rw [Nat.eq_of_beq_eq_true h1]; simp only [BV]⟩
    · cases h1
  · split at h1
    · rename_i e
      exact .inl ⟨_, e, fun n => by rw [seq_iff.mp h1]; exact BV.str'⟩
    · cases h1
  · split at h1
    · rename_i e
      exact .inl ⟨_, e, fun n => by rw [of_decide_eq_true h1]; exact BV.int'⟩
    · cases h1
  · rename_i b
    split at h1
    · rename_i e
      refine .inr ⟨b, rfl, e, ?_, fun q => by rw [q] at h4; simp at h4⟩
      dsimp only [bootOk] at h2
      split at h2
      · rename_i e2; rw [e2, eq_of_beq h2]
      · cases h2
    · cases h1
  · cases h1
noncomputable abbrev meths175 : List (Str × Addr) := [(S "check_end", 109), (S "grown", 116), (S "on_stream", 123), (S "has_all", 130), (S "on_reset", 137), (S "read", 144), (S "stop", 151), (S "used_to", 165), (S "is_over", 172)]
noncomputable abbrev meths302 : List (Str × Addr) := [(S "write", 201), (S "finish", 208), (S "reset", 215), (S "on_stop", 222), (S "new_room", 236), (S "next_chunk", 257), (S "next_reset", 264), (S "on_acked", 271), (S "on_reset_acked", 285), (S "on_reset_lost", 292), (S "is_over", 299)]
noncomputable abbrev names175 : List Str := [S "limit", S "state", S "pieces", S "read_to", S "highest", S "final_size", S "reset_code", S "stop_code"]
noncomputable abbrev names302 : List Str := [S "limit", S "state", S "written", S "sent_to", S "acked", S "lost", S "is_finished", S "owes_end", S "is_end_acked", S "reset_code", S "owes_reset"]
noncomputable def methT (C : Addr) (a : Str) : Option Addr := match Nat.beq C 175, Nat.beq C 302 with
  | true, _ => lk a meths175
  | _, true => lk a meths302
  | _, _ => none
noncomputable def oknT (C : Addr) (x : Str) : Bool := match Nat.beq C 175, Nat.beq C 302 with
  | true, _ => memS x names175
  | _, true => memS x names302
  | _, _ => false
noncomputable def chkM (K : Frag) (C : Addr) (p : Str × Addr) : Bool := plainGet K C p.1 && ((match findIn K (.ref C) p.1 with
  | some (some (.ref f)) => Nat.beq f p.2
  | _ => false) && isFn K (.ref p.2))
theorem meth_chk (P : Params) : (allB (chkM (heapK P) 175) meths175 && allB (chkM (heapK P) 302) meths302) = true := by kernel_rfl
theorem okn_chk (P : Params) : (allB (okA (heapK P) 175) names175 && allB (okA (heapK P) 302) names302) = true := by kernel_rfl
theorem chkM_use {K : Frag} {C : Addr} {p : Str × Addr} (h : chkM K C p = true) : plainGet K C p.1 = true ∧ findIn K (.ref C) p.1 = some (some (.ref p.2)) ∧ isFn K (.ref p.2) = true := by
  unfold chkM at h
  rw [Bool.and_eq_true, Bool.and_eq_true] at h
  refine ⟨h.1, ?_, h.2.2⟩
  have := h.2.1
  split at this
  · rename_i e; rw [e, Nat.eq_of_beq_eq_true this]
  · cases this
theorem meth_ok (P : Params) (C : Addr) (a : Str) (f : Addr) (h : methT C a = some f) : plainGet (heapK P) C a = true ∧ findIn (heapK P) (.ref C) a = some (some (.ref f)) ∧ isFn (heapK P) (.ref f) = true := by
  have hc := meth_chk P
  rw [Bool.and_eq_true] at hc
  unfold methT at h
  cases e1 : Nat.beq C 175 with
  | true =>
    rw [e1] at h
    rw [Nat.eq_of_beq_eq_true e1]
    exact chkM_use (allB_use hc.1 _ (lk_mem' h))
  | false =>
    cases e2 : Nat.beq C 302 with
    | true =>
      rw [e1, e2] at h
      rw [Nat.eq_of_beq_eq_true e2]
      exact chkM_use (allB_use hc.2 _ (lk_mem' h))
    | false => rw [e1, e2] at h; cases h
theorem memS_use {x : Str} : ∀ {l : List Str}, memS x l = true → x ∈ l
  | [], h => by cases h
  | y :: r, h => by
    unfold memS at h
    rw [Bool.or_eq_true] at h
    rcases h with h | h
    · rw [seq_iff.mp h]; exact .head _
    · exact .tail _ (memS_use h)
theorem okn_ok (P : Params) (C : Addr) (x : Str) (h : oknT C x = true) : okA (heapK P) C x = true := by
  have hc := okn_chk P
  rw [Bool.and_eq_true] at hc
  unfold oknT at h
  cases e1 : Nat.beq C 175 with
  | true =>
    rw [e1] at h
    rw [Nat.eq_of_beq_eq_true e1]
    exact allB_use hc.1 _ (memS_use h)
  | false =>
    cases e2 : Nat.beq C 302 with
    | true =>
      rw [e1, e2] at h
      rw [Nat.eq_of_beq_eq_true e2]
      exact allB_use hc.2 _ (memS_use h)
    | false => rw [e1, e2] at h; cases h
noncomputable abbrev CT := List (Addr × CallT)
noncomputable def lkN (f : Addr) : CT → Option CallT
  | [] => none
  | p :: r => match Nat.beq f p.1 with
    | true => some p.2
    | false => lkN f r
theorem lkN_mem {f : Addr} {T : CallT} : ∀ {l : CT}, lkN f l = some T → (f, T) ∈ l
  | [], h => by cases h
  | p :: r, h => by
    unfold lkN at h
    cases e : Nat.beq f p.1 with
    | true => rw [e] at h; cases h; rw [Nat.eq_of_beq_eq_true e]; exact .head _
    | false => rw [e] at h; exact .tail _ (lkN_mem h)
noncomputable abbrev InvT := Nat → St → Option Inv
noncomputable abbrev WInvT := Nat → St → Option WInv
noncomputable abbrev mkG (sc : Scope) (s by0 : Bool) (calls : CT) (inv : InvT) (winv : WInvT) : GP := ⟨sc, true, s, by0, fun x => lk x globTab, methT, oknT, fun f => lkN f calls, inv, winv⟩
theorem mkG_ok {c : Cx} {s by0 : Bool} {calls : CT} {inv : InvT} {winv : WInvT} (hd : c.hd = none) (hs : s = true → c.S = true ∧ c.A = c.A₀.deeper c.env) (hc : ∀ p ∈ calls, CallOk c p.1 p.2) : GOk (mkG c.sc s by0 calls inv winv) c :=
  ⟨rfl, fun _ => hd, hs, fun x v h => glob_ok _ x v h, fun C a f h => meth_ok _ C a f h, fun C x h => okn_ok _ C x h, fun f T h => hc _ (lkN_mem h)⟩
noncomputable def FnOk (f : Addr) (T : CallT) (m : Nat) : Prop := ∀ c : Cx, c.hd = none → m ≤ c.room → CallOk c f T
noncomputable def rowChk (K : Frag) (r : FRow) : Bool := codeIn K r.cdv r.qual && (keepIn K (.ref r.f) && (isFunK (fSc r.s).kind && (!(fSc r.s).isCoroutine && (!(fSc r.s).isGenerator && distS r.xs))))
theorem rows_chk (P : Params) : allB (rowChk (heapK P)) rows = true := by kernel_rfl
theorem rows_obj (P : Params) : (rows.map fun r => (heapK P).lookup r.f) = rows.map fun r => some r.obj := by kernel_rfl
theorem isFunK_use {k : ScopeKind} (h : isFunK k = true) : k = .function := by cases k <;> first | rfl | cases h
noncomputable def BodyOk (r : FRow) (T : CallT) (room : Nat) : Prop := ∀ (c : Cx) (A' : Around), c.hd = none → room + 1 ≤ c.room → A'.frames = some (c.env :: c.outer) → A'.handled = none → A'.depth ≤ c.dp + 1 → A'.units ≤ c.un + 20 →
  ∀ {n : Cn} {st : St} {Vs : List V} {vals : List Value} {k : V → St → Prop} {ex : Bool → Int → St → Prop}, BVs n.noL Vs vals → T Vs st.W (fun v W => k v ⟨W, st.Lc, st.vars⟩) (fun i W => ex false i ⟨W, st.Lc, st.vars⟩) →
  ∀ {pins : Led} {hp : Heap} {tk : Nat}, Rel c pins n st hp → ∀ {R : Result → Shared → Prop}, (∀ v s', Out c pins BV n k v s' → R (.ok (.ret v)) s') → (∀ e s', XOut c pins n ex e s' → R (.error e) s') → codeAny c.M A' (.call (.ref r.f) ⟨vals, []⟩) R (c.at_ hp tk)
theorem rows_use {r : FRow} (hr : r ∈ rows) (c : Cx) : codeIn c.K r.cdv r.qual = true ∧ keepIn c.K (.ref r.f) = true ∧ (fSc r.s).kind = .function ∧ (fSc r.s).isCoroutine = false ∧ (fSc r.s).isGenerator = false ∧ distS r.xs = true ∧ c.K.lookup r.f = some r.obj := by
  refine cps fun Zz zz => ?_
  have h1 := allB_use (rows_chk c.w.params) r hr
  simp only [rowChk, Bool.and_eq_true, Bool.not_eq_true'] at h1
  obtain ⟨a1, a2, a3, a4, a5, a6⟩ := h1
  refine zz ?_
  exact ⟨a1, a2, isFunK_use a3, a4, a5, a6, List.map_inj_left.mp (rows_obj c.w.params) r hr⟩
theorem body_ok (r : FRow) (hr : r ∈ rows) {T : CallT} (room fuel : Nat) (by0 : Bool) (calls : CT)
    (hloc : (allNotCell (fSc r.s).names && r.xs.all (okVar (fSc r.s))) = true)
    (hbind : ∀ vals : List Value, vals.length = r.xs.length → bindArgs r.fd ⟨vals, []⟩ = pure (r.xs.zip vals))
    (hcalls : ∀ p ∈ calls, FnOk p.1 p.2 room)
    (hT : ∀ Vs W k ex, T Vs W k ex → Vs.length = r.xs.length ∧ ∃ (inv : InvT) (winv : WInvT), vcB (vcS (mkG (fSc r.s) false by0 calls inv winv) fuel (fun _ i s => ex i s.W)) (fBd r.s) ⟨W, [], r.xs.zip Vs⟩ (fun fl s => k (retV fl) s.W)) : BodyOk r T room := by
  intro c A' hd hroom hA hh hde hu n st Vs vals k ex hb h pins hp tk rel R hret herr
  refine cps fun Zz zz => ?_
  obtain ⟨a1, a2, a3, a4, a5, a6, ho⟩ := rows_use hr c
  rw [Bool.and_eq_true] at hloc
  obtain ⟨hl, inv, winv, hv⟩ := hT Vs st.W _ _ h
  refine zz ?_
  refine fn_code hA hde hu ho a1 (by omega) a3 a4 a5 (allNotCell_use hloc.1) hloc.2 a6 hb (fun s => BindsTo.of_eq (hbind vals (by rw [hb.len, hl]))) (fun L' g => ?_) rel hret herr
  exact vcB_sound (vcS_sound fuel _ _ (mkG_ok (s := false) (by0 := by0) (inv := inv) (winv := winv) (c := c.kid A' false r.qual (fSc r.s) L' r.f r.cdv [] g a3 (by omega) hde hu) hh (fun h => Bool.noConfusion h) fun p hp => hcalls p hp _ hh (by show room ≤ c.room - 1; omega)) _) _ _ _ _ hv
theorem BodyOk.fn {r : FRow} (hr : r ∈ rows) {T : CallT} {room : Nat} (h : BodyOk r T room) : FnOk r.f T (room + 1) := fun c hd hroom =>
  ⟨(rows_use hr c).2.1, fun n st Vs vals k ex hb hT => fn_call fun pins hp tk rel R hret herr => h c c.A hd hroom rfl hd (Nat.le_succ _) (Nat.le_add_right _ _) hb hT rel hret herr⟩
theorem fn_ok (r : FRow) (hr : r ∈ rows) {T : CallT} (room fuel : Nat) (by0 : Bool) (calls : CT)
    (hloc : (allNotCell (fSc r.s).names && r.xs.all (okVar (fSc r.s))) = true)
    (hbind : ∀ vals : List Value, vals.length = r.xs.length → bindArgs r.fd ⟨vals, []⟩ = pure (r.xs.zip vals))
    (hcalls : ∀ p ∈ calls, FnOk p.1 p.2 room)
    (hT : ∀ Vs W k ex, T Vs W k ex → Vs.length = r.xs.length ∧ ∃ (inv : InvT) (winv : WInvT), vcB (vcS (mkG (fSc r.s) false by0 calls inv winv) fuel (fun _ i s => ex i s.W)) (fBd r.s) ⟨W, [], r.xs.zip Vs⟩ (fun fl s => k (retV fl) s.W)) : FnOk r.f T (room + 1) :=
  (body_ok r hr room fuel by0 calls hloc hbind hcalls hT).fn hr
noncomputable def clsT (C : Addr) (T : CallT) : CallT := fun Vs W k ex => noL Vs = true ∧ T (.g (lnth W) :: Vs) (W ++ [.inst C []]) (fun v W' => v = .d .none ∧ k (.g (lnth W)) W') ex
noncomputable def clsChk (K : Frag) (C f : Addr) : Bool := makesIn K C && ((match findIn K (.ref C) "__init__" with
  | some (some (.ref g)) => Nat.beq g f
  | _ => false) && (isFn K (.ref f) && (keepIn K (.ref C) && okC K C)))
theorem cls_ok {r : FRow} {T : CallT} {room : Nat} (h : BodyOk r T room) {C : Addr} (hC : ∀ P, clsChk (heapK P) C r.f = true) : FnOk C (clsT C T) (room + 1) := by
  intro c hd hroom
  have h1 := hC c.w.params
  simp only [clsChk, Bool.and_eq_true] at h1
  obtain ⟨b1, b2, b3, b4, b5⟩ := h1
  have b2 : findIn c.K (.ref C) "__init__" = some (some (.ref r.f)) := by
    split at b2
    · rename_i e; rw [e, Nat.eq_of_beq_eq_true b2]
    · cases b2
  refine ⟨b4, fun n st Vs vals k ex hb hT pins hp tk rel => ?_⟩
  obtain ⟨g, m, MW, ML, Am, F, N, ND, RW, RL, RV⟩ := rel
  refine call_cls F Am.X N b1 b2 b3 fun x dx h' F' N' lt1 lt2 => ?_
  have hxd : ∀ p ∈ MW ++ (ML ++ (n.imm ++ pins)), p.1 ≠ x ∧ p.1 ≠ dx := fun p hp => ⟨Nat.ne_of_lt (Nat.lt_trans (lt1 p hp) lt2), Nat.ne_of_lt (lt1 p hp)⟩
  have le : n.Le ⟨n.ga ++ [x], n.la, n.imm⟩ := ⟨fun i b h => by
    show (n.ga ++ [x])[i]? = some b
    rw [List.getElem?_append_left (List.getElem?_eq_some_iff.mp h).1]; exact h, fun _ _ h => h, fun p hp => hp⟩
  have hx : RO c.w ⟨n.ga ++ [x], n.la, n.imm⟩ x (.inst C []) [(x, instObj C dx), (dx, dictOf [] 0)] := ⟨dx, [], 0, rfl, rfl, b5, Nat.zero_le _⟩
  have RW' := (RW.mono fun _ _ _ => RO.mono le).snoc hx
  have rel' : Rel c pins ⟨n.ga ++ [x], n.la, n.imm⟩ ⟨st.W ++ [.inst C []], st.Lc, st.vars⟩ h' := by
    refine ⟨g, m, _, ML, Am, F', news_sub N' fun p hp => ?_, ?_, RW', RL.mono fun _ _ _ => RLo.mono le, RV.mono le⟩
    · simp only [List.mem_append, List.mem_cons, List.not_mem_nil, or_false] at hp ⊢
      rcases hp with (h | h | h) | h | h | h <;> simp [h]
    · have : (((x, instObj C dx) :: (dx, dictOf [] 0) :: (MW ++ (ML ++ (n.imm ++ pins)))).map (·.1)).Nodup := by
        rw [List.map_cons, List.map_cons, List.nodup_cons, List.nodup_cons]
        refine ⟨fun h => ?_, fun h => ?_, ND⟩
        · rcases List.mem_cons.mp h with e | h
          · exact absurd lt2 (by rw [show x = dx from e]; exact Nat.lt_irrefl _)
          · obtain ⟨p, hp, e⟩ := List.mem_map.mp h
            exact (hxd p hp).1 e
        · obtain ⟨p, hp, e⟩ := List.mem_map.mp h
          exact (hxd p hp).2 e
      refine (List.Perm.nodup_iff (List.Perm.map _ ?_)).mp this
      have e1 : (MW ++ [(x, instObj C dx), (dx, dictOf [] 0)]) ++ (ML ++ (n.imm ++ pins)) = MW ++ ([(x, instObj C dx), (dx, dictOf [] 0)] ++ (ML ++ (n.imm ++ pins))) := by simp
      rw [e1]
      have e2 : (x, instObj C dx) :: (dx, dictOf [] 0) :: (MW ++ (ML ++ (n.imm ++ pins))) = ([(x, instObj C dx), (dx, dictOf [] 0)] ++ MW) ++ (ML ++ (n.imm ++ pins)) := by simp
      rw [e2, ← List.append_assoc MW]
      exact List.Perm.append_right _ List.perm_append_comm
  obtain ⟨hnl, hT⟩ := hT
  have hself : BV (Cn.noL ⟨n.ga ++ [x], n.la, n.imm⟩) (.g (lnth st.W)) (.ref x) := by
    refine ⟨x, ?_, rfl⟩
    show (n.ga ++ [x])[lnth st.W]? = some x
    rw [lnth_eq, ← RW.len]
    simp
  refine h c _ hd hroom rfl hd (Nat.le_refl _) (by show c.un + _ ≤ _; exact Nat.add_le_add_left (Nat.le_of_ble_eq_true rfl) _) (k := fun v s => v = .d .none ∧ k (.g (lnth st.W)) ⟨s.W, s.Lc, s.vars⟩) (ex := ex) (.cons hself (hb.mono le.noL)) hT rel' (fun v s' o => ?_) (fun e s' o => o.le le)
  cases o with
  | mk n1 b st1 h1 t1 le1 r1 rv1 q1 =>
  obtain ⟨rfl, q1⟩ := q1
  have hv := rv1.none
  refine ⟨hv, .mk n1 (.g (lnth st.W)) st1 h1 t1 (le.trans le1) r1 ?_ q1⟩
  obtain ⟨a, ha, e⟩ := hself
  exact ⟨a, le1.ga _ _ ha, e⟩
noncomputable def FnOkS (f : Addr) (T : CallT) (m : Nat) : Prop := ∀ c : Cx, c.hd = none → c.S = true → c.cl = [] → m ≤ c.room → CallOk c f T
theorem fnS_ok (r : FRow) (hr : r ∈ rows) {T : CallT} (room fuel : Nat) (by0 : Bool) (calls callsS : CT)
    (hloc : r.xs.all (okPar (fSc r.s)) = true) (hndc : ((cellsFrom 0 (fSc r.s).names []).map (·.1)).Nodup) (hone : ∀ L' : Nat, cellsFrom (L' + 1) (fSc r.s).names [] = [] ∨ (callsS = [] ∧ ∃ x, cellsFrom (L' + 1) (fSc r.s).names [] = [(x, L' + 1)]))
    (hbind : ∀ vals : List Value, vals.length = r.xs.length → bindArgs r.fd ⟨vals, []⟩ = pure (r.xs.zip vals))
    (hcalls : ∀ p ∈ calls, FnOk p.1 p.2 room) (hcallsS : ∀ p ∈ callsS, FnOkS p.1 p.2 room)
    (hT : ∀ Vs W k ex, T Vs W k ex → Vs.length = r.xs.length ∧ ∃ (inv : InvT) (winv : WInvT), vcB (vcS (mkG (fSc r.s) true by0 (calls ++ callsS) inv winv) fuel noEx) (fBd r.s) ⟨W, [], r.xs.zip Vs⟩ (fun fl s => k (retV fl) s.W)) : FnOkS r.f T (room + 1) := by
  intro c hd hS hcl hroom
  obtain ⟨a1, a2, a3, a4, a5, a6, ho⟩ := rows_use hr c
  refine ⟨a2, fun n st Vs vals k ex hb h => ?_⟩
  obtain ⟨hl, inv, winv, hv⟩ := hT Vs st.W _ _ h
  refine fn_codeS hd hS hcl ho a1 (by omega) a3 a4 a5 hloc a6 hndc (fun L' => (hone L').imp id fun h => h.2) hb (fun s => BindsTo.of_eq (hbind vals (by rw [hb.len, hl]))) fun L' g hdd huu => ?_
  refine vcB_sound (vcS_sound fuel _ _ (mkG_ok (s := true) (by0 := by0) (inv := inv) (winv := winv) (c := c.kid c.A true r.qual (fSc r.s) L' r.f r.cdv (cellsFrom (L' + 1) (fSc r.s).names []) g a3 (by omega) hdd huu) hd (fun _ => ⟨rfl, Cx.kid_A rfl⟩) fun p hp => ?_) _) _ _ _ _ hv
  have hrm : room ≤ c.room - 1 := by omega
  rcases List.mem_append.mp hp with hp | hp
  · exact hcalls p hp _ hd hrm
  · rcases hone L' with e | ⟨e, _⟩
    · exact hcallsS p hp _ hd rfl e hrm
    · rw [e] at hp; cases hp
noncomputable abbrev noInv : InvT := fun _ _ => none
noncomputable abbrev noWInv : WInvT := fun _ _ => none
noncomputable def rO (st : Str) (ps : List D) (rd hi : Int) (fi rc sc : D) : AObj := .inst 175 [(S "limit", .int 12), (S "state", .str st), (S "pieces", .lst ps), (S "read_to", .int rd), (S "highest", .int hi), (S "final_size", fi), (S "reset_code", rc), (S "stop_code", sc)]
noncomputable def sO (st : Str) (wr sn : Int) (ac lo : List D) (fin oe ea : Bool) (rc : D) (ow : Bool) : AObj := .inst 302 [(S "limit", .int 100), (S "state", .str st), (S "written", .by_ wr), (S "sent_to", .int sn), (S "acked", .lst ac), (S "lost", .lst lo), (S "is_finished", .bool fin), (S "owes_end", .bool oe), (S "is_end_acked", .bool ea), (S "reset_code", rc), (S "owes_reset", .bool ow)]
noncomputable abbrev vcF (r : FRow) (by0 : Bool) (calls : CT) (inv : InvT) (winv : WInvT) (Vs : List V) (W : List AObj) (k : V → List AObj → Prop) (ex : Int → List AObj → Prop) : Prop :=
  vcB (vcS (mkG (fSc r.s) false by0 calls inv winv) 40 (fun _ i s => ex i s.W)) (fBd r.s) ⟨W, [], r.xs.zip Vs⟩ (fun fl s => k (retV fl) s.W)
end
noncomputable section
noncomputable def InP (ps : Pcs) (x : Int) : Prop := ∃ p ∈ ps, p.1 ≤ x ∧ x < p.1 + p.2
structure SepP (lo hi : Int) (ps : Pcs) : Prop where
  pw : ps.Pairwise SepR
  al : ∀ p ∈ ps, lo ≤ p.1 ∧ 0 < p.2 ∧ p.1 + p.2 ≤ hi
structure AddInv (o : Int) (k0 : Nat) (pre suf F : Pcs) (b : Int) (k : Nat) : Prop where
  kp : 0 < k
  ex : ∃ A B, F = A ++ B ∧ (∀ a ∈ A, a.1 + a.2 < b) ∧ (∀ c ∈ B, b + k < c.1)
  pw : F.Pairwise SepR
  al : ∀ f ∈ F, 0 < f.2 ∧ ∀ q ∈ suf, SepR f q
  cov : ∀ x, (InP F x ∨ (b ≤ x ∧ x < b + k)) ↔ (InP pre x ∨ (o ≤ x ∧ x < o + k0))
theorem InP_nil {x : Int} : ¬ InP [] x := fun ⟨_, h, _⟩ => nomatch h
theorem InP_cons {p : Int × Nat} {ps : Pcs} {x : Int} : InP (p :: ps) x ↔ (p.1 ≤ x ∧ x < p.1 + p.2) ∨ InP ps x := by
  unfold InP
  constructor
  · rintro ⟨q, hq, h⟩
    rcases List.mem_cons.mp hq with rfl | hq
    · exact .inl h
    · exact .inr ⟨q, hq, h⟩
  · rintro (h | ⟨q, hq, h⟩)
    · exact ⟨p, .head _, h⟩
    · exact ⟨q, .tail _ hq, h⟩
theorem InP_app {ps qs : Pcs} {x : Int} : InP (ps ++ qs) x ↔ InP ps x ∨ InP qs x := by
  induction ps with
  | nil => simp [InP_nil]
  | cons p ps ih => rw [List.cons_append, InP_cons, InP_cons, ih, or_assoc]
theorem AddInv.init {o : Int} {k0 : Nat} {ps : Pcs} (h : 0 < k0) : AddInv o k0 [] ps [] o k0 :=
  ⟨h, ⟨[], [], rfl, by simp, by simp⟩, .nil, by simp, fun x => Iff.rfl⟩
section
variable {o b : Int} {k0 k : Nat} {pre suf F : Pcs} {p : Int × Nat}
theorem AddInv.keep (I : AddInv o k0 pre (p :: suf) F b k) (hp : 0 < p.2) (hs : ∀ q ∈ suf, SepR p q) (c : p.1 + p.2 < b ∨ b + k < p.1) : AddInv o k0 (pre ++ [p]) suf (F ++ [p]) b k := by
  obtain ⟨hk, ⟨A, B, e, hA, hB⟩, pw, al, cov⟩ := I
  refine ⟨hk, ?_, List.pairwise_append.mpr ⟨pw, List.pairwise_singleton _ _, fun f hf q hq => by rw [List.mem_singleton.mp hq]; exact (al f hf).2 p (.head _)⟩, fun f hf => ?_, fun x => ?_⟩
  · rcases c with c | c
    · have hB0 : B = [] := by
        cases B with
        | nil => rfl
        | cons c B =>
          have h1 := hB c (.head _)
          have h2 := (al c (by rw [e]; exact List.mem_append_right _ (.head _))).2 p (.head _)
          have h3 : c.1 + c.2 < p.1 := h2
          lia
      subst hB0
      refine ⟨A ++ [p], [], by rw [e]; simp, fun a ha => ?_, fun _ h => nomatch h⟩
      rcases List.mem_append.mp ha with ha | ha
      · exact hA a ha
      · rw [List.mem_singleton.mp ha]; exact c
    · refine ⟨A, B ++ [p], by rw [e, List.append_assoc], hA, fun q hq => ?_⟩
      rcases List.mem_append.mp hq with hq | hq
      · exact hB q hq
      · rw [List.mem_singleton.mp hq]; exact c
  · rcases List.mem_append.mp hf with hf | hf
    · exact ⟨(al f hf).1, fun q hq => (al f hf).2 q (.tail _ hq)⟩
    · rw [List.mem_singleton.mp hf]; exact ⟨hp, hs⟩
  · have := cov x
    rw [InP_app, InP_app]
    constructor
    · rintro ((h | h) | h)
      · rcases this.mp (.inl h) with h | h
        · exact .inl (.inl h)
        · exact .inr h
      · exact .inl (.inr h)
      · rcases this.mp (.inr h) with h | h
        · exact .inl (.inl h)
        · exact .inr h
    · rintro ((h | h) | h)
      · rcases this.mpr (.inl h) with h | h
        · exact .inl (.inl h)
        · exact .inr h
      · exact .inl (.inr h)
      · rcases this.mpr (.inr h) with h | h
        · exact .inl (.inl h)
        · exact .inr h
theorem AddInv.join (I : AddInv o k0 pre (p :: suf) F b k) (hp : 0 < p.2) (hs : ∀ q ∈ suf, SepR p q) (c1 : b ≤ p.1 + p.2) (c2 : p.1 ≤ b + k) {b' : Int} {k' : Nat} (hb : b' = min b p.1) (hk' : b' + k' = max (b + k) (p.1 + p.2)) : AddInv o k0 (pre ++ [p]) suf F b' k' := by
  obtain ⟨hk, ⟨A, B, e, hA, hB⟩, pw, al, cov⟩ := I
  have hB0 : B = [] := by
    cases B with
    | nil => rfl
    | cons c B =>
      have h1 := hB c (.head _)
      have h2 := (al c (by rw [e]; exact List.mem_append_right _ (.head _))).2 p (.head _)
      have h3 : c.1 + c.2 < p.1 := h2
      lia
  subst hB0
  simp only [List.append_nil] at e
  subst e
  refine ⟨by omega, ⟨F, [], by simp, fun a ha => ?_, fun _ h => nomatch h⟩, pw, fun f hf => ⟨(al f hf).1, fun q hq => (al f hf).2 q (.tail _ hq)⟩, fun x => ?_⟩
  · have h1 := hA a ha
    have h2 : a.1 + a.2 < p.1 := (al a ha).2 p (.head _)
    omega
  · have key : (b' ≤ x ∧ x < b' + k') ↔ (b ≤ x ∧ x < b + k) ∨ (p.1 ≤ x ∧ x < p.1 + p.2) := by
      clear cov al hA hs pw
      omega
    have := cov x
    rw [InP_app, InP_cons, key]
    constructor
    · rintro (h | h | h)
      · exact (this.mp (.inl h)).elim (fun h => .inl (.inl h)) .inr
      · exact (this.mp (.inr h)).elim (fun h => .inl (.inl h)) .inr
      · exact .inl (.inr (.inl h))
    · rintro ((h | h | h) | h)
      · exact (this.mpr (.inl h)).imp id .inl
      · exact .inr (.inr h)
      · exact (InP_nil h).elim
      · exact (this.mpr (.inr h)).imp id .inl
theorem AddInv.done {lo hi : Int} (I : AddInv o k0 pre [] F b k) (hpre : SepP lo hi pre) (h1 : lo ≤ o) (h2 : o + k0 ≤ hi) (hk0 : 0 < k0) : ∃ A B, F = A ++ B ∧ SepP lo hi (A ++ (b, k) :: B) ∧ ∀ x, InP (A ++ (b, k) :: B) x ↔ InP pre x ∨ (o ≤ x ∧ x < o + k0) := by
  refine cps fun Zz zz => ?_
  obtain ⟨hk, ⟨A, B, e, hA, hB⟩, pw, al, cov⟩ := I
  subst e
  have pw' := List.pairwise_append.mp pw
  have cv : ∀ x, InP (A ++ (b, k) :: B) x ↔ InP pre x ∨ (o ≤ x ∧ x < o + k0) := fun x => by
    rw [← cov x, InP_app, InP_app, InP_cons]
    constructor
    · rintro (h | h | h)
      · exact .inl (.inl h)
      · exact .inr h
      · exact .inl (.inr h)
    · rintro ((h | h) | h)
      · exact .inl h
      · exact .inr (.inr h)
      · exact .inr (.inl h)
  have bnd : ∀ x, InP (A ++ (b, k) :: B) x → lo ≤ x ∧ x < hi := fun x hx => by
    rcases (cv x).mp hx with ⟨p, hp, h⟩ | h
    · have := hpre.al p hp
      lia
    · lia
  refine zz ?_
  refine ⟨A, B, rfl, ⟨List.pairwise_append.mpr ⟨pw'.1, List.pairwise_cons.mpr ⟨fun c hc => hB c hc, pw'.2.1⟩, fun a ha c hc => ?_⟩, fun p hp => ?_⟩, cv⟩
  · rcases List.mem_cons.mp hc with rfl | hc
    · exact hA a ha
    · exact pw'.2.2 a ha c hc
  · have hp2 : 0 < p.2 := by
      rcases List.mem_append.mp hp with hp | hp
      · exact (al p (List.mem_append_left _ hp)).1
      · rcases List.mem_cons.mp hp with rfl | hp
        · exact hk
        · exact (al p (List.mem_append_right _ hp)).1
    have e1 := bnd p.1 ⟨p, hp, Int.le_refl _, by lia⟩
    have e2 := bnd (p.1 + p.2 - 1) ⟨p, hp, by lia, by lia⟩
    exact ⟨e1.1, hp2, by lia⟩
end
theorem SepP.count {lo hi : Int} : ∀ {ps : Pcs}, SepP lo hi ps → ps ≠ [] → (2 * ps.length : Int) ≤ hi - lo + 1
  | [], _, h => absurd rfl h
  | [p], h, _ => by have := h.al p (.head _); simp only [List.length_cons, List.length_nil]; lia
  | p :: q :: r, h, _ => by
    have h' : SepP (lo + 2) hi (q :: r) := ⟨(List.pairwise_cons.mp h.pw).2, fun x hx => by
      have a := h.al x (.tail _ hx)
      have b := h.al p (.head _)
      have c : p.1 + p.2 < x.1 := (List.pairwise_cons.mp h.pw).1 x hx
      omega⟩
    have := h'.count (by simp)
    simp only [List.length_cons] at this ⊢
    lia
theorem SepP.one {lo hi l h : Int} {ps : Pcs} (S : SepP lo hi ps) (hlh : l < h) : (∃ p ∈ ps, p.1 ≤ l ∧ h ≤ p.1 + p.2) ↔ ∀ x, l ≤ x → x < h → InP ps x := by
  constructor
  · rintro ⟨p, hp, h1, h2⟩ x hx1 hx2
    exact ⟨p, hp, by lia, by lia⟩
  · intro H
    obtain ⟨p, hp, h1, h2⟩ := H l (Int.le_refl _) hlh
    refine ⟨p, hp, h1, ?_⟩
    by_cases hc : h ≤ p.1 + p.2
    · exact hc
    · exfalso
      obtain ⟨q, hq, h3, h4⟩ := H (p.1 + p.2) (by lia) (by lia)
      obtain ⟨i, hi, rfl⟩ := List.getElem_of_mem hp
      obtain ⟨j, hj, rfl⟩ := List.getElem_of_mem hq
      rcases Nat.lt_trichotomy i j with c | c | c
      · have : (ps[i]).1 + (ps[i]).2 < (ps[j]).1 := List.pairwise_iff_getElem.mp S.pw i j hi hj c
        lia
      · subst c; lia
      · have : (ps[j]).1 + (ps[j]).2 < (ps[i]).1 := List.pairwise_iff_getElem.mp S.pw j i hj hi c
        lia
theorem SepP.mono {lo lo' hi : Int} {ps : Pcs} (S : SepP lo hi ps) (h : lo' ≤ lo) : SepP lo' hi ps := ⟨S.pw, fun p hp => by have := S.al p hp; lia⟩
theorem SepP.nil {lo hi : Int} : SepP lo hi [] := ⟨.nil, fun _ h => nomatch h⟩
theorem SepP.tail {lo hi : Int} {p : Int × Nat} {ps : Pcs} (S : SepP lo hi (p :: ps)) : SepP (p.1 + p.2 + 1) hi ps :=
  ⟨(List.pairwise_cons.mp S.pw).2, fun q hq => by
    have a := S.al q (.tail _ hq)
    have c : p.1 + p.2 < q.1 := (List.pairwise_cons.mp S.pw).1 q hq
    lia⟩
theorem SepP.ge {lo hi x : Int} {ps : Pcs} (S : SepP lo hi ps) (h : InP ps x) : lo ≤ x ∧ x < hi := by
  obtain ⟨p, hp, h⟩ := h
  have := S.al p hp
  lia
noncomputable def takeAt (at_ : Int) : Pcs → Nat × Pcs
  | [] => (0, [])
  | p :: r => if p.1 = at_ then (p.2, r) else (0, p :: r)
theorem takeAt_spec {lo hi : Int} {ps : Pcs} (S : SepP lo hi ps) : SepP (lo + (takeAt lo ps).1) hi (takeAt lo ps).2 ∧ (∀ x, InP (takeAt lo ps).2 x ↔ InP ps x ∧ lo + (takeAt lo ps).1 ≤ x) ∧ (∀ x, lo ≤ x → x < lo + (takeAt lo ps).1 → InP ps x) ∧ ¬ InP ps (lo + (takeAt lo ps).1) := by
  cases ps with
  | nil => exact ⟨SepP.nil, fun x => ⟨fun h => (InP_nil h).elim, fun h => (InP_nil h.1).elim⟩, fun x h1 h2 => by simp only [takeAt] at h2; lia, InP_nil⟩
  | cons p r =>
    have hp := S.al p (.head _)
    have ht := S.tail
    by_cases e : p.1 = lo
    · rw [show takeAt lo (p :: r) = (p.2, r) from if_pos e]
      refine ⟨ht.mono (by lia), fun x => ?_, fun x h1 h2 => InP_cons.mpr (.inl (by simp only at h2; lia)), fun h => ?_⟩
      · rw [InP_cons]
        constructor
        · intro h; exact ⟨.inr h, by have := (ht.ge h).1; simp only; lia⟩
        · rintro ⟨h | h, h'⟩
          · simp only at h'; lia
          · exact h
      · rcases InP_cons.mp h with h | h
        · simp only at h; lia
        · have := (ht.ge h).1; simp only at this; lia
    · rw [show takeAt lo (p :: r) = (0, p :: r) from if_neg e]
      refine ⟨S.mono (by simp), fun x => ?_, fun x h1 h2 => by simp only at h2; lia, fun h => ?_⟩
      · constructor
        · intro h; exact ⟨h, by have := (S.ge h).1; simp only; lia⟩
        · exact fun h => h.1
      · rcases InP_cons.mp h with h | h
        · simp only at h; lia
        · have := (ht.ge h).1; simp only at this; lia

theorem takeAt_snoc {at_ : Int} {lo hi : Int} {ps : Pcs} {p : Int × Nat} {i : Nat} (S : SepP lo hi ps) (e : at_ = lo) (hi : ps[i]? = some p) :
    takeAt at_ (ps.take (i + 1)) = if p.1 = at_ then (p.2, []) else ((takeAt at_ (ps.take i)).1, (takeAt at_ (ps.take i)).2 ++ [p]) := by
  subst e
  have htake : ps.take (i + 1) = ps.take i ++ [p] := by rw [List.take_add_one, hi]; rfl
  rw [htake]
  cases i with
  | zero =>
    simp only [List.take_zero, List.nil_append, takeAt]
  | succ i =>
    cases ps with
    | nil => simp at hi
    | cons q r =>
      rw [List.getElem?_cons_succ] at hi
      have h1 : q.1 + q.2 < p.1 := (List.pairwise_cons.mp S.pw).1 p (List.mem_of_getElem? hi)
      have h2 := S.al q (.head _)
      rw [if_neg (by lia)]
      simp only [List.take_succ_cons, List.cons_append, takeAt]
      split <;> rfl
noncomputable def badFin (fi : Option Int) (en : Int) (isf : Bool) : Bool := match fi with | none => false | some f => decide (f < en) || (isf && decide (en ≠ f))
noncomputable def dueOf (fi : Option Int) (hi en : Int) (isf : Bool) : Option Int := if badFin fi en isf = true then some 6 else if isf = true ∧ en < hi then some 6 else if 12 < en then some 3 else none
noncomputable def isLive (st : Str) : Bool := [Str.ofString "recv", Str.ofString "size_known"].any (· == st)
noncomputable def isRst (st : Str) : Bool := [Str.ofString "reset_recvd", Str.ofString "reset_read"].any (· == st)
noncomputable def isOpen (st : Str) : Bool := [Str.ofString "ready", Str.ofString "send"].any (· == st)
noncomputable def StNext (st : Str) (sp : Bool) (rd : Int) (ps : Pcs) (fi : Option Int) (st' : Str) : Prop :=
  match fi with
  | none => st' = st
  | some f => ∃ b : Bool, (b = true ↔ sp = false ∧ ∀ x, rd ≤ x → x < f → InP ps x) ∧ st' = if b = true then Str.ofString "data_recvd" else Str.ofString "size_known"
noncomputable def fD : Option Int → D
  | none => .none
  | some f => .int f
noncomputable def scD : Bool → D
  | false => .none
  | true => .int 3
end
noncomputable section
noncomputable abbrev encI (p : Int × Int) : D := .tup [.int p.1, .int p.2]
section
variable {R : Prop}
noncomputable def gAt (i : Nat) (v : V) (P : Prop) : Prop := gOf v fun j => orB (Nat.beq j i) P False
noncomputable def thr1 {α : Type} (l : List α) (P : α → α → α → Prop) : Prop := l.casesOn False fun x r => two1 r (P x)
noncomputable def fou1 {α : Type} (l : List α) (P : α → α → α → α → Prop) : Prop := l.casesOn False fun x r => thr1 r (P x)
noncomputable def A1 (i : Nat) (Vs : List V) (P : Prop) : Prop := one1 Vs fun v => gAt i v P
noncomputable def A2i (i : Nat) (Vs : List V) (P : Int → Prop) : Prop := two1 Vs fun v e => gAt i v (int1 e P)
noncomputable def A2z (i : Nat) (z : Int) (Vs : List V) (P : Prop) : Prop := A2i i Vs fun x => orB (decide (x = z)) P False
noncomputable def A2d (i : Nat) (Vs : List V) (P : D → Prop) : Prop := two1 Vs fun v e => gAt i v (dOf e P)
noncomputable def A2g (i j : Nat) (Vs : List V) (P : Prop) : Prop := two1 Vs fun v e => gAt i v (gAt j e P)
noncomputable def A3g (i j l : Nat) (Vs : List V) (P : Prop) : Prop := thr1 Vs fun v u w => gAt i v (gAt j u (gAt l w P))
noncomputable def A3d (i : Nat) (Vs : List V) (P : D → D → Prop) : Prop := thr1 Vs fun v u w => gAt i v (dOf u fun x => dOf w (P x))
noncomputable def A4d (i : Nat) (Vs : List V) (P : D → D → D → Prop) : Prop := fou1 Vs fun v u w z => gAt i v (dOf u fun x => dOf w fun y => dOf z (P x y))
noncomputable def L3 (Vs : List V) (P : List D → Int → Int → Prop) : Prop := thr1 Vs fun v u w => dOf v fun x => lOf x fun l => int2 u w (P l)
theorem gAt_go {i : Nat} {v : V} {P : Prop} (h : gAt i v P) (k : v = .g i → P → R) : R := by
  cases v <;> first | exact h.elim | skip
  exact orB_go (P := P) h fun e h => k (congrArg V.g (Nat.eq_of_beq_eq_true e)) h
theorem bOf_go {x : D} {P : Bool → Prop} (h : bOf x P) (k : ∀ i, x = .bool i → P i → R) : R := by cases x <;> first | exact k _ rfl h | exact h.elim
theorem xOf_go {x : D} {P : Int → Prop} (h : xOf x P) (k : ∀ i, x = .xs i → P i → R) : R := by cases x <;> first | exact k _ rfl h | exact h.elim
theorem yOf_go {x : D} {P : Int → Prop} (h : yOf x P) (k : ∀ i, x = .by_ i → P i → R) : R := by cases x <;> first | exact k _ rfl h | exact h.elim
theorem tOf_go {x : D} {P : List D → Prop} (h : tOf x P) (k : ∀ i, x = .tup i → P i → R) : R := by cases x <;> first | exact k _ rfl h | exact h.elim
theorem thr1_go {α : Type} {l : List α} {P : α → α → α → Prop} (h : thr1 l P) (k : ∀ x y z, l = [x, y, z] → P x y z → R) : R := by
  cases l with
  | nil => exact h.elim
  | cons x r => exact two1_go (show two1 r (P x) from h) fun y z e h => k x y z (congrArg (x :: ·) e) h
theorem fou1_go {α : Type} {l : List α} {P : α → α → α → α → Prop} (h : fou1 l P) (k : ∀ x y z w, l = [x, y, z, w] → P x y z w → R) : R := by
  cases l with
  | nil => exact h.elim
  | cons x r => exact thr1_go (show thr1 r (P x) from h) fun y z w e h => k x y z w (congrArg (x :: ·) e) h
variable {Vs : List V} {i j l : Nat}
theorem A1_go {P} (h : A1 i Vs P) (k : Vs = [.g i] → P → R) : R := one1_go h fun v e h => gAt_go h fun e2 h => k (by rw [e, e2]) h
theorem A2i_go {P} (h : A2i i Vs P) (k : ∀ x, Vs = [.g i, .d (.int x)] → P x → R) : R := two1_go h fun v w e h => gAt_go h fun e2 h => int1_go h fun x e3 h => k x (by rw [e, e2, e3]) h
theorem A2z_go {z : Int} {P} (h : A2z i z Vs P) (k : Vs = [.g i, .d (.int z)] → P → R) : R := A2i_go h fun x e h => orB_go h fun e2 h => k (by rw [e, of_decide_eq_true e2]) h
theorem A2d_go {P} (h : A2d i Vs P) (k : ∀ x, Vs = [.g i, .d x] → P x → R) : R := two1_go h fun v w e h => gAt_go h fun e2 h => dOf_go h fun x e3 h => k x (by rw [e, e2, e3]) h
theorem A2g_go {P} (h : A2g i j Vs P) (k : Vs = [.g i, .g j] → P → R) : R := two1_go h fun v w e h => gAt_go h fun e2 h => gAt_go h fun e3 h => k (by rw [e, e2, e3]) h
theorem A3g_go {P} (h : A3g i j l Vs P) (k : Vs = [.g i, .g j, .g l] → P → R) : R := thr1_go h fun u v w e h => gAt_go h fun e2 h => gAt_go h fun e3 h => gAt_go h fun e4 h => k (by rw [e, e2, e3, e4]) h
theorem A3d_go {P} (h : A3d i Vs P) (k : ∀ x y, Vs = [.g i, .d x, .d y] → P x y → R) : R := thr1_go h fun u v w e h => gAt_go h fun e2 h => dOf_go h fun x e3 h => dOf_go h fun y e4 h => k x y (by rw [e, e2, e3, e4]) h
theorem A4d_go {P} (h : A4d i Vs P) (k : ∀ x y z, Vs = [.g i, .d x, .d y, .d z] → P x y z → R) : R := fou1_go h fun u v w z e h => gAt_go h fun e2 h => dOf_go h fun x e3 h => dOf_go h fun y e4 h => dOf_go h fun z e5 h => k x y z (by rw [e, e2, e3, e4, e5]) h
theorem L3_go {P} (h : L3 Vs P) (k : ∀ ds x y, Vs = [.d (.lst ds), .d (.int x), .d (.int y)] → P ds x y → R) : R := thr1_go h fun u v w e h => dOf_go h fun d e2 h => lOf_go h fun ds e3 h => int1_go h fun x e4 h => int1_go h fun y e5 h => k ds x y (by rw [e, e2, e3, e4, e5]) h
end
noncomputable def fldD (o : AObj) (i : Nat) : D := o.casesOn (fun _ fs => (nth fs i).casesOn D.none fun p => p.2) (fun _ => .none) (fun kvs => (nth kvs i).casesOn D.none fun p => p.2.casesOn (fun d => d) (fun _ => .none) (fun _ => .none) (fun _ => .none) (fun _ => .none) (fun _ => .none)) (fun _ => .none) (fun _ _ => .none)
noncomputable def gS (d : D) : Str := d.casesOn (S "") (fun _ => S "") (fun _ => S "") (fun s => s) (fun _ => S "") (fun _ => S "") (fun _ => S "") (fun _ => S "")
noncomputable def gI (d : D) : Int := d.casesOn 0 (fun _ => 0) (fun x => x) (fun _ => 0) (fun x => x) (fun x => x) (fun _ => 0) (fun _ => 0)
noncomputable def gB (d : D) : Bool := d.casesOn false (fun b => b) (fun _ => false) (fun _ => false) (fun _ => false) (fun _ => false) (fun _ => false) (fun _ => false)
noncomputable def gLs (d : D) : List D := d.casesOn [] (fun _ => []) (fun _ => []) (fun _ => []) (fun _ => []) (fun _ => []) (fun _ => []) (fun l => l)
noncomputable def w3 (W : List AObj) (f : AObj → AObj → AObj → List AObj → Prop) : Prop := W.casesOn False fun b r => r.casesOn False fun l r => r.casesOn False fun o rest => f b l o rest
theorem w3_go {W : List AObj} {f : AObj → AObj → AObj → List AObj → Prop} {R : Prop} (h : w3 W f) (k : ∀ b l o rest, f b l o rest → R) : R := by
  cases W with
  | nil => exact h.elim
  | cons b r => cases r with
    | nil => exact h.elim
    | cons l r => cases r with
      | nil => exact h.elim
      | cons o rest => exact k b l o rest h
noncomputable def T67 : CallT := fun Vs W k _ => L3 Vs fun ds lo hi => ds.casesOn (lo = 0 ∧ (0 ≤ hi ∧ ((hi = 0 → k (.d (.lst [])) W) ∧ (0 < hi → k (.d (.lst [.tup [.int 0, .int hi]])) W))))
  fun x r => nil1 r (tOf x fun q => two1 q fun z m => iOf z fun z => iOf m fun m => (z = 0 ∧ (0 < m ∧ (lo = m ∧ m ≤ hi))) ∧ k (.d (.lst [.tup [.int 0, .int hi]])) W)
noncomputable def T74 : CallT := fun Vs W k _ => L3 Vs fun ds _ _ => nil1 ds (k (.d (.lst [])) W)
noncomputable def T81 : CallT := fun Vs W k _ => L3 Vs fun ds lo hi => ∃ qs : List (Int × Int), ds = qs.map encI ∧ ∀ r : Bool, (r = true ↔ hi ≤ lo ∨ ∃ q ∈ qs, q.1 ≤ lo ∧ hi ≤ q.2) → k (.d (.bool r)) W
noncomputable def T88 : CallT := fun Vs W k _ => two1 Vs fun v u => dOf v fun x => lOf x fun l => int1 u fun _ => nil1 l (k (.d .none) W)
noncomputable def T48 : CallT := fun Vs W k _ => thr1 Vs fun v u w => dOf v fun x => lOf x fun ds => int1 u fun o => dOf w fun y => xOf y fun n => ∃ (lo : Int) (ps : Pcs) (m : Nat), (ds = ps.map encP ∧ (n = (m : Int) ∧ (0 ≤ lo ∧ (lo ≤ o ∧ o + m ≤ 12)))) ∧ (SepP lo 12 ps ∧
      ∀ ps' : Pcs, SepP lo 12 ps' → (∀ x, InP ps' x ↔ InP ps x ∨ (o ≤ x ∧ x < o + m)) → k (.d (.lst (ps'.map encP))) W)
noncomputable def T55 : CallT := fun Vs W k _ => two1 Vs fun v u => dOf v fun x => lOf x fun ds => int1 u fun at_ => ∃ ps : Pcs, (ds = ps.map encP ∧ (0 ≤ at_ ∧ SepP at_ 12 ps)) ∧ k (.d (.tup [.xs (takeAt at_ ps).1, .lst ((takeAt at_ ps).2.map encP)])) W
noncomputable def T60 : CallT := fun Vs W k _ => one1 Vs fun v => dOf v fun x => lOf x fun ds => ∃ ps : Pcs, (ds = ps.map encP ∧ ∀ p ∈ ps, -4096 ≤ p.1 ∧ p.1 ≤ 4096) ∧ k (.d (.lst (ps.map encS))) W
noncomputable def onR (W : List AObj) (f : AObj → AObj → Str → List D → Int → Int → D → D → D → List AObj → Prop) : Prop := w3 W fun b l o rest =>
  W = b :: l :: rO (gS (fldD o 1)) (gLs (fldD o 2)) (gI (fldD o 3)) (gI (fldD o 4)) (fldD o 5) (fldD o 6) (fldD o 7) :: rest ∧ f b l (gS (fldD o 1)) (gLs (fldD o 2)) (gI (fldD o 3)) (gI (fldD o 4)) (fldD o 5) (fldD o 6) (fldD o 7) rest
theorem onR_go {W : List AObj} {f : AObj → AObj → Str → List D → Int → Int → D → D → D → List AObj → Prop} {R : Prop} (h : onR W f) (k : ∀ b l st ds rd hi fi rc sc rest, W = b :: l :: rO st ds rd hi fi rc sc :: rest → f b l st ds rd hi fi rc sc rest → R) : R :=
  w3_go h fun _ _ _ _ h => k _ _ _ _ _ _ _ _ _ _ h.1 h.2
noncomputable def onI (C : Addr) (W : List AObj) (f : AObj → AObj → Prop) : Prop := w3 W fun b l o rest => inOn o fun C' fs => orB (Nat.beq C' C) (nil1 fs (nil1 rest (f b l))) False
theorem onI_go {C : Addr} {W : List AObj} {f : AObj → AObj → Prop} {R : Prop} (h : onI C W f) (k : ∀ b l, W = [b, l, .inst C []] → f b l → R) : R := by
  cases W with
  | nil => exact h.elim
  | cons b r => cases r with
    | nil => exact h.elim
    | cons l r => cases r with
      | nil => exact h.elim
      | cons o rest =>
        cases o <;> first | exact h.elim | skip
        exact orB_go (P := nil1 _ (nil1 rest (f b l))) h fun e h => nil1_go h fun e2 h => nil1_go h fun e3 h => k b l (by rw [Nat.eq_of_beq_eq_true e, e2, e3]) h
noncomputable def T109 : CallT := fun Vs W k ex => A4d 2 Vs fun x y _ => iOf x fun en => bOf y fun isf => onR W fun _ _ _ _ _ hi fi _ _ _ => ∃ f, fi = fD f ∧ ((dueOf f hi en isf = none → k (.d .none) W) ∧ ∀ c, dueOf f hi en isf = some c → ex c W)
noncomputable def T116 : CallT := fun Vs W k _ => A2i 2 Vs fun en => onR W fun b l st ds rd hi fi rc sc rest => k (.d (.int (max 0 (en - hi)))) (b :: l :: rO st ds rd (hi + max 0 (en - hi)) fi rc sc :: rest)
noncomputable def T130 : CallT := fun Vs W k _ => A1 2 Vs <| onR W fun _ _ _ ds rd _ fi _ sc _ => ∃ (ps : Pcs) (f : Int) (sp : Bool), (ds = ps.map encP ∧ (fi = .int f ∧ (sc = scD sp ∧ (0 ≤ rd ∧ SepP rd 12 ps)))) ∧ ∀ r : Bool, (r = true ↔ sp = false ∧ ∀ x, rd ≤ x → x < f → InP ps x) → k (.d (.bool r)) W
noncomputable def T123 : CallT := fun Vs W k ex => A4d 2 Vs fun x y z => iOf x fun o => xOf y fun n => bOf z fun isf => onR W fun b l st ds rd hi fi rc sc rest => ∃ (ps : Pcs) (f : Option Int) (sp : Bool) (m : Nat), (ds = ps.map encP ∧ (fi = fD f ∧ (sc = scD sp ∧ (n = (m : Int) ∧ (0 ≤ rd ∧ (0 ≤ o ∧ SepP rd 12 ps)))))) ∧
      ((∀ c, dueOf f hi (o + m) isf = some c → ex c W) ∧ (dueOf f hi (o + m) isf = none →
        orB (isLive st) (∀ (ps' : Pcs) (st' : Str), SepP rd 12 ps' → (∀ x, InP ps' x ↔ InP ps x ∨ (sp = false ∧ rd ≤ x ∧ o ≤ x ∧ x < o + m)) → StNext st sp rd ps' (if isf = true then some (o + m) else f) st' →
          k (.d (.int (max 0 (o + m - hi)))) (b :: l :: rO st' (ps'.map encP) rd (hi + max 0 (o + m - hi)) (fD (if isf = true then some (o + m) else f)) rc sc :: rest))
        (k (.d (.int (max 0 (o + m - hi)))) (b :: l :: rO st ds rd (hi + max 0 (o + m - hi)) (fD (if isf = true then some (o + m) else f)) rc sc :: rest))))
noncomputable def T137 : CallT := fun Vs W k ex => A3d 2 Vs fun x y => iOf x fun co => iOf y fun en => onR W fun b l st ds rd hi fi rc sc rest => ∃ f, fi = fD f ∧ ((∀ c, dueOf f hi en true = some c → ex c W) ∧ (dueOf f hi en true = none →
        orB (isLive st) (k (.d (.int (max 0 (en - hi)))) (b :: l :: rO (S "reset_recvd") [] rd (hi + max 0 (en - hi)) (.int en) (.int co) sc :: rest))
        (k (.d (.int (max 0 (en - hi)))) (b :: l :: rO st ds rd (hi + max 0 (en - hi)) (.int en) rc sc :: rest))))
noncomputable def T144 : CallT := fun Vs W k _ => A2z 2 20 Vs <| onR W fun b l st ds rd hi fi rc sc rest => ∃ (ps : Pcs) (f : Option Int), (ds = ps.map encP ∧ (fi = fD f ∧ (0 ≤ rd ∧ SepP rd 12 ps))) ∧
      ((isRst st = true → k (.d (.tup [.xs 0, .bool true])) (b :: l :: rO (S "reset_read") ds rd hi fi rc sc :: rest)) ∧
       (isRst st = false → ∀ st' : Str, (if st = S "data_recvd" ∧ f = some (rd + (takeAt rd ps).1) then st' = S "data_read" else st' = st) →
         k (.d (.tup [.xs (takeAt rd ps).1, .bool (st' == S "data_read")])) (b :: l :: rO st' ((takeAt rd ps).2.map encP) (rd + (takeAt rd ps).1) hi fi rc sc :: rest)))
noncomputable def T151 : CallT := fun Vs W k _ => A2z 2 3 Vs <| onR W fun b l st ds rd hi fi rc sc rest => ∃ sp : Bool, sc = scD sp ∧ (((isLive st = false ∨ sp = true) → k (.d (.bool false)) W) ∧ ((isLive st = true ∧ sp = false) → k (.d (.bool true)) (b :: l :: rO st [] rd hi fi rc (.int 3) :: rest)))
noncomputable def T165 : CallT := fun Vs W k _ => A1 2 Vs <| onR W fun _ _ st _ rd hi _ _ sc _ => ∃ sp : Bool, sc = scD sp ∧ k (.d (.int (if (sp || isRst st) = true then hi else rd))) W
noncomputable def isEnd (st : Str) : Bool := [S "data_read", S "reset_read"].any (· == st)
noncomputable def T172 : CallT := fun Vs W k _ => A1 2 Vs <| onR W fun _ _ st _ _ _ fi _ sc _ => ∃ (sp : Bool) (f : Option Int), (sc = scD sp ∧ fi = fD f) ∧ k (.d (.bool (isEnd st || (sp && f.isSome)))) W
noncomputable def T102 : CallT := fun Vs W k _ => A2z 2 12 Vs <| onI 175 W fun b l => k (.d .none) [b, l, rO (S "recv") [] 0 0 .none .none .none]
noncomputable abbrev forInv (I : Inv) : InvT := fun l _ => match Nat.ble 100000 l with
  | true => none
  | false => some I
noncomputable abbrev inv81 (W : List AObj) (qs : List (Int × Int)) (lo hi : Int) : InvT := forInv ⟨Int × Int, Unit, qs, encI, fun _ => ⟨W, [], [(S "spans", .d (.lst (qs.map encI))), (S "low", .d (.int lo)), (S "high", .d (.int hi))]⟩, fun i _ => ∀ p ∈ qs.take i, ¬ (p.1 ≤ lo ∧ hi ≤ p.2)⟩
noncomputable abbrev inv48 (W : List AObj) (ps : Pcs) (o : Int) (m : Nat) : InvT := forInv ⟨Int × Nat, Pcs × Int × Nat, ps, encP, fun x => ⟨W, [some (x.1.map encP)], [(S "found", .l 0), (S "begin", .d (.int x.2.1)), (S "joined", .d (.xs x.2.2))]⟩, fun i x => AddInv o m (ps.take i) (ps.drop i) x.1 x.2.1 x.2.2 ∧ (x.1.length ≤ i ∧ (0 ≤ x.2.1 ∧ x.2.1 + x.2.2 ≤ 12))⟩
noncomputable abbrev inv55 (W : List AObj) (ps : Pcs) (at_ : Int) : InvT := forInv ⟨Int × Nat, Nat × Pcs, ps, encP, fun x => ⟨W, [some (x.2.map encP)], [(S "at", .d (.int at_)), (S "found", .d (.xs x.1)), (S "left", .l 0)]⟩, fun i x => x = takeAt at_ (ps.take i)⟩
end
noncomputable section
theorem vc88 (W : List AObj) (m : Int) (k : V → List AObj → Prop) (ex : Int → List AObj → Prop) : (vcF r88 false [] noInv noWInv [.d (.lst []), .d (.int m)] W k ex) = (
k (V.d D.none) W) := by kernel_rfl
theorem vc74 (W : List AObj) (lo hi : Int) (k : V → List AObj → Prop) (ex : Int → List AObj → Prop) : (vcF r74 false [] noInv noWInv [.d (.lst []), .d (.int lo), .d (.int hi)] W k ex) = (
orB (decide (lo < hi)) (k (V.d (D.lst [])) W) (k (V.d (D.lst [])) W)) := by kernel_rfl
theorem vc67a (W : List AObj) (lo hi : Int) (k : V → List AObj → Prop) (ex : Int → List AObj → Prop) : (vcF r67 false [] noInv noWInv [.d (.lst []), .d (.int lo), .d (.int hi)] W k ex) = (
orB (decide (hi ≤ lo)) (k (V.d (D.lst [])) W) ((0 : Int) + (1 : Int) ≤ (4096 : Int) ∧ k (V.d (D.lst [D.tup [D.int lo, D.int hi]])) W)) := by kernel_rfl
theorem vc67b (W : List AObj) (z m lo hi : Int) (k : V → List AObj → Prop) (ex : Int → List AObj → Prop) : (vcF r67 false [] noInv noWInv [.d (.lst [.tup [.int z, .int m]]), .d (.int lo), .d (.int hi)] W k ex) = (orB (decide (hi ≤ lo)) (k (V.d (D.lst [D.tup [D.int z, D.int m]])) W) (orB (decide (m < lo)) ((0 : Int) + (1 : Int) ≤ (4096 : Int) ∧ (1 : Int) + (1 : Int) ≤ (4096 : Int) ∧ k (V.d (D.lst [D.tup [D.int z, D.int m], D.tup [D.int lo, D.int hi]])) W) (orB (decide (hi < z)) ((0 : Int) + (1 : Int) ≤ (4096 : Int) ∧ (1 : Int) + (1 : Int) ≤ (4096 : Int) ∧ k (V.d (D.lst [D.tup [D.int lo, D.int hi], D.tup [D.int z, D.int m]])) W) ((0 : Int) + (1 : Int) ≤ (4096 : Int) ∧ k (V.d (D.lst [D.tup [D.int (min lo z), D.int (max hi m)]])) W)))) := by kernel_rfl
theorem vc116 (b l : AObj) (st : Str) (ds : List D) (rd hi en : Int) (fi rc sc : D) (rest : List AObj) (k : V → List AObj → Prop) (ex : Int → List AObj → Prop) : (vcF r116 false [] noInv noWInv [.g 2, .d (.int en)] (b :: l :: rO st ds rd hi fi rc sc :: rest) k ex) = (
k (V.d (D.int (max 0 (en - hi)))) (b :: l :: rO st ds rd (hi + max 0 (en - hi)) fi rc sc :: rest)) := by kernel_rfl
theorem vc109a (b l : AObj) (st : Str) (ds : List D) (rd hi en : Int) (isf : Bool) (rc sc ft : D) (rest : List AObj) (k : V → List AObj → Prop) (ex : Int → List AObj → Prop) : (vcF r109 false [] noInv noWInv [.g 2, .d (.int en), .d (.bool isf), .d ft] (b :: l :: rO st ds rd hi .none rc sc :: rest) k ex) = (orB isf (orB (decide (en < hi)) (ex 6 (b :: l :: rO st ds rd hi D.none rc sc :: rest)) (orB (decide (12 < en)) (ex 3 (b :: l :: rO st ds rd hi D.none rc sc :: rest)) (k (V.d D.none) (b :: l :: rO st ds rd hi D.none rc sc :: rest)))) (orB (decide (12 < en)) (ex 3 (b :: l :: rO st ds rd hi D.none rc sc :: rest)) (k (V.d D.none) (b :: l :: rO st ds rd hi D.none rc sc :: rest)))) := by kernel_rfl
theorem vc109b (b l : AObj) (st : Str) (ds : List D) (rd hi en f : Int) (isf : Bool) (rc sc ft : D) (rest : List AObj) (k : V → List AObj → Prop) (ex : Int → List AObj → Prop) : (vcF r109 false [] noInv noWInv [.g 2, .d (.int en), .d (.bool isf), .d ft] (b :: l :: rO st ds rd hi (.int f) rc sc :: rest) k ex) = (orB (decide (f < en)) (ex 6 (b :: l :: rO st ds rd hi (D.int f) rc sc :: rest)) (orB isf (orB (!decide (en = f)) (ex 6 (b :: l :: rO st ds rd hi (D.int f) rc sc :: rest)) (orB isf (orB (decide (en < hi)) (ex 6 (b :: l :: rO st ds rd hi (D.int f) rc sc :: rest)) (orB (decide (12 < en)) (ex 3 (b :: l :: rO st ds rd hi (D.int f) rc sc :: rest)) (k (V.d D.none) (b :: l :: rO st ds rd hi (D.int f) rc sc :: rest)))) (orB (decide (12 < en)) (ex 3 (b :: l :: rO st ds rd hi (D.int f) rc sc :: rest)) (k (V.d D.none) (b :: l :: rO st ds rd hi (D.int f) rc sc :: rest))))) (orB isf (orB (decide (en < hi)) (ex 6 (b :: l :: rO st ds rd hi (D.int f) rc sc :: rest)) (orB (decide (12 < en)) (ex 3 (b :: l :: rO st ds rd hi (D.int f) rc sc :: rest)) (k (V.d D.none) (b :: l :: rO st ds rd hi (D.int f) rc sc :: rest)))) (orB (decide (12 < en)) (ex 3 (b :: l :: rO st ds rd hi (D.int f) rc sc :: rest)) (k (V.d D.none) (b :: l :: rO st ds rd hi (D.int f) rc sc :: rest)))))) := by kernel_rfl
theorem vc102 (b l : AObj) (k : V → List AObj → Prop) (ex : Int → List AObj → Prop) : (vcF r102 false [] noInv noWInv [.g 2, .d (.int 12)] [b, l, .inst 175 []] k ex) = (
k (V.d D.none) [b, l, rO (S "recv") [] 0 0 D.none D.none D.none]) := by kernel_rfl
theorem vc151 (b l : AObj) (st : Str) (ds : List D) (rd hi : Int) (fi rc sc : D) (rest : List AObj) (k : V → List AObj → Prop) (ex : Int → List AObj → Prop) : (vcF r151 false [] noInv noWInv [.g 2, .d (.int 3)] (b :: l :: rO st ds rd hi fi rc sc :: rest) k ex) = (
orB (!List.any [S "recv", S "size_known"] fun (x : Str) => x == st) (k (V.d (D.bool false)) (b :: l :: rO st ds rd hi fi rc sc :: rest))
  (orB (!isNoneD sc) (k (V.d (D.bool false)) (b :: l :: rO st ds rd hi fi rc sc :: rest))
    (k (V.d (D.bool true)) (b :: l :: rO st [] rd hi fi rc (D.int 3) :: rest)))) := by kernel_rfl
theorem vc165 (b l : AObj) (st : Str) (ds : List D) (rd hi : Int) (fi rc sc : D) (rest : List AObj) (k : V → List AObj → Prop) (ex : Int → List AObj → Prop) : (vcF r165 false [] noInv noWInv [.g 2] (b :: l :: rO st ds rd hi fi rc sc :: rest) k ex) = (
orB (!isNoneD sc) (k (V.d (D.int hi)) (b :: l :: rO st ds rd hi fi rc sc :: rest))
  (orB (List.any [S "reset_recvd", S "reset_read"] fun (x : Str) => x == st) (k (V.d (D.int hi)) (b :: l :: rO st ds rd hi fi rc sc :: rest))
    (k (V.d (D.int rd)) (b :: l :: rO st ds rd hi fi rc sc :: rest)))) := by kernel_rfl
theorem vc172 (b l : AObj) (st : Str) (ds : List D) (rd hi : Int) (fi rc sc : D) (rest : List AObj) (k : V → List AObj → Prop) (ex : Int → List AObj → Prop) : (vcF r172 false [] noInv noWInv [.g 2] (b :: l :: rO st ds rd hi fi rc sc :: rest) k ex) = (orB (List.any [S "data_read", S "reset_read"] fun (x : Str) => x == st) (k (V.d (D.bool (List.any [S "data_read", S "reset_read"] fun (x : Str) => x == st))) (b :: l :: rO st ds rd hi fi rc sc :: rest)) (orB (!isNoneD sc) (k (V.d (D.bool !isNoneD fi)) (b :: l :: rO st ds rd hi fi rc sc :: rest)) (k (V.d (D.bool !isNoneD sc)) (b :: l :: rO st ds rd hi fi rc sc :: rest)))) := by kernel_rfl
end
noncomputable section
theorem orB_i {b : Bool} {P Q : Prop} (h1 : b = true → P) (h2 : b = false → Q) : orB b P Q := by
  cases b with
  | true => exact h1 rfl
  | false => exact h2 rfl
theorem orD {p : Prop} [Decidable p] {P Q : Prop} (h1 : p → P) (h2 : ¬ p → Q) : orB (decide p) P Q := orB_i (fun e => h1 (of_decide_eq_true e)) fun e => h2 (of_decide_eq_false e)
theorem orN {b : Bool} {P Q : Prop} (h1 : b = false → P) (h2 : b = true → Q) : orB (!b) P Q := by
  cases b with
  | true => exact h2 rfl
  | false => exact h1 rfl
theorem orND {p : Prop} [Decidable p] {P Q : Prop} (h1 : ¬ p → P) (h2 : p → Q) : orB (!decide p) P Q := orN (fun e => h1 (of_decide_eq_false e)) fun e => h2 (of_decide_eq_true e)
theorem len_s {α : Type} {l : List α} {n : Nat} (h : l.length = n + 1) : ∃ a r, l = a :: r ∧ r.length = n := by
  cases l with
  | nil => cases h
  | cons a r => exact ⟨a, r, rfl, Nat.succ.inj h⟩
theorem bindT {r : FRow} {n : Nat} (hl : r.xs.length = n) {P : List Value → Prop} (h : ∀ vals : List Value, vals.length = n → P vals) : ∀ vals : List Value, vals.length = r.xs.length → P vals := fun vals e => h vals (e.trans hl)
theorem len1 {P : List Value → Prop} (h : ∀ a, P [a]) (vals : List Value) (e : vals.length = 1) : P vals := by
  obtain ⟨a, r, rfl, e2⟩ := len_s e
  cases List.eq_nil_of_length_eq_zero e2
  exact h a
theorem len2 {P : List Value → Prop} (h : ∀ a b, P [a, b]) (vals : List Value) (e : vals.length = 2) : P vals := by
  obtain ⟨a, r, rfl, e2⟩ := len_s e
  exact len1 (P := fun r => P (a :: r)) (h a) r e2
theorem len3 {P : List Value → Prop} (h : ∀ a b c, P [a, b, c]) (vals : List Value) (e : vals.length = 3) : P vals := by
  obtain ⟨a, r, rfl, e2⟩ := len_s e
  exact len2 (P := fun r => P (a :: r)) (h a) r e2
theorem bind1 {r : FRow} (hl : r.xs.length = 1) (h : ∀ a, bindArgs r.fd ⟨[a], []⟩ = pure (r.xs.zip [a])) : ∀ vals : List Value, vals.length = r.xs.length → bindArgs r.fd ⟨vals, []⟩ = pure (r.xs.zip vals) := bindT hl (len1 h)
theorem bind2 {r : FRow} (hl : r.xs.length = 2) (h : ∀ a b, bindArgs r.fd ⟨[a, b], []⟩ = pure (r.xs.zip [a, b])) : ∀ vals : List Value, vals.length = r.xs.length → bindArgs r.fd ⟨vals, []⟩ = pure (r.xs.zip vals) := bindT hl (len2 h)
theorem bind3 {r : FRow} (hl : r.xs.length = 3) (h : ∀ a b c, bindArgs r.fd ⟨[a, b, c], []⟩ = pure (r.xs.zip [a, b, c])) : ∀ vals : List Value, vals.length = r.xs.length → bindArgs r.fd ⟨vals, []⟩ = pure (r.xs.zip vals) := bindT hl (len3 h)
theorem bind4 {r : FRow} (hl : r.xs.length = 4) (h : ∀ a b c d, bindArgs r.fd ⟨[a, b, c, d], []⟩ = pure (r.xs.zip [a, b, c, d])) : ∀ vals : List Value, vals.length = r.xs.length → bindArgs r.fd ⟨vals, []⟩ = pure (r.xs.zip vals) := bindT hl fun vals e => by
  obtain ⟨a, q, rfl, e2⟩ := len_s e
  exact len3 (P := fun q => bindArgs r.fd ⟨a :: q, []⟩ = pure (r.xs.zip (a :: q))) (h a) q e2
theorem noCalls {m : Nat} : ∀ p ∈ ([] : CT), FnOk p.1 p.2 m := fun _ h => nomatch h
theorem row_at (i : Nat) {r : FRow} (h : rows[i]? = some r) : r ∈ rows := List.mem_of_getElem? h
theorem f88 : FnOk 88 T88 1 := fn_ok r88 (row_at 7 rfl) 0 40 false [] (by kernel_rfl) (bind2 rfl fun _ _ => by kernel_rfl) noCalls fun Vs W k ex h0 => by
  refine two1_go h0 fun v u e1 z0 => dOf_go z0 fun x e2 z1 => lOf_go z1 fun l e3 z2 => int1_go z2 fun y e4 z3 => nil1_go z3 fun e5 h => ?_
  clear z3 z2 z1 z0 h0
  subst e1 e2 e3 e4 e5
  exact ⟨rfl, noInv, noWInv, (vc88 ..).mpr h⟩
theorem f74 : FnOk 74 T74 1 := fn_ok r74 (row_at 5 rfl) 0 40 false [] (by kernel_rfl) (bind3 rfl fun _ _ _ => by kernel_rfl) noCalls fun Vs W k ex h0 => by
  refine L3_go h0 fun ds lo hi e1 z0 => nil1_go z0 fun e2 h => ?_
  clear z0 h0
  subst e1 e2
  exact ⟨rfl, noInv, noWInv, (vc74 ..).mpr (orB_i (fun _ => h) fun _ => h)⟩
theorem f67 : FnOk 67 T67 1 := fn_ok r67 (row_at 4 rfl) 0 40 false [] (by kernel_rfl) (bind3 rfl fun _ _ _ => by kernel_rfl) noCalls fun Vs W k ex h0 => by
  refine L3_go h0 fun ds lo hi e1 h => ?_
  clear h0
  subst e1
  cases ds with
  | nil =>
    obtain ⟨rfl, h0, h1, h2⟩ := h
    exact ⟨rfl, noInv, noWInv, (vc67a ..).mpr (orD (fun e => h1 (by omega)) fun e => ⟨by decide, h2 (by omega)⟩)⟩
  | cons x r =>
    refine nil1_go h fun e2 h => tOf_go h fun q e3 h => two1_go h fun z m e4 h => iOf_go h fun z e5 h => iOf_go h fun m e6 h => ?_
    subst e2 e3 e4 e5 e6
    obtain ⟨⟨rfl, h0, rfl, h1⟩, h9⟩ := h
    refine ⟨rfl, noInv, noWInv, (vc67b ..).mpr (orD (fun e => ?_) fun e => orD (fun e2 => by omega) fun e2 => orD (fun e3 => by omega) fun e3 => ⟨by decide, ?_⟩)⟩
    · rw [show lo = hi by omega]; exact h9
    · rw [show min lo 0 = 0 by omega, show max hi lo = hi by omega]; exact h9
theorem f116 : FnOk 116 T116 1 := fn_ok r116 (row_at 10 rfl) 0 40 false [] (by kernel_rfl) (bind2 rfl fun _ _ => by kernel_rfl) noCalls fun Vs W k ex h0 => by
  refine A2i_go h0 fun en e1 z0 => onR_go z0 fun b l st ds rd hi fi rc sc rest e9 q => ?_
  clear z0 h0
  subst e1 e9
  · have q := q
    exact ⟨rfl, noInv, noWInv, (vc116 ..).mpr q⟩
theorem f109 : FnOk 109 T109 1 := fn_ok r109 (row_at 9 rfl) 0 40 false [] (by kernel_rfl) (bind4 rfl fun _ _ _ _ => by kernel_rfl) noCalls fun Vs W k ex h0 => by
  refine A4d_go h0 fun x y ft e1 z0 => iOf_go z0 fun en e5 z1 => bOf_go z1 fun isf e6 z2 => onR_go z2 fun b l st ds rd hi fi rc sc rest e9 q => ?_
  clear z2 z1 z0 h0
  subst e1 e5 e6
  · obtain ⟨f, rfl, h1, h2⟩ := q
    subst e9
    refine ⟨rfl, noInv, noWInv, ?_⟩
    cases f with
    | none =>
      refine (vc109a ..).mpr (orB_i (fun e => orD (fun e2 => h2 6 ?_) fun e2 => orD (fun e3 => h2 3 ?_) fun e3 => h1 ?_) fun e => orD (fun e3 => h2 3 ?_) fun e3 => h1 ?_)
      all_goals (unfold dueOf badFin; simp [e, *])
    | some f =>
      refine (vc109b ..).mpr (orD (fun e0 => h2 6 ?_) fun e0 => orB_i (fun e => orND (fun e1 => h2 6 ?_) fun e1 => orB_i (fun _ => orD (fun e2 => h2 6 ?_) fun e2 => orD (fun e3 => h2 3 ?_) fun e3 => h1 ?_) fun e9 => by rw [e] at e9; cases e9) fun e => orB_i (fun e9 => by rw [e] at e9; cases e9) fun _ => orD (fun e3 => h2 3 ?_) fun e3 => h1 ?_)
      all_goals (unfold dueOf badFin; (try subst e1); simp [e0, *] <;> omega)
theorem isNoneD_sc (sp : Bool) : isNoneD (scD sp) = !sp := by cases sp <;> rfl
theorem isNoneD_f (f : Option Int) : isNoneD (fD f) = !f.isSome := by cases f <;> rfl
theorem f151 : FnOk 151 T151 1 := fn_ok r151 (row_at 15 rfl) 0 40 false [] (by kernel_rfl) (bind2 rfl fun _ _ => by kernel_rfl) noCalls fun Vs W k ex h0 => by
  refine A2z_go h0 fun e1 z0 => onR_go z0 fun b l st ds rd hi fi rc sc rest e9 q => ?_
  clear z0 h0
  subst e1
  · obtain ⟨sp, rfl, h1, h2⟩ := q
    subst e9
    refine ⟨rfl, noInv, noWInv, (vc151 ..).mpr (orN (fun e => h1 (.inl e)) fun e => ?_)⟩
    rw [isNoneD_sc, Bool.not_not]
    exact orB_i (fun e2 => h1 (.inr e2)) fun e2 => h2 ⟨e, e2⟩
theorem f165 : FnOk 165 T165 1 := fn_ok r165 (row_at 16 rfl) 0 40 false [] (by kernel_rfl) (bind1 rfl fun _ => by kernel_rfl) noCalls fun Vs W k ex h0 => by
  refine A1_go h0 fun e1 z0 => onR_go z0 fun b l st ds rd hi fi rc sc rest e9 q => ?_
  clear z0 h0
  subst e1
  · obtain ⟨sp, rfl, q⟩ := q
    subst e9
    refine ⟨rfl, noInv, noWInv, (vc165 ..).mpr ?_⟩
    cases sp with
    | true => exact q
    | false =>
      refine (orB_i (fun e2 => ?_) fun e2 => ?_ : orB (isRst st) _ _)
      · rw [e2] at q; exact q
      · rw [e2] at q; exact q
theorem f172 : FnOk 172 T172 1 := fn_ok r172 (row_at 17 rfl) 0 40 false [] (by kernel_rfl) (bind1 rfl fun _ => by kernel_rfl) noCalls fun Vs W k ex h0 => by
  refine A1_go h0 fun e1 z0 => onR_go z0 fun b l st ds rd hi fi rc sc rest e9 q => ?_
  clear z0 h0
  subst e1
  · obtain ⟨sp, f, ⟨rfl, rfl⟩, q⟩ := q
    subst e9
    refine ⟨rfl, noInv, noWInv, (vc172 ..).mpr ?_⟩
    refine (orB_i (fun e => ?_) fun e => ?_ : orB (isEnd st) _ _)
    · show k (.d (.bool (isEnd st))) _
      rw [e] at q ⊢; exact q
    · rw [e] at q
      cases sp with
      | true => rw [isNoneD_f, Bool.not_not]; exact q
      | false => exact q
theorem b102 : BodyOk r102 T102 0 := body_ok r102 (row_at 8 rfl) 0 40 false [] (by kernel_rfl) (bind2 rfl fun _ _ => by kernel_rfl) noCalls fun Vs W k ex h0 => by
  refine A2z_go h0 fun e1 z0 => onI_go z0 fun b l e2 h => ?_
  clear z0 h0
  subst e1 e2
  exact ⟨rfl, noInv, noWInv, (vc102 ..).mpr h⟩
theorem f175 : FnOk 175 (clsT 175 T102) 1 := cls_ok b102 fun P => by kernel_rfl
end
noncomputable section
theorem vc81 (W : List AObj) (qs : List (Int × Int)) (lo hi : Int) (k : V → List AObj → Prop) (ex : Int → List AObj → Prop) : (vcF r81 false [] (inv81 W qs lo hi) noWInv [.d (.lst (qs.map encI)), .d (.int lo), .d (.int hi)] W k ex) = (orB (decide (hi ≤ lo)) (k (V.d (D.bool true)) W) (List.map encI qs = List.map encI qs ∧ (∃ (x : Unit), (∀ (p : Int × Int), p ∈ List.take 0 qs → Prod.fst p ≤ lo ∧ hi ≤ Prod.snd p → False) ∧ W = W ∧ @List.nil (Option (List D)) = [] ∧ some (V.d (D.lst (List.map encI qs))) = some (V.d (D.lst (List.map encI qs))) ∧ some (V.d (D.int lo)) = some (V.d (D.int lo)) ∧ some (V.d (D.int hi)) = some (V.d (D.int hi)) ∧ True) ∧ (∀ (i : Nat) (y : Int × Int) (x : Unit), (qs[i]? = some y ∧ ∀ (p : Int × Int), p ∈ List.take i qs → Prod.fst p ≤ lo ∧ hi ≤ Prod.snd p → False) → orB (decide (Prod.fst y ≤ lo)) (orB (decide (hi ≤ Prod.snd y)) (k (V.d (D.bool true)) W) (∃ (x : Unit), (∀ (p : Int × Int), p ∈ List.take (i + 1) qs → Prod.fst p ≤ lo ∧ hi ≤ Prod.snd p → False) ∧ W = W ∧ @List.nil (Option (List D)) = [] ∧ some (V.d (D.lst (List.map encI qs))) = some (V.d (D.lst (List.map encI qs))) ∧ some (V.d (D.int lo)) = some (V.d (D.int lo)) ∧ some (V.d (D.int hi)) = some (V.d (D.int hi)) ∧ True)) (∃ (x : Unit), (∀ (p : Int × Int), p ∈ List.take (i + 1) qs → Prod.fst p ≤ lo ∧ hi ≤ Prod.snd p → False) ∧ W = W ∧ @List.nil (Option (List D)) = [] ∧ some (V.d (D.lst (List.map encI qs))) = some (V.d (D.lst (List.map encI qs))) ∧ some (V.d (D.int lo)) = some (V.d (D.int lo)) ∧ some (V.d (D.int hi)) = some (V.d (D.int hi)) ∧ True)) ∧ ∀ (x : Unit), (∀ (p : Int × Int), p ∈ List.take (List.length qs) qs → ¬(Prod.fst p ≤ lo ∧ hi ≤ Prod.snd p)) → k (V.d (D.bool false)) W)) := by kernel_rfl
theorem vc48 (W : List AObj) (ps : Pcs) (o : Int) (m : Nat) (k : V → List AObj → Prop) (ex : Int → List AObj → Prop) : (vcF r48 false [] (inv48 W ps o m) noWInv [.d (.lst (ps.map encP)), .d (.int o), .d (.xs m)] W k ex) = (orB (decide (↑m = (0 : Int))) (k (V.d (D.lst (List.map encP ps))) W) (List.map encP ps = List.map encP ps ∧ (∃ (x : Pcs × Int × Nat), (AddInv o m (List.take (0 : Nat) ps) (List.drop (0 : Nat) ps) (Prod.fst x) (Prod.fst (Prod.snd x)) (Prod.snd (Prod.snd x)) ∧ List.length (Prod.fst x) ≤ (0 : Nat) ∧ 0 ≤ Prod.fst (Prod.snd x) ∧ Prod.fst (Prod.snd x) + ↑(Prod.snd (Prod.snd x)) ≤ (12 : Int)) ∧ W = W ∧ [some (List.map encP (Prod.fst x))] = [some []] ∧ some (V.l (0 : Nat)) = some (V.l (0 : Nat)) ∧ some (V.d (D.int o)) = some (V.d (D.int (Prod.fst (Prod.snd x)))) ∧ some (V.d (D.xs ↑m)) = some (V.d (D.xs ↑(Prod.snd (Prod.snd x)))) ∧ True) ∧ (∀ (i : Nat) (y : Int × Nat) (x : Pcs × Int × Nat), ps[i]? = some y ∧ AddInv o m (List.take i ps) (List.drop i ps) (Prod.fst x) (Prod.fst (Prod.snd x)) (Prod.snd (Prod.snd x)) ∧ List.length (Prod.fst x) ≤ i ∧ 0 ≤ Prod.fst (Prod.snd x) ∧ Prod.fst (Prod.snd x) + ↑(Prod.snd (Prod.snd x)) ≤ (12 : Int) → orB (decide (Prod.fst y + ↑(Prod.snd y) < Prod.fst (Prod.snd x))) (↑(List.length (List.map encP (Prod.fst x))) + (1 : Int) ≤ (4096 : Int) ∧ ∃ (x_1 : Pcs × Int × Nat), (AddInv o m (List.take (i + (1 : Nat)) ps) (List.drop (i + (1 : Nat)) ps) (Prod.fst x_1) (Prod.fst (Prod.snd x_1)) (Prod.snd (Prod.snd x_1)) ∧ List.length (Prod.fst x_1) ≤ i + (1 : Nat) ∧ 0 ≤ Prod.fst (Prod.snd x_1) ∧ Prod.fst (Prod.snd x_1) + ↑(Prod.snd (Prod.snd x_1)) ≤ (12 : Int)) ∧ W = W ∧ [some (List.map encP (Prod.fst x_1))] = [some (List.map encP (Prod.fst x) ++ [D.tup [D.int (Prod.fst y), D.xs ↑(Prod.snd y)]])] ∧ some (V.l (0 : Nat)) = some (V.l (0 : Nat)) ∧ some (V.d (D.int (Prod.fst (Prod.snd x)))) = some (V.d (D.int (Prod.fst (Prod.snd x_1)))) ∧ some (V.d (D.xs ↑(Prod.snd (Prod.snd x)))) = some (V.d (D.xs ↑(Prod.snd (Prod.snd x_1)))) ∧ True) (orB (decide (Prod.fst (Prod.snd x) + ↑(Prod.snd (Prod.snd x)) < Prod.fst y)) (↑(List.length (List.map encP (Prod.fst x))) + (1 : Int) ≤ (4096 : Int) ∧ ∃ (x_1 : Pcs × Int × Nat), (AddInv o m (List.take (i + (1 : Nat)) ps) (List.drop (i + (1 : Nat)) ps) (Prod.fst x_1) (Prod.fst (Prod.snd x_1)) (Prod.snd (Prod.snd x_1)) ∧ List.length (Prod.fst x_1) ≤ i + (1 : Nat) ∧ 0 ≤ Prod.fst (Prod.snd x_1) ∧ Prod.fst (Prod.snd x_1) + ↑(Prod.snd (Prod.snd x_1)) ≤ (12 : Int)) ∧ W = W ∧ [some (List.map encP (Prod.fst x_1))] = [some (List.map encP (Prod.fst x) ++ [D.tup [D.int (Prod.fst y), D.xs ↑(Prod.snd y)]])] ∧ some (V.l (0 : Nat)) = some (V.l (0 : Nat)) ∧ some (V.d (D.int (Prod.fst (Prod.snd x)))) = some (V.d (D.int (Prod.fst (Prod.snd x_1)))) ∧ some (V.d (D.xs ↑(Prod.snd (Prod.snd x)))) = some (V.d (D.xs ↑(Prod.snd (Prod.snd x_1)))) ∧ True) (0 ≤ max (0 : Int) (Prod.fst y - Prod.fst (Prod.snd x)) ∧ 0 ≤ max (0 : Int) (Prod.fst y + ↑(Prod.snd y) - Prod.fst
(Prod.snd x)) ∧ min (↑(Prod.snd (Prod.snd x))) (max (0 : Int) (Prod.fst y - Prod.fst (Prod.snd x))) + ↑(Prod.snd y) ≤ (4096 : Int) ∧ min (↑(Prod.snd (Prod.snd x))) (max (0 : Int) (Prod.fst y - Prod.fst (Prod.snd x))) + ↑(Prod.snd y) + max (0 : Int) (↑(Prod.snd (Prod.snd x)) - max (0 : Int) (Prod.fst y + ↑(Prod.snd y) - Prod.fst (Prod.snd x))) ≤ (4096 : Int) ∧ ∃ (x_1 : Pcs × Int × Nat), (AddInv o m (List.take (i + (1 : Nat)) ps) (List.drop (i + (1 : Nat)) ps) (Prod.fst x_1) (Prod.fst (Prod.snd x_1)) (Prod.snd (Prod.snd x_1)) ∧ List.length (Prod.fst x_1) ≤ i + (1 : Nat) ∧ 0 ≤ Prod.fst (Prod.snd x_1) ∧ Prod.fst (Prod.snd x_1) + ↑(Prod.snd (Prod.snd x_1)) ≤ (12 : Int)) ∧ W = W ∧ [some (List.map encP (Prod.fst x_1))] = [some (List.map encP (Prod.fst x))] ∧ some (V.l (0 : Nat)) = some (V.l (0 : Nat)) ∧ some (V.d (D.int (min (Prod.fst (Prod.snd x)) (Prod.fst y)))) = some (V.d (D.int (Prod.fst (Prod.snd x_1)))) ∧ some (V.d (D.xs (min (↑(Prod.snd (Prod.snd x))) (max (0 : Int) (Prod.fst y - Prod.fst (Prod.snd x))) + ↑(Prod.snd y) + max (0 : Int) (↑(Prod.snd (Prod.snd x)) - max (0 : Int) (Prod.fst y + ↑(Prod.snd y) - Prod.fst (Prod.snd x)))))) = some (V.d (D.xs ↑(Prod.snd (Prod.snd x_1)))) ∧ True))) ∧ ∀ (x : Pcs × Int × Nat), AddInv o m (List.take (List.length ps) ps) (List.drop (List.length ps) ps) (Prod.fst x) (Prod.fst (Prod.snd x)) (Prod.snd (Prod.snd x)) ∧ List.length (Prod.fst x) ≤ List.length ps ∧ 0 ≤ Prod.fst (Prod.snd x) ∧ Prod.fst (Prod.snd x) + ↑(Prod.snd (Prod.snd x)) ≤ (12 : Int) → ↑(List.length (List.map encP (Prod.fst x))) + (1 : Int) ≤ (4096 : Int) ∧ ∃ (PA : List (Int × Nat)), ∃ (PB : List (Int × Nat)), ∃ (b : Int), ∃ (n : Nat), List.map encP (Prod.fst x) ++ [D.tup [D.int (Prod.fst (Prod.snd x)), D.xs ↑(Prod.snd (Prod.snd x))]] = List.map encP (PA ++ PB ++ [(b, n)]) ∧ List.Pairwise SepR (PA ++ (b, n) :: PB) ∧ List.length PA + List.length PB < (8 : Nat) ∧ k (V.d (D.lst (List.map encP (PA ++ (b, n) :: PB)))) W)) := by kernel_rfl
theorem vc55 (W : List AObj) (ps : Pcs) (a : Int) (k : V → List AObj → Prop) (ex : Int → List AObj → Prop) : (vcF r55 false [] (inv55 W ps a) noWInv [.d (.lst (ps.map encP)), .d (.int a)] W k ex) = (List.map encP ps = List.map encP ps ∧ (∃ (x : Nat × Pcs), x = ((0 : Nat), []) ∧ W = W ∧ [some (List.map encP (Prod.snd x))] = [some []] ∧ some (V.d (D.int a)) = some (V.d (D.int a)) ∧ some (V.d (D.xs (0 : Int))) = some (V.d (D.xs ↑(Prod.fst x))) ∧ some (V.l (0 : Nat)) = some (V.l (0 : Nat)) ∧ True) ∧ (∀ (i : Nat) (y : Int × Nat) (x : Nat × Pcs), ps[i]? = some y ∧ x = takeAt a (List.take i ps) → orB (decide (Prod.fst y ≤ a)) (orB (decide (a < Prod.fst y + ↑(Prod.snd y))) (0 ≤ a - Prod.fst y ∧ ∃ (x_1 : Nat × Pcs), x_1 = takeAt a (List.take (i + (1 : Nat)) ps) ∧ W = W ∧ [some (List.map encP (Prod.snd x_1))] = [some (List.map encP (Prod.snd x))] ∧ some (V.d (D.int a)) = some (V.d (D.int a)) ∧ some (V.d (D.xs (max (0 : Int) (↑(Prod.snd y) - (a - Prod.fst y))))) = some (V.d (D.xs ↑(Prod.fst x_1))) ∧ some (V.l (0 : Nat)) = some (V.l (0 : Nat)) ∧ True) (orB (decide (a < Prod.fst y)) (↑(List.length (List.map encP (Prod.snd x))) + (1 : Int) ≤ (4096 : Int) ∧ ∃ (x_1 : Nat × Pcs), x_1 = takeAt a (List.take (i + (1 : Nat)) ps) ∧ W = W ∧ [some (List.map encP (Prod.snd x_1))] = [some (List.map encP (Prod.snd x) ++ [D.tup [D.int (Prod.fst y), D.xs ↑(Prod.snd y)]])] ∧ some (V.d (D.int a)) = some (V.d (D.int a)) ∧ some (V.d (D.xs ↑(Prod.fst x))) = some (V.d (D.xs ↑(Prod.fst x_1))) ∧ some (V.l (0 : Nat)) = some (V.l (0 : Nat)) ∧ True) (∃ (x_1 : Nat × Pcs), x_1 = takeAt a (List.take (i + (1 : Nat)) ps) ∧ W = W ∧ [some (List.map encP (Prod.snd x_1))] = [some (List.map encP (Prod.snd x))] ∧ some (V.d (D.int a)) = some (V.d (D.int a)) ∧ some (V.d (D.xs ↑(Prod.fst x))) = some (V.d (D.xs ↑(Prod.fst x_1))) ∧ some (V.l (0 : Nat)) = some (V.l (0 : Nat)) ∧ True))) (orB (decide (a < Prod.fst y)) (↑(List.length (List.map encP (Prod.snd x))) + (1 : Int) ≤ (4096 : Int) ∧ ∃ (x_1 : Nat × Pcs), x_1 = takeAt a (List.take (i + (1 : Nat)) ps) ∧ W = W ∧ [some (List.map encP (Prod.snd x_1))] = [some (List.map encP (Prod.snd x) ++ [D.tup [D.int (Prod.fst y), D.xs ↑(Prod.snd y)]])] ∧ some (V.d (D.int a)) = some (V.d (D.int a)) ∧ some (V.d (D.xs ↑(Prod.fst x))) = some (V.d (D.xs ↑(Prod.fst x_1))) ∧ some (V.l (0 : Nat)) = some (V.l (0 : Nat)) ∧ True) (∃ (x_1 : Nat × Pcs), x_1 = takeAt a (List.take (i + (1 : Nat)) ps) ∧ W = W ∧ [some (List.map encP (Prod.snd x_1))] = [some (List.map encP (Prod.snd x))] ∧ some (V.d (D.int a)) = some (V.d (D.int a)) ∧ some (V.d (D.xs ↑(Prod.fst x))) = some (V.d (D.xs ↑(Prod.fst x_1))) ∧ some (V.l (0 : Nat)) = some (V.l (0 : Nat)) ∧ True))) ∧ ∀ (x : Nat × Pcs), x = takeAt a (List.take (List.length ps) ps) → k (V.d (D.tup [D.xs ↑(Prod.fst x), D.lst (List.map encP (Prod.snd x))])) W) := by kernel_rfl
theorem vc60 (W : List AObj) (ps : Pcs) (k : V → List AObj → Prop) (ex : Int → List AObj → Prop) : (vcF r60 false [] noInv noWInv [.d (.lst (ps.map encP))] W k ex) = (
∃ (ps_1 : List (Int × Nat)),
  List.map encP ps = List.map encP ps_1 ∧
    (∀ (p : Int × Nat), p ∈ ps_1 → (-4096) ≤ Prod.fst p ∧ Prod.fst p ≤ 4096) ∧ k (V.d (D.lst (List.map encS ps_1))) W) := by kernel_rfl
theorem vc130 (b l : AObj) (st : Str) (ds : List D) (rd hi : Int) (rc sc : D) (rest : List AObj) (f : Int) (k : V → List AObj → Prop) (ex : Int → List AObj → Prop) : (vcF r130 false [(60, T60), (81, T81)] noInv noWInv [.g 2] (b :: l :: rO st ds rd hi (.int f) rc sc :: rest) k ex) = (orB (isNoneD sc) (∃ (ps : Pcs), (ds = List.map encP ps ∧ ∀ (p : Int × Nat), p ∈ ps → (-4096) ≤ Prod.fst p ∧ Prod.fst p ≤ 4096) ∧ ∃ (qs : List (Int × Int)), List.map encS ps = List.map encI qs ∧ ∀ (r : Bool), (r = true ↔ f ≤ rd ∨ ∃ (q : Int × Int), q ∈ qs ∧ Prod.fst q ≤ rd ∧ f ≤ Prod.snd q) → k (V.d (D.bool r)) (b :: l :: rO st ds rd hi (D.int f) rc sc :: rest)) (k (V.d (D.bool (isNoneD sc))) (b :: l :: rO st ds rd hi (D.int f) rc sc :: rest))) := by kernel_rfl
theorem vc137 (b l : AObj) (st : Str) (ds : List D) (rd hi en co : Int) (fi rc sc : D) (rest : List AObj) (k : V → List AObj → Prop) (ex : Int → List AObj → Prop) : (vcF r137 false [(109, T109), (116, T116)] noInv noWInv [.g 2, .d (.int co), .d (.int en)] (b :: l :: rO st ds rd hi fi rc sc :: rest) k ex) = (b :: l :: rO st ds rd hi fi rc sc :: rest = b :: l :: rO st ds rd hi fi rc sc :: rest ∧ ∃ (f : Option Int), fi = fD f ∧ (dueOf f hi en true = none → b :: l :: rO st ds rd hi fi rc sc :: rest = b :: l :: rO st ds rd hi fi rc sc :: rest ∧ orB (List.any [S "recv", S "size_known"] fun (x : Str) => x == st) (k (V.d (D.int (max 0 (en - hi)))) (b :: l :: rO (S "reset_recvd") [] rd (hi + max 0 (en - hi)) (D.int en) (D.int co) sc :: rest)) (k (V.d (D.int (max 0 (en - hi)))) (b :: l :: rO st ds rd (hi + max 0 (en - hi)) (D.int en) rc sc :: rest))) ∧ ∀ (c : Int), dueOf f hi en true = some c → ex c (b :: l :: rO st ds rd hi fi rc sc :: rest)) := by kernel_rfl
theorem vc144n (b l : AObj) (st : Str) (ds : List D) (rd hi : Int) (rc sc : D) (rest : List AObj) (k : V → List AObj → Prop) (ex : Int → List AObj → Prop) : (vcF r144 false [(55, T55)] noInv noWInv [.g 2, .d (.int 20)] (b :: l :: rO st ds rd hi .none rc sc :: rest) k ex) = (orB (st == S "reset_recvd") (k (V.d (D.tup [D.xs (0 : Int), D.bool true])) (b :: l :: rO (S "reset_read") ds rd hi D.none rc sc :: rest)) (orB (st == S "reset_read") (k (V.d (D.tup [D.xs (0 : Int), D.bool true])) (b :: l :: rO st ds rd hi D.none rc sc :: rest)) (∃ (ps : Pcs), (ds = List.map encP ps ∧ (0 : Int) ≤ rd ∧ SepP rd (12 : Int) ps) ∧ orB (decide ((20 : Int) < ↑(Prod.fst (takeAt rd ps)))) ((0 : Int) ≤ (20 : Int) ∧ (1 : Int) + ↑(List.length (List.map encP (Prod.snd (takeAt rd ps)))) ≤ (4096 : Int) ∧ (0 : Int) ≤ (20 : Int) ∧ orB (st == S "data_recvd") (k (V.d (D.tup [D.xs (min ↑(Prod.fst (takeAt rd ps)) (20 : Int)), D.bool (st == S "data_read")])) (b :: l :: rO st (D.tup [D.int (rd + (20 : Int)), D.xs (max (0 : Int) (↑(Prod.fst (takeAt rd ps)) - (20 : Int)))] :: List.map encP (Prod.snd (takeAt rd ps))) (rd + min ↑(Prod.fst (takeAt rd ps)) (20 : Int)) hi D.none rc sc :: rest)) (k (V.d (D.tup [D.xs (min ↑(Prod.fst (takeAt rd ps)) (20 : Int)), D.bool (st == S "data_read")])) (b :: l :: rO st (D.tup [D.int (rd + (20 : Int)), D.xs (max (0 : Int) (↑(Prod.fst (takeAt rd ps)) - (20 : Int)))] :: List.map encP (Prod.snd (takeAt rd ps))) (rd + min ↑(Prod.fst (takeAt rd ps)) (20 : Int)) hi D.none rc sc :: rest))) (orB (st == S "data_recvd") (k (V.d (D.tup [D.xs ↑(Prod.fst (takeAt rd ps)), D.bool (st == S "data_read")])) (b :: l :: rO st (List.map encP (Prod.snd (takeAt rd ps))) (rd + ↑(Prod.fst (takeAt rd ps))) hi D.none rc sc :: rest)) (k (V.d (D.tup [D.xs ↑(Prod.fst (takeAt rd ps)), D.bool (st == S "data_read")])) (b :: l :: rO st (List.map encP (Prod.snd (takeAt rd ps))) (rd + ↑(Prod.fst (takeAt rd ps))) hi D.none rc sc :: rest)))))) := by kernel_rfl
theorem vc144s (b l : AObj) (st : Str) (ds : List D) (rd hi f : Int) (rc sc : D) (rest : List AObj) (k : V → List AObj → Prop) (ex : Int → List AObj → Prop) : (vcF r144 false [(55, T55)] noInv noWInv [.g 2, .d (.int 20)] (b :: l :: rO st ds rd hi (.int f) rc sc :: rest) k ex) = (orB (st == S "reset_recvd") (k (V.d (D.tup [D.xs (0 : Int), D.bool true])) (b :: l :: rO (S "reset_read") ds rd hi (D.int f) rc sc :: rest)) (orB (st == S "reset_read") (k (V.d (D.tup [D.xs (0 : Int), D.bool true])) (b :: l :: rO st ds rd hi (D.int f) rc sc :: rest)) (∃ (ps : Pcs), (ds = List.map encP ps ∧ (0 : Int) ≤ rd ∧ SepP rd (12 : Int) ps) ∧ orB (decide ((20 : Int) < ↑(Prod.fst (takeAt rd ps)))) ((0 : Int) ≤ (20 : Int) ∧ (1 : Int) + ↑(List.length (List.map encP (Prod.snd (takeAt rd ps)))) ≤ (4096 : Int) ∧ (0 : Int) ≤ (20 : Int) ∧ orB (st == S "data_recvd") (orB (decide (rd + min ↑(Prod.fst (takeAt rd ps)) (20 : Int) = f)) (k (V.d (D.tup [D.xs (min ↑(Prod.fst (takeAt rd ps)) (20 : Int)), D.bool (S "data_read" == S "data_read")])) (b :: l :: rO (S "data_read") (D.tup [D.int (rd + (20 : Int)), D.xs (max (0 : Int) (↑(Prod.fst (takeAt rd ps)) - (20 : Int)))] :: List.map encP (Prod.snd (takeAt rd ps))) (rd + min ↑(Prod.fst (takeAt rd ps)) (20 : Int)) hi (D.int f) rc sc :: rest)) (k (V.d (D.tup [D.xs (min ↑(Prod.fst (takeAt rd ps)) (20 : Int)), D.bool (st == S "data_read")])) (b :: l :: rO st (D.tup [D.int (rd + (20 : Int)), D.xs (max (0 : Int) (↑(Prod.fst (takeAt rd ps)) - (20 : Int)))] :: List.map encP (Prod.snd (takeAt rd ps))) (rd + min ↑(Prod.fst (takeAt rd ps)) (20 : Int)) hi (D.int f) rc sc :: rest))) (k (V.d (D.tup [D.xs (min ↑(Prod.fst (takeAt rd ps)) (20 : Int)), D.bool (st == S "data_read")])) (b :: l :: rO st (D.tup [D.int (rd + (20 : Int)), D.xs (max (0 : Int) (↑(Prod.fst (takeAt rd ps)) - (20 : Int)))] :: List.map encP (Prod.snd (takeAt rd ps))) (rd + min ↑(Prod.fst (takeAt rd ps)) (20 : Int)) hi (D.int f) rc sc :: rest))) (orB (st == S "data_recvd") (orB (decide (rd + ↑(Prod.fst (takeAt rd ps)) = f)) (k (V.d (D.tup [D.xs ↑(Prod.fst (takeAt rd ps)), D.bool (S "data_read" == S "data_read")])) (b :: l :: rO (S "data_read") (List.map encP (Prod.snd (takeAt rd ps))) (rd + ↑(Prod.fst (takeAt rd ps))) hi (D.int f) rc sc :: rest)) (k (V.d (D.tup [D.xs ↑(Prod.fst (takeAt rd ps)), D.bool (st == S "data_read")])) (b :: l :: rO st (List.map encP (Prod.snd (takeAt rd ps))) (rd + ↑(Prod.fst (takeAt rd ps))) hi (D.int f) rc sc :: rest))) (k (V.d (D.tup [D.xs ↑(Prod.fst (takeAt rd ps)), D.bool (st == S "data_read")])) (b :: l :: rO st (List.map encP (Prod.snd (takeAt rd ps))) (rd + ↑(Prod.fst (takeAt rd ps))) hi (D.int f) rc sc :: rest)))))) := by kernel_rfl
theorem vc123t (b l : AObj) (st : Str) (ds : List D) (rd hi o n : Int) (fi rc sc : D) (rest : List AObj) (k : V → List AObj → Prop) (ex : Int → List AObj → Prop) : (vcF r123 false [(109, T109), (116, T116), (48, T48), (130, T130)] noInv noWInv [.g 2, .d (.int o), .d (.xs n), .d (.bool true)] (b :: l :: rO st ds rd hi fi rc sc :: rest) k ex) = (b :: l :: rO st ds rd hi fi rc sc :: rest = b :: l :: rO st ds rd hi fi rc sc :: rest ∧ ∃ (f : Option Int), fi = fD f ∧ (dueOf f hi (o + n) true = none → b :: l :: rO st ds rd hi fi rc sc :: rest = b :: l :: rO st ds rd hi fi rc sc :: rest ∧ orB (!List.any [S "recv", S "size_known"] fun (x : Str) => x == st) (k (V.d (D.int (max 0 (o + n - hi)))) (b :: l :: rO st ds rd (hi + max 0 (o + n - hi)) (D.int (o + n)) rc sc :: rest)) (orB (isNoneD sc) (orB (decide (rd < o + n)) (0 ≤ max 0 (rd - o) ∧ ∃ (lo : Int), ∃ (ps : Pcs), ∃ (m : Nat), (ds = List.map encP ps ∧ max 0 (n - max 0 (rd - o)) = ↑m ∧ 0 ≤ lo ∧ lo ≤ max o rd ∧ max o rd + ↑m ≤ 12) ∧ SepP lo 12 ps ∧ ∀ (ps' : Pcs), SepP lo 12 ps' → (∀ (x : Int), InP ps' x ↔ InP ps x ∨ max o rd ≤ x ∧ x < max o rd + ↑m) → b :: l :: rO (S "size_known") (List.map encP ps') rd (hi + max 0 (o + n - hi)) (D.int (o + n)) rc sc :: rest = b :: l :: rO (S "size_known") (List.map encP ps') rd (hi + max 0 (o + n - hi)) (D.int (o + n)) rc sc :: rest ∧ ∃ (ps : Pcs), ∃ (f : Int), ∃ (sp : Bool), (List.map encP ps' = List.map encP ps ∧ D.int (o + n) = D.int f ∧ sc = scD sp ∧ 0 ≤ rd ∧ SepP rd 12 ps) ∧ ∀ (r : Bool), (r = true ↔ sp = false ∧ ∀ (x : Int), rd ≤ x → x < f → InP ps x) → orB r (k (V.d (D.int (max 0 (o + n - hi)))) (b :: l :: rO (S "data_recvd") (List.map encP ps') rd (hi + max 0 (o + n - hi)) (D.int (o + n)) rc sc :: rest)) (k (V.d (D.int (max 0 (o + n - hi)))) (b :: l :: rO (S "size_known") (List.map encP ps') rd (hi + max 0 (o + n - hi)) (D.int (o + n)) rc sc :: rest))) (b :: l :: rO (S "size_known") ds rd (hi + max 0 (o + n - hi)) (D.int (o + n)) rc sc :: rest = b :: l :: rO (S "size_known") ds rd (hi + max 0 (o + n - hi)) (D.int (o + n)) rc sc :: rest ∧ ∃ (ps : Pcs), ∃ (f : Int), ∃ (sp : Bool), (ds = List.map encP ps ∧ D.int (o + n) = D.int f ∧ sc = scD sp ∧ 0 ≤ rd ∧ SepP rd 12 ps) ∧ ∀ (r : Bool), (r = true ↔ sp = false ∧ ∀ (x : Int), rd ≤ x → x < f → InP ps x) → orB r (k (V.d (D.int (max 0 (o + n - hi)))) (b :: l :: rO (S "data_recvd") ds rd (hi + max 0 (o + n - hi)) (D.int (o + n)) rc sc :: rest)) (k (V.d (D.int (max 0 (o + n - hi)))) (b :: l :: rO (S "size_known") ds rd (hi + max 0 (o + n - hi)) (D.int (o + n)) rc sc :: rest)))) (b :: l :: rO (S "size_known") ds rd (hi + max 0 (o + n - hi)) (D.int (o + n)) rc sc :: rest = b :: l :: rO (S "size_known") ds rd (hi + max 0 (o + n - hi)) (D.int (o + n)) rc sc :: rest ∧ ∃ (ps : Pcs), ∃ (f : Int), ∃ (sp : Bool),
(ds = List.map encP ps ∧ D.int (o + n) = D.int f ∧ sc = scD sp ∧ 0 ≤ rd ∧ SepP rd 12 ps) ∧ ∀ (r : Bool), (r = true ↔ sp = false ∧ ∀ (x : Int), rd ≤ x → x < f → InP ps x) → orB r (k (V.d (D.int (max 0 (o + n - hi)))) (b :: l :: rO (S "data_recvd") ds rd (hi + max 0 (o + n - hi)) (D.int (o + n)) rc sc :: rest)) (k (V.d (D.int (max 0 (o + n - hi)))) (b :: l :: rO (S "size_known") ds rd (hi + max 0 (o + n - hi)) (D.int (o + n)) rc sc :: rest))))) ∧ ∀ (c : Int), dueOf f hi (o + n) true = some c → ex c (b :: l :: rO st ds rd hi fi rc sc :: rest)) := by kernel_rfl
theorem vc123n (b l : AObj) (st : Str) (ds : List D) (rd hi o n : Int) (rc sc : D) (rest : List AObj) (k : V → List AObj → Prop) (ex : Int → List AObj → Prop) : (vcF r123 false [(109, T109), (116, T116), (48, T48), (130, T130)] noInv noWInv [.g 2, .d (.int o), .d (.xs n), .d (.bool false)] (b :: l :: rO st ds rd hi .none rc sc :: rest) k ex) = (b :: l :: rO st ds rd hi D.none rc sc :: rest = b :: l :: rO st ds rd hi D.none rc sc :: rest ∧ ∃ (f : Option Int), D.none = fD f ∧ (dueOf f hi (o + n) false = none → b :: l :: rO st ds rd hi D.none rc sc :: rest = b :: l :: rO st ds rd hi D.none rc sc :: rest ∧ orB (!List.any [S "recv", S "size_known"] fun (x : Str) => x == st) (k (V.d (D.int (max 0 (o + n - hi)))) (b :: l :: rO st ds rd (hi + max 0 (o + n - hi)) D.none rc sc :: rest)) (orB (isNoneD sc) (orB (decide (rd < o + n)) (0 ≤ max 0 (rd - o) ∧ ∃ (lo : Int), ∃ (ps : Pcs), ∃ (m : Nat), (ds = List.map encP ps ∧ max 0 (n - max 0 (rd - o)) = ↑m ∧ 0 ≤ lo ∧ lo ≤ max o rd ∧ max o rd + ↑m ≤ 12) ∧ SepP lo 12 ps ∧ ∀ (ps' : Pcs), SepP lo 12 ps' → (∀ (x : Int), InP ps' x ↔ InP ps x ∨ max o rd ≤ x ∧ x < max o rd + ↑m) → k (V.d (D.int (max 0 (o + n - hi)))) (b :: l :: rO st (List.map encP ps') rd (hi + max 0 (o + n - hi)) D.none rc sc :: rest)) (k (V.d (D.int (max 0 (o + n - hi)))) (b :: l :: rO st ds rd (hi + max 0 (o + n - hi)) D.none rc sc :: rest))) (k (V.d (D.int (max 0 (o + n - hi)))) (b :: l :: rO st ds rd (hi + max 0 (o + n - hi)) D.none rc sc :: rest)))) ∧ ∀ (c : Int), dueOf f hi (o + n) false = some c → ex c (b :: l :: rO st ds rd hi D.none rc sc :: rest)) := by kernel_rfl
theorem vc123s (b l : AObj) (st : Str) (ds : List D) (rd hi o n f : Int) (rc sc : D) (rest : List AObj) (k : V → List AObj → Prop) (ex : Int → List AObj → Prop) : (vcF r123 false [(109, T109), (116, T116), (48, T48), (130, T130)] noInv noWInv [.g 2, .d (.int o), .d (.xs n), .d (.bool false)] (b :: l :: rO st ds rd hi (.int f) rc sc :: rest) k ex) = (b :: l :: rO st ds rd hi (D.int f) rc sc :: rest = b :: l :: rO st ds rd hi (D.int f) rc sc :: rest ∧ ∃ (f_1 : Option Int), D.int f = fD f_1 ∧ (dueOf f_1 hi (o + n) false = none → b :: l :: rO st ds rd hi (D.int f) rc sc :: rest = b :: l :: rO st ds rd hi (D.int f) rc sc :: rest ∧ orB (!List.any [S "recv", S "size_known"] fun (x : Str) => x == st) (k (V.d (D.int (max 0 (o + n - hi)))) (b :: l :: rO st ds rd (hi + max 0 (o + n - hi)) (D.int f) rc sc :: rest)) (orB (isNoneD sc) (orB (decide (rd < o + n)) (0 ≤ max 0 (rd - o) ∧ ∃ (lo : Int), ∃ (ps : Pcs), ∃ (m : Nat), (ds = List.map encP ps ∧ max 0 (n - max 0 (rd - o)) = ↑m ∧ 0 ≤ lo ∧ lo ≤ max o rd ∧ max o rd + ↑m ≤ 12) ∧ SepP lo 12 ps ∧ ∀ (ps' : Pcs), SepP lo 12 ps' → (∀ (x : Int), InP ps' x ↔ InP ps x ∨ max o rd ≤ x ∧ x < max o rd + ↑m) → b :: l :: rO (S "size_known") (List.map encP ps') rd (hi + max 0 (o + n - hi)) (D.int f) rc sc :: rest = b :: l :: rO (S "size_known") (List.map encP ps') rd (hi + max 0 (o + n - hi)) (D.int f) rc sc :: rest ∧ ∃ (ps : Pcs), ∃ (f_2 : Int), ∃ (sp : Bool), (List.map encP ps' = List.map encP ps ∧ D.int f = D.int f_2 ∧ sc = scD sp ∧ 0 ≤ rd ∧ SepP rd 12 ps) ∧ ∀ (r : Bool), (r = true ↔ sp = false ∧ ∀ (x : Int), rd ≤ x → x < f_2 → InP ps x) → orB r (k (V.d (D.int (max 0 (o + n - hi)))) (b :: l :: rO (S "data_recvd") (List.map encP ps') rd (hi + max 0 (o + n - hi)) (D.int f) rc sc :: rest)) (k (V.d (D.int (max 0 (o + n - hi)))) (b :: l :: rO (S "size_known") (List.map encP ps') rd (hi + max 0 (o + n - hi)) (D.int f) rc sc :: rest))) (b :: l :: rO (S "size_known") ds rd (hi + max 0 (o + n - hi)) (D.int f) rc sc :: rest = b :: l :: rO (S "size_known") ds rd (hi + max 0 (o + n - hi)) (D.int f) rc sc :: rest ∧ ∃ (ps : Pcs), ∃ (f_2 : Int), ∃ (sp : Bool), (ds = List.map encP ps ∧ D.int f = D.int f_2 ∧ sc = scD sp ∧ 0 ≤ rd ∧ SepP rd 12 ps) ∧ ∀ (r : Bool), (r = true ↔ sp = false ∧ ∀ (x : Int), rd ≤ x → x < f_2 → InP ps x) → orB r (k (V.d (D.int (max 0 (o + n - hi)))) (b :: l :: rO (S "data_recvd") ds rd (hi + max 0 (o + n - hi)) (D.int f) rc sc :: rest)) (k (V.d (D.int (max 0 (o + n - hi)))) (b :: l :: rO (S "size_known") ds rd (hi + max 0 (o + n - hi)) (D.int f) rc sc :: rest)))) (b :: l :: rO (S "size_known") ds rd (hi + max 0 (o + n - hi)) (D.int f) rc sc :: rest = b :: l :: rO (S "size_known") ds rd (hi + max 0 (o + n - hi)) (D.int f) rc sc :: rest ∧ ∃ (ps : Pcs), ∃ (f_2 : Int), ∃ (sp : Bool), (ds = List.map
encP ps ∧ D.int f = D.int f_2 ∧ sc = scD sp ∧ 0 ≤ rd ∧ SepP rd 12 ps) ∧ ∀ (r : Bool), (r = true ↔ sp = false ∧ ∀ (x : Int), rd ≤ x → x < f_2 → InP ps x) → orB r (k (V.d (D.int (max 0 (o + n - hi)))) (b :: l :: rO (S "data_recvd") ds rd (hi + max 0 (o + n - hi)) (D.int f) rc sc :: rest)) (k (V.d (D.int (max 0 (o + n - hi)))) (b :: l :: rO (S "size_known") ds rd (hi + max 0 (o + n - hi)) (D.int f) rc sc :: rest))))) ∧ ∀ (c : Int), dueOf f_1 hi (o + n) false = some c → ex c (b :: l :: rO st ds rd hi (D.int f) rc sc :: rest)) := by kernel_rfl
end
noncomputable section
theorem f81 : FnOk 81 T81 1 := fn_ok r81 (row_at 6 rfl) 0 40 false [] (by kernel_rfl) (bind3 rfl fun _ _ _ => by kernel_rfl) noCalls fun Vs W k ex h0 => by
  refine L3_go h0 fun ds lo hi e1 h => ?_
  clear h0
  subst e1
  · obtain ⟨qs, rfl, hk⟩ := h
    have next : ∀ (i : Nat) (y : Int × Int), qs[i]? = some y → (∀ p ∈ qs.take i, ¬ (p.1 ≤ lo ∧ hi ≤ p.2)) → ¬ (y.1 ≤ lo ∧ hi ≤ y.2) → ∀ p ∈ qs.take (i + 1), ¬ (p.1 ≤ lo ∧ hi ≤ p.2) := fun i y hy hJ hn p hp => by
      rw [List.take_add_one, hy] at hp
      rcases List.mem_append.mp hp with hp | hp
      · exact hJ p hp
      · rw [List.mem_singleton.mp (show p ∈ [y] from hp)]; exact hn
    refine ⟨rfl, inv81 W qs lo hi, noWInv, (vc81 ..).mpr (orD (fun e => hk true ⟨fun _ => .inl e, fun _ => rfl⟩) fun e => ⟨rfl, ⟨(), fun p hp => by simp at hp, rfl, rfl, rfl, rfl, rfl, trivial⟩, fun i y x ⟨hy, hJ⟩ => orD (fun e1 => orD (fun e2 => hk true ⟨fun _ => .inr ⟨y, List.mem_of_getElem? hy, e1, e2⟩, fun _ => rfl⟩) fun e2 => ⟨(), next i y hy hJ fun q => e2 q.2, rfl, rfl, rfl, rfl, rfl, trivial⟩) fun e1 => ⟨(), next i y hy hJ fun q => e1 q.1, rfl, rfl, rfl, rfl, rfl, trivial⟩, fun x hJ => hk false ⟨fun q => Bool.noConfusion q, fun q => ?_⟩⟩)⟩
    rw [List.take_length] at hJ
    rcases q with q | ⟨p, hp, q⟩
    · exact absurd q e
    · exact absurd q (hJ p hp)
theorem f60 : FnOk 60 T60 1 := fn_ok r60 (row_at 3 rfl) 0 40 false [] (by kernel_rfl) (bind1 rfl fun _ => by kernel_rfl) noCalls fun Vs W k ex h0 => by
  refine one1_go h0 fun v e1 z0 => dOf_go z0 fun x e2 z1 => lOf_go z1 fun ds e3 h => ?_
  clear z1 z0 h0
  subst e1 e2 e3
  obtain ⟨ps, ⟨rfl, h1⟩, h2⟩ := h
  exact ⟨rfl, noInv, noWInv, (vc60 ..).mpr ⟨ps, rfl, h1, h2⟩⟩
theorem f55 : FnOk 55 T55 1 := fn_ok r55 (row_at 2 rfl) 0 40 false [] (by kernel_rfl) (bind2 rfl fun _ _ => by kernel_rfl) noCalls fun Vs W k ex h0 => by
  refine two1_go h0 fun v u e1 z0 => dOf_go z0 fun x e2 z1 => lOf_go z1 fun ds e3 z2 => int1_go z2 fun a e4 h => ?_
  clear z2 z1 z0 h0
  subst e1 e2 e3 e4
  · obtain ⟨ps, ⟨rfl, h0, hS⟩, hk⟩ := h
    have len : ps.length ≤ 13 := by
      cases ps with
      | nil => simp
      | cons p r => have := hS.count (by simp); lia
    refine ⟨rfl, inv55 W ps a, noWInv, (vc55 ..).mpr ⟨rfl, ⟨(0, []), rfl, rfl, rfl, rfl, rfl, rfl, trivial⟩, fun i y x ⟨hy, hJ⟩ => ?_, fun x hJ => ?_⟩⟩
    · have hal := hS.al y (List.mem_of_getElem? hy)
      have hsn := takeAt_snoc hS rfl hy
      have hil : i < ps.length := (List.getElem?_eq_some_iff.mp hy).1
      have hlen : (x.2.map encP).length ≤ 13 := by
        rw [hJ, List.length_map]
        have : ∀ l : Pcs, (takeAt a l).2.length ≤ l.length := fun l => by
          cases l with
          | nil => simp [takeAt]
          | cons p r => show (if p.1 = a then (p.2, r) else (0, p :: r)).2.length ≤ _; split <;> simp
        have h2 := this (ps.take i)
        have h3 := List.length_take_le i ps
        lia
      refine orD (fun e1 => orD (fun e2 => ⟨by lia, takeAt a (ps.take (i + 1)), rfl, rfl, ?_, rfl, ?_, rfl, trivial⟩) fun e2 => by omega) fun e1 => orD (fun e2 => ⟨by lia, takeAt a (ps.take (i + 1)), rfl, rfl, ?_, rfl, ?_, rfl, trivial⟩) fun e2 => by omega
      · rw [hsn, if_pos (by lia), hJ]
        have : (takeAt a (ps.take i)).2 = [] := by
          cases i with
          | zero => rfl
          | succ i =>
            cases ps with
            | nil => simp at hy
            | cons p r =>
              rw [List.getElem?_cons_succ] at hy
              have h1 : p.1 + p.2 < y.1 := (List.pairwise_cons.mp hS.pw).1 y (List.mem_of_getElem? hy)
              have h2 := hS.al p (.head _)
              lia
        rw [this]
      · rw [hsn, if_pos (by lia)]
        congr 3
        show max 0 _ = ((y.2 : Nat) : Int)
        omega
      · rw [hsn, if_neg (by lia), hJ, List.map_append]; rfl
      · rw [hsn, if_neg (by lia), hJ]
    · rw [List.take_length] at hJ
      rw [hJ]; exact hk
theorem f48 : FnOk 48 T48 1 := fn_ok r48 (row_at 1 rfl) 0 40 false [] (by kernel_rfl) (bind3 rfl fun _ _ _ => by kernel_rfl) noCalls fun Vs W k ex h0 => by
  refine thr1_go h0 fun v u w e1 z0 => dOf_go z0 fun x e2 z1 => lOf_go z1 fun ds e3 z2 => int1_go z2 fun o e4 z3 => dOf_go z3 fun y e5 z4 => xOf_go z4 fun n e6 h => ?_
  clear z4 z3 z2 z1 z0 h0
  subst e1 e2 e3 e4 e5 e6
  · obtain ⟨lo, ps, m, ⟨rfl, rfl, h0, h1, h2⟩, hS, hk⟩ := h
    have len : ps.length ≤ 7 := by
      cases ps with
      | nil => simp
      | cons p r => have := hS.count (by simp); lia
    refine ⟨rfl, inv48 W ps o m, noWInv, (vc48 ..).mpr (orD (fun e => hk ps hS fun x => ⟨.inl, fun q => q.elim id fun q => by lia⟩) fun e => ⟨rfl, ⟨([], o, m), ⟨AddInv.init (by lia), Nat.le_refl _, by dsimp only; lia, by dsimp only; omega⟩, rfl, rfl, rfl, rfl, rfl, trivial⟩, fun i y x ⟨hy, hJ, hl, hb0, hb1⟩ => ?_, fun x ⟨hJ, hl, hb0, hb1⟩ => ?_⟩)⟩
    · have hil : i < ps.length := (List.getElem?_eq_some_iff.mp hy).1
      have hal := hS.al y (List.mem_of_getElem? hy)
      have hd : ps.drop i = y :: ps.drop (i + 1) := by
        rw [List.drop_eq_getElem_cons hil, (List.getElem?_eq_some_iff.mp hy).2]
      have ht : ps.take (i + 1) = ps.take i ++ [y] := by rw [List.take_add_one, hy]; rfl
      rw [hd] at hJ
      have hs : ∀ q ∈ ps.drop (i + 1), SepR y q := by
        have := hS.pw
        rw [← List.take_append_drop i ps, hd] at this
        exact (List.pairwise_cons.mp (List.pairwise_append.mp this).2.1).1
      have keep : y.1 + y.2 < x.2.1 ∨ x.2.1 + x.2.2 < y.1 → AddInv o m (ps.take (i + 1)) (ps.drop (i + 1)) (x.1 ++ [y]) x.2.1 x.2.2 := fun c => by rw [ht]; exact hJ.keep hal.2.1 hs c
      have hz : (x.1.map encP).length + 1 ≤ 4096 := by rw [List.length_map]; omega
      refine orD (fun e1 => ⟨by omega, (x.1 ++ [y], x.2.1, x.2.2), ⟨keep (.inl e1), by simp; omega, hb0, hb1⟩, rfl, by rw [List.map_append]; rfl, rfl, rfl, rfl, trivial⟩) fun e1 => orD (fun e2 => ⟨by omega, (x.1 ++ [y], x.2.1, x.2.2), ⟨keep (.inr e2), by simp; omega, hb0, hb1⟩, rfl, by rw [List.map_append]; rfl, rfl, rfl, rfl, trivial⟩) fun e2 => ?_
      obtain ⟨k', hb2⟩ : ∃ k' : Nat, (k' : Int) = max (x.2.1 + x.2.2) (y.1 + y.2) - min x.2.1 y.1 := ⟨_, Int.toNat_of_nonneg (Int.sub_nonneg_of_le (Int.le_trans (Int.min_le_left _ _) (Int.le_trans (Int.le_add_of_nonneg_right (Int.natCast_nonneg _)) (Int.le_max_left _ _))))⟩
      have m1 : x.2.1 + x.2.2 ≤ 12 := hb1
      have m2 : 0 ≤ x.2.1 := hb0
      have m3 := hal.1
      have m4 := hal.2.2
      have jn := hJ.join (b' := min x.2.1 y.1) (k' := k') hal.2.1 hs (Int.not_lt.mp e1) (Int.not_lt.mp e2) rfl (by rw [hb2]; lia)
      rw [← ht] at jn
      clear keep hJ hs hd ht
      refine ⟨by omega, by lia, by omega, by omega, (x.1, min x.2.1 y.1, k'), ⟨jn, by dsimp only; omega, by dsimp only; omega, by dsimp only; omega⟩, rfl, rfl, rfl, rfl, ?_, trivial⟩
      dsimp only
      rw [hb2]
      congr 3
      omega
    · rw [List.take_length, List.drop_length] at hJ
      obtain ⟨A, B, hF, hSp, hcov⟩ := hJ.done hS h1 h2 (by lia)
      have hl' : x.1.length ≤ ps.length := hl
      have hAB : A.length + B.length = x.1.length := by rw [hF, List.length_append]
      refine ⟨?_, A, B, x.2.1, x.2.2, ?_, hSp.pw, by omega, hk _ hSp hcov⟩
      · rw [List.length_map]; omega
      · rw [hF]; simp
end
noncomputable section
theorem orS {x y : Str} {P Q : Prop} (h1 : x = y → P) (h2 : x ≠ y → Q) : orB (x == y) P Q := orB_i (fun e => h1 (eq_of_beq e)) fun e => h2 fun q => by rw [q] at e; simp at e
theorem isRst_iff {st : Str} : isRst st = true ↔ st = S "reset_recvd" ∨ st = S "reset_read" := by
  unfold isRst
  simp only [List.any_cons, List.any_nil, Bool.or_false, Bool.or_eq_true, beq_iff_eq]
  exact ⟨fun h => h.imp Eq.symm Eq.symm, fun h => h.imp Eq.symm Eq.symm⟩
theorem orB_y {b : Bool} {P Q : Prop} (h : orB b P Q) (e : b = true) : P := by subst e; exact h
theorem orB_n {b : Bool} {P Q : Prop} (h : orB b P Q) (e : b = false) : Q := by subst e; exact h
theorem due_le {fi : Option Int} {hi en : Int} {isf : Bool} (h : dueOf fi hi en isf = none) : en ≤ 12 := by
  unfold dueOf at h
  split at h
  · cases h
  · split at h
    · cases h
    · split at h
      · cases h
      · lia
theorem f130 : FnOk 130 T130 2 := fn_ok r130 (row_at 12 rfl) 1 40 false [(60, T60), (81, T81)] (by kernel_rfl) (bind1 rfl fun _ => by kernel_rfl) (fun p hp => by
    simp only [List.mem_cons, List.not_mem_nil, or_false] at hp
    rcases hp with rfl | rfl
    · exact f60
    · exact f81) fun Vs W k ex h0 => by
  refine A1_go h0 fun e1 z0 => onR_go z0 fun b l st ds rd hi fi rc sc rest e9 q => ?_
  clear z0 h0
  subst e1
  · obtain ⟨ps, f, sp, ⟨rfl, rfl, rfl, h0, hS⟩, hk⟩ := q
    subst e9
    refine ⟨rfl, noInv, noWInv, (vc130 ..).mpr ?_⟩
    cases sp with
    | true => exact hk false ⟨fun q => Bool.noConfusion q, fun q => Bool.noConfusion q.1⟩
    | false =>
      refine ⟨ps, ⟨rfl, fun p hp => by have := hS.al p hp; omega⟩, ps.map fun p => (p.1, p.1 + p.2), by rw [List.map_map]; rfl, fun r hr => hk r (hr.trans ⟨fun q => ⟨rfl, ?_⟩, fun q => ?_⟩)⟩
      · rcases q with q | ⟨p, hp, q1, q2⟩
        · intro x h1 h2; lia
        · obtain ⟨p', hp', rfl⟩ := List.mem_map.mp hp
          intro x h1 h2
          exact ⟨p', hp', by dsimp only at q1 q2; lia, by dsimp only at q1 q2; lia⟩
      · by_cases hlt : rd < f
        · obtain ⟨p, hp, h1, h2⟩ := (hS.one hlt).mpr q.2
          exact .inr ⟨_, List.mem_map.mpr ⟨p, hp, rfl⟩, h1, h2⟩
        · exact .inl (by lia)
theorem f137 : FnOk 137 T137 2 := fn_ok r137 (row_at 13 rfl) 1 40 false [(109, T109), (116, T116)] (by kernel_rfl) (bind3 rfl fun _ _ _ => by kernel_rfl) (fun p hp => by
    simp only [List.mem_cons, List.not_mem_nil, or_false] at hp
    rcases hp with rfl | rfl
    · exact f109
    · exact f116) fun Vs W k ex h0 => by
  refine A3d_go h0 fun x y e1 z0 => iOf_go z0 fun co e5 z1 => iOf_go z1 fun en e6 z2 => onR_go z2 fun b l st ds rd hi fi rc sc rest e9 q => ?_
  clear z2 z1 z0 h0
  subst e1 e5 e6
  · obtain ⟨f, rfl, h1, h2⟩ := q
    subst e9
    exact ⟨rfl, noInv, noWInv, (vc137 ..).mpr ⟨rfl, f, rfl, fun hd => ⟨rfl, orB_i (fun e => orB_y (h2 hd) e) fun e => orB_n (h2 hd) e⟩, h1⟩⟩
theorem f144 : FnOk 144 T144 2 := fn_ok r144 (row_at 14 rfl) 1 40 false [(55, T55)] (by kernel_rfl) (bind2 rfl fun _ _ => by kernel_rfl) (fun p hp => by
    simp only [List.mem_cons, List.not_mem_nil, or_false] at hp
    rcases hp with rfl
    exact f55) fun Vs W k ex h0 => by
  refine A2z_go h0 fun e1 z0 => onR_go z0 fun b l st ds rd hi fi rc sc rest e9 q => ?_
  clear z0 h0
  subst e1
  · obtain ⟨ps, f, ⟨rfl, rfl, h0, hS⟩, h1, h2⟩ := q
    subst e9
    refine ⟨rfl, noInv, noWInv, ?_⟩
    have hle : (takeAt rd ps).1 ≤ 12 := by
      cases ps with
      | nil => exact Nat.zero_le _
      | cons p r =>
        have := hS.al p (.head _)
        show (if p.1 = rd then (p.2, r) else (0, p :: r)).1 ≤ 12
        split
        · dsimp only; lia
        · exact Nat.zero_le _
    cases f with
    | none =>
      refine (vc144n ..).mpr (orS (fun e => h1 (isRst_iff.mpr (.inl e))) fun e1 => orS (fun e => by have := h1 (isRst_iff.mpr (.inr e)); rw [e]; exact this) fun e2 => ⟨ps, ⟨rfl, h0, hS⟩, orD (fun e => by omega) fun _ => ?_⟩)
      have hr : isRst st = false := by
        cases q : isRst st with
        | false => rfl
        | true => exact absurd (isRst_iff.mp q) (not_or.mpr ⟨e1, e2⟩)
      have := h2 hr st (by rw [if_neg (fun q => by cases q.2)])
      exact orB_i (fun _ => this) fun _ => this
    | some f =>
      refine (vc144s ..).mpr (orS (fun e => h1 (isRst_iff.mpr (.inl e))) fun e1 => orS (fun e => by have := h1 (isRst_iff.mpr (.inr e)); rw [e]; exact this) fun e2 => ⟨ps, ⟨rfl, h0, hS⟩, orD (fun e => by omega) fun _ => ?_⟩)
      have hr : isRst st = false := by
        cases q : isRst st with
        | false => rfl
        | true => exact absurd (isRst_iff.mp q) (not_or.mpr ⟨e1, e2⟩)
      refine orS (fun e3 => orD (fun e4 => ?_) fun e4 => ?_) fun e3 => ?_
      · exact h2 hr (S "data_read") (by rw [if_pos ⟨e3, congrArg some e4.symm⟩])
      · exact h2 hr st (by rw [if_neg (fun q => e4 (Option.some.inj q.2).symm)])
      · exact h2 hr st (by rw [if_neg (fun q => e3 q.1)])
theorem f123 : FnOk 123 T123 3 := fn_ok r123 (row_at 11 rfl) 2 40 false [(109, T109), (116, T116), (48, T48), (130, T130)] (by kernel_rfl) (bind4 rfl fun _ _ _ _ => by kernel_rfl) (fun p hp => by
    simp only [List.mem_cons, List.not_mem_nil, or_false] at hp
    rcases hp with rfl | rfl | rfl | rfl
    · exact fun c h1 h2 => f109 c h1 (by lia)
    · exact fun c h1 h2 => f116 c h1 (by lia)
    · exact fun c h1 h2 => f48 c h1 (by lia)
    · exact f130) fun Vs W k ex h0 => by
  refine A4d_go h0 fun x y z e1 z0 => iOf_go z0 fun o e5 z1 => xOf_go z1 fun n e6 z2 => bOf_go z2 fun isf e7 z3 => onR_go z3 fun b l st ds rd hi fi rc sc rest e9 q => ?_
  clear z3 z2 z1 z0 h0
  subst e1 e5 e6 e7
  · obtain ⟨ps, f, sp, m, ⟨rfl, rfl, rfl, rfl, h0, ho, hS⟩, h3, h4⟩ := q
    subst e9
    refine ⟨rfl, noInv, noWInv, ?_⟩
    have same : sp = true ∨ ¬ rd < o + m → ∀ x, InP ps x ↔ InP ps x ∨ (sp = false ∧ rd ≤ x ∧ o ≤ x ∧ x < o + m) := fun q x => ⟨.inl, fun z => z.elim id fun z => by rcases q with q | q; (rw [q] at z; exact Bool.noConfusion z.1); lia⟩
    have grow : ∀ ps' : Pcs, sp = false → rd < o + m → (∀ x, InP ps' x ↔ InP ps x ∨ (max o rd ≤ x ∧ x < max o rd + ((m : Int) - max 0 (rd - o)).toNat)) → ∀ x, InP ps' x ↔ InP ps x ∨ (sp = false ∧ rd ≤ x ∧ o ≤ x ∧ x < o + m) := fun ps' hs hlt hc x => by
      rw [hc]
      exact or_congr Iff.rfl ⟨fun q => ⟨hs, by lia⟩, fun q => by lia⟩
    have args : dueOf f hi (o + m) isf = none → rd < o + m → (0 : Int) ≤ max 0 (rd - o) ∧ (max 0 ((m : Int) - max 0 (rd - o)) = ((((m : Int) - max 0 (rd - o)).toNat : Nat) : Int) ∧ (0 ≤ rd ∧ (rd ≤ max o rd ∧ max o rd + (((m : Int) - max 0 (rd - o)).toNat : Int) ≤ 12))) := fun hd hlt => by
      have := due_le hd
      lia
    cases isf with
    | true =>
      refine (vc123t ..).mpr ⟨rfl, f, rfl, fun hd => ⟨rfl, orN (fun e => orB_n (h4 hd) e) fun e => ?_⟩, h3⟩
      have fin : ∀ ps' : Pcs, SepP rd 12 ps' → (∀ x, InP ps' x ↔ InP ps x ∨ (sp = false ∧ rd ≤ x ∧ o ≤ x ∧ x < o + m)) → _ := fun ps' hS' hc r hr => orB_y (h4 hd) e ps' (if r = true then S "data_recvd" else S "size_known") hS' hc ⟨r, hr, rfl⟩
      cases sp with
      | true => exact ⟨rfl, ps, o + m, true, ⟨rfl, rfl, rfl, h0, hS⟩, fun r hr => orB_i (fun q => by subst q; exact fin ps hS (same (.inl rfl)) true hr) fun q => by subst q; exact fin ps hS (same (.inl rfl)) false hr⟩
      | false =>
        refine orD (fun hlt => ?_) fun hlt => ⟨rfl, ps, o + m, false, ⟨rfl, rfl, rfl, h0, hS⟩, fun r hr => orB_i (fun q => by subst q; exact fin ps hS (same (.inr hlt)) true hr) fun q => by subst q; exact fin ps hS (same (.inr hlt)) false hr⟩
        obtain ⟨g1, g2⟩ := args hd hlt
        exact ⟨g1, rd, ps, _, ⟨rfl, g2⟩, hS, fun ps' hS' hc => ⟨rfl, ps', o + m, false, ⟨rfl, rfl, rfl, h0, hS'⟩, fun r hr => orB_i (fun q => by subst q; exact fin ps' hS' (grow ps' rfl hlt hc) true hr) fun q => by subst q; exact fin ps' hS' (grow ps' rfl hlt hc) false hr⟩⟩
    | false =>
      cases f with
      | none =>
        refine (vc123n ..).mpr ⟨rfl, none, rfl, fun hd => ⟨rfl, orN (fun e => orB_n (h4 hd) e) fun e => ?_⟩, h3⟩
        have fin : ∀ ps' : Pcs, SepP rd 12 ps' → (∀ x, InP ps' x ↔ InP ps x ∨ (sp = false ∧ rd ≤ x ∧ o ≤ x ∧ x < o + m)) → _ := fun ps' hS' hc => orB_y (h4 hd) e ps' st hS' hc rfl
        cases sp with
        | true => exact fin ps hS (same (.inl rfl))
        | false =>
          refine orD (fun hlt => ?_) fun hlt => fin ps hS (same (.inr hlt))
          obtain ⟨g1, g2⟩ := args hd hlt
          exact ⟨g1, rd, ps, _, ⟨rfl, g2⟩, hS, fun ps' hS' hc => fin ps' hS' (grow ps' rfl hlt hc)⟩
      | some f =>
        refine (vc123s ..).mpr ⟨rfl, some f, rfl, fun hd => ⟨rfl, orN (fun e => orB_n (h4 hd) e) fun e => ?_⟩, h3⟩
        have fin : ∀ ps' : Pcs, SepP rd 12 ps' → (∀ x, InP ps' x ↔ InP ps x ∨ (sp = false ∧ rd ≤ x ∧ o ≤ x ∧ x < o + m)) → _ := fun ps' hS' hc r hr => orB_y (h4 hd) e ps' (if r = true then S "data_recvd" else S "size_known") hS' hc ⟨r, hr, rfl⟩
        cases sp with
        | true => exact ⟨rfl, ps, f, true, ⟨rfl, rfl, rfl, h0, hS⟩, fun r hr => orB_i (fun q => by subst q; exact fin ps hS (same (.inl rfl)) true hr) fun q => by subst q; exact fin ps hS (same (.inl rfl)) false hr⟩
        | false =>
          refine orD (fun hlt => ?_) fun hlt => ⟨rfl, ps, f, false, ⟨rfl, rfl, rfl, h0, hS⟩, fun r hr => orB_i (fun q => by subst q; exact fin ps hS (same (.inr hlt)) true hr) fun q => by subst q; exact fin ps hS (same (.inr hlt)) false hr⟩
          obtain ⟨g1, g2⟩ := args hd hlt
          exact ⟨g1, rd, ps, _, ⟨rfl, g2⟩, hS, fun ps' hS' hc => ⟨rfl, ps', f, false, ⟨rfl, rfl, rfl, h0, hS'⟩, fun r hr => orB_i (fun q => by subst q; exact fin ps' hS' (grow ps' rfl hlt hc) true hr) fun q => by subst q; exact fin ps' hS' (grow ps' rfl hlt hc) false hr⟩⟩
end
noncomputable section
noncomputable def NextRel (len sn : Int) (fin ow : Bool) (c : Int) (ie : Bool) (st' : Str) (sn' : Int) (ow' : Bool) : Prop :=
  0 ≤ c ∧ c ≤ 3 ∧ c ≤ len - sn ∧ (c = 3 ∨ c = len - sn) ∧ sn' = sn + c ∧
  ((ie = true ∧ fin = true ∧ sn + c = len ∧ (ow = true ∨ 0 < c) ∧ st' = Str.ofString "data_sent" ∧ ow' = false) ∨ (ie = false ∧ 0 < c ∧ ¬ (fin = true ∧ sn + c = len) ∧ st' = Str.ofString "send" ∧ ow' = ow))
noncomputable def AckRel (len k : Int) (st : Str) (ie ea ow : Bool) (st' : Str) (ea' ow' : Bool) : Prop :=
  (ie = true → ea' = true ∧ ow' = false) ∧ (ie = false → ea' = ea ∧ ow' = ow) ∧
  (((st == Str.ofString "data_sent") = true ∧ ea' = true ∧ len ≤ k ∧ st' = Str.ofString "data_recvd") ∨ (((st == Str.ofString "data_sent") = false ∨ ea' = false ∨ k < len) ∧ st' = st))
noncomputable def AkD (ac : List D) (k : Int) : Prop := (k = 0 ∧ ac = []) ∨ (0 < k ∧ ac = [.tup [.int 0, .int k]])
noncomputable def onS (W : List AObj) (f : AObj → AObj → Str → Int → Int → List D → List D → Bool → Bool → Bool → D → Bool → List AObj → Prop) : Prop := w3 W fun b l o rest =>
  W = b :: l :: sO (gS (fldD o 1)) (gI (fldD o 2)) (gI (fldD o 3)) (gLs (fldD o 4)) (gLs (fldD o 5)) (gB (fldD o 6)) (gB (fldD o 7)) (gB (fldD o 8)) (fldD o 9) (gB (fldD o 10)) :: rest ∧
    f b l (gS (fldD o 1)) (gI (fldD o 2)) (gI (fldD o 3)) (gLs (fldD o 4)) (gLs (fldD o 5)) (gB (fldD o 6)) (gB (fldD o 7)) (gB (fldD o 8)) (fldD o 9) (gB (fldD o 10)) rest
theorem onS_go {W : List AObj} {f : AObj → AObj → Str → Int → Int → List D → List D → Bool → Bool → Bool → D → Bool → List AObj → Prop} {R : Prop} (h : onS W f) (k : ∀ b l st wr sn ac lo fin oe ea rc ow rest, W = b :: l :: sO st wr sn ac lo fin oe ea rc ow :: rest → f b l st wr sn ac lo fin oe ea rc ow rest → R) : R :=
  w3_go h fun _ _ _ _ h => k _ _ _ _ _ _ _ _ _ _ _ _ _ h.1 h.2
noncomputable def T194 : CallT := fun Vs W k _ => A2z 2 100 Vs <| onI 302 W fun b l => k (.d .none) [b, l, sO (S "ready") 0 0 [] [] false false false .none false]
noncomputable def T201 : CallT := fun Vs W k ex => A2d 2 Vs fun x => yOf x fun y => orB (decide (y = 2)) (onS W fun b l st wr sn ac lo fin oe ea rc ow rest => wr ≤ 1000 ∧ (((isOpen st = false ∨ fin = true) → ex 5 W) ∧ ((isOpen st = true ∧ fin = false) → k (.d .none) (b :: l :: sO st (wr + 2) sn ac lo fin oe ea rc ow :: rest)))) False
noncomputable def T208 : CallT := fun Vs W k ex => A1 2 Vs <| onS W fun b l st wr sn ac lo fin oe ea rc ow rest => (isOpen st = false → ex 5 W) ∧ ((isOpen st = true ∧ fin = true) → k (.d .none) W) ∧ ((isOpen st = true ∧ fin = false) → k (.d .none) (b :: l :: sO st wr sn ac lo true true ea rc ow :: rest))
noncomputable def T215 : CallT := fun Vs W k _ => A2z 2 9 Vs <| onS W fun b l st wr sn ac lo fin oe ea rc ow rest => ((isOpen st = false ∧ (st == S "data_sent") = false) → k (.d (.bool false)) W) ∧ ((isOpen st = true ∨ st = S "data_sent") → k (.d (.bool true)) (b :: l :: sO (S "reset_sent") wr sn ac [] fin false ea (.int 9) true :: rest))
noncomputable def T236 : CallT := fun Vs W k _ => A2d 2 Vs fun x => orB (isNoneD x) (onS W fun b l st wr sn ac lo fin oe ea rc ow rest => ∀ r : Int, ((isOpen st = false → r = 0) ∧ (isOpen st = true → r = max 0 (min wr 100 - sn))) → k (.d (.int r)) W) False
noncomputable def T257 : CallT := fun Vs W k _ => A3d 2 Vs fun x y => iOf x fun x => orB (decide (x = 3) && isNoneD y) (onS W fun b l st wr sn ac lo fin oe ea rc ow rest => lo = [] ∧ ((isOpen st = false → (oe = false ∧ (st = S "data_sent" → fin = true)) ∧ k (.d .none) W) ∧
      (isOpen st = true → (oe = fin ∧ (0 ≤ sn ∧ (sn ≤ wr ∧ wr ≤ 100))) ∧ (k (.d .none) W ∧ ∀ (c : Int) (ie : Bool) (st' : Str) (oe' : Bool), NextRel wr sn fin oe c ie st' (sn + c) oe' → k (.d (.tup [.int sn, .by_ c, .bool ie])) (b :: l :: sO st' wr (sn + c) ac [] fin oe' ea rc ow :: rest))))) False
noncomputable def T264 : CallT := fun Vs W k _ => A1 2 Vs <| onS W fun b l st wr sn ac lo fin oe ea rc ow rest => (ow = false → k (.d .none) W) ∧ (ow = true → ∃ c, rc = .int c ∧ k (.d (.tup [.int c, .int sn])) (b :: l :: sO st wr sn ac lo fin oe ea rc false :: rest))
noncomputable def T271 : CallT := fun Vs W k _ => A4d 2 Vs fun x y z => iOf x fun of => iOf y fun z0 => bOf z fun ie => onS W fun b l st wr sn ac lo fin oe ea rc ow rest => (lo = [] ∧ (AkD ac of ∧ 0 ≤ z0)) ∧ ∀ (ac' : List D) (st' : Str) (ea' oe' : Bool), AkD ac' (of + z0) → AckRel wr (of + z0) st ie ea oe st' ea' oe' → k (.d .none) (b :: l :: sO st' wr sn ac' [] fin oe' ea' rc ow :: rest)
noncomputable def T285 : CallT := fun Vs W k _ => A1 2 Vs <| onS W fun b l st wr sn ac lo fin oe ea rc ow rest => (st = S "reset_sent" → k (.d .none) (b :: l :: sO (S "reset_recvd") wr sn ac lo fin oe ea rc ow :: rest)) ∧ (st ≠ S "reset_sent" → k (.d .none) W)
noncomputable def T292 : CallT := fun Vs W k _ => A1 2 Vs <| onS W fun b l st wr sn ac lo fin oe ea rc ow rest => (st = S "reset_sent" → k (.d .none) (b :: l :: sO st wr sn ac lo fin oe ea rc true :: rest)) ∧ (st ≠ S "reset_sent" → k (.d .none) W)
noncomputable def isDone (st : Str) : Bool := [S "data_recvd", S "reset_recvd"].any (· == st)
noncomputable def T299 : CallT := fun Vs W k _ => A1 2 Vs <| onS W fun b l st wr sn ac lo fin oe ea rc ow rest => k (.d (.bool (isDone st))) W
end
noncomputable section
theorem vc194 (b l : AObj) (k : V → List AObj → Prop) (ex : Int → List AObj → Prop) : (vcF r194 true [] noInv noWInv [.g 2, .d (.int 100)] [b, l, .inst 302 []] k ex) = (
k (V.d D.none) [b, l, sO (S "ready") 0 0 [] [] false false false D.none false]) := by kernel_rfl
theorem vc201 (b l : AObj) (st : Str) (wr sn : Int) (ac lo : List D) (fin oe ea ow : Bool) (rc : D) (rest : List AObj) (k : V → List AObj → Prop) (ex : Int → List AObj → Prop) : (vcF r201 false [] noInv noWInv [.g 2, .d (.by_ 2)] (b :: l :: sO st wr sn ac lo fin oe ea rc ow :: rest) k ex) = (orB (!List.any [S "ready", S "send"] fun (x : Str) => x == st) (ex 5 (b :: l :: sO st wr sn ac lo fin oe ea rc ow :: rest)) (orB fin (ex 5 (b :: l :: sO st wr sn ac lo fin oe ea rc ow :: rest)) (wr + 2 ≤ 4096 ∧ k (V.d D.none) (b :: l :: sO st (wr + 2) sn ac lo fin oe ea rc ow :: rest)))) := by kernel_rfl
theorem vc208 (b l : AObj) (st : Str) (wr sn : Int) (ac lo : List D) (fin oe ea ow : Bool) (rc : D) (rest : List AObj) (k : V → List AObj → Prop) (ex : Int → List AObj → Prop) : (vcF r208 false [] noInv noWInv [.g 2] (b :: l :: sO st wr sn ac lo fin oe ea rc ow :: rest) k ex) = (orB (!List.any [S "ready", S "send"] fun (x : Str) => x == st) (ex 5 (b :: l :: sO st wr sn ac lo fin oe ea rc ow :: rest)) (orB (!fin) (k (V.d D.none) (b :: l :: sO st wr sn ac lo true true ea rc ow :: rest)) (k (V.d D.none) (b :: l :: sO st wr sn ac lo fin oe ea rc ow :: rest)))) := by kernel_rfl
theorem vc215 (b l : AObj) (st : Str) (wr sn : Int) (ac lo : List D) (fin oe ea ow : Bool) (rc : D) (rest : List AObj) (k : V → List AObj → Prop) (ex : Int → List AObj → Prop) : (vcF r215 false [] noInv noWInv [.g 2, .d (.int 9)] (b :: l :: sO st wr sn ac lo fin oe ea rc ow :: rest) k ex) = (orB (!List.any [S "ready", S "send"] fun (x : Str) => x == st) (orB (!st == S "data_sent") (k (V.d (D.bool false)) (b :: l :: sO st wr sn ac lo fin oe ea rc ow :: rest)) (k (V.d (D.bool true)) (b :: l :: sO (S "reset_sent") wr sn ac [] fin false ea (D.int 9) true :: rest))) (k (V.d (D.bool true)) (b :: l :: sO (S "reset_sent") wr sn ac [] fin false ea (D.int 9) true :: rest))) := by kernel_rfl
theorem vc222 (b l : AObj) (st : Str) (wr sn : Int) (ac lo : List D) (fin oe ea ow : Bool) (rc : D) (rest : List AObj) (k : V → List AObj → Prop) (ex : Int → List AObj → Prop) : (vcF r222 false [(215, T215)] noInv noWInv [.g 2, .d (.int 9)] (b :: l :: sO st wr sn ac lo fin oe ea rc ow :: rest) k ex) = (b :: l :: sO st wr sn ac lo fin oe ea rc ow :: rest = b :: l :: sO st wr sn ac lo fin oe ea rc ow :: rest ∧ (isOpen st = false ∧ (st == S "data_sent") = false → k (V.d (D.bool false)) (b :: l :: sO st wr sn ac lo fin oe ea rc ow :: rest)) ∧ (isOpen st = true ∨ st = S "data_sent" → k (V.d (D.bool true)) (b :: l :: sO (S "reset_sent") wr sn ac [] fin false ea (D.int 9) true :: rest))) := by kernel_rfl
theorem vc236 (b l : AObj) (st : Str) (wr sn : Int) (ac lo : List D) (fin oe ea ow : Bool) (rc : D) (rest : List AObj) (k : V → List AObj → Prop) (ex : Int → List AObj → Prop) : (vcF r236 false [] noInv noWInv [.g 2, .d .none] (b :: l :: sO st wr sn ac lo fin oe ea rc ow :: rest) k ex) = (
orB (!List.any [Str.ofString "ready", Str.ofString "send"] fun (x : Str) => x == st)
  (k (V.d (D.int 0)) (b :: l :: sO st wr sn ac lo fin oe ea rc ow :: rest))
  (k (V.d (D.int (max 0 (min wr 100 - sn)))) (b :: l :: sO st wr sn ac lo fin oe ea rc ow :: rest))) := by kernel_rfl
theorem vc257a (b l : AObj) (st : Str) (wr sn : Int) (ac : List D) (ea ow : Bool) (rc : D) (rest : List AObj) (k : V → List AObj → Prop) (ex : Int → List AObj → Prop) : (vcF r257 false [(88, T88), (236, T236), (74, T74)] noInv noWInv [.g 2, .d (.int 3), .d .none] (b :: l :: sO st wr sn ac [] true true ea rc ow :: rest) k ex) = (orB (!List.any [S "ready", S "send"] fun (x : Str) => x == st) (orB (!st == S "data_sent") (k (V.d D.none) (b :: l :: sO st wr sn ac [] true true ea rc ow :: rest)) (b :: l :: sO st wr sn ac [] true true ea rc ow :: rest = b :: l :: sO st wr sn ac [] true true ea rc ow :: rest ∧ ∀ (r : Int), (isOpen st = false → r = 0) ∧ (isOpen st = true → r = max 0 (min wr 100 - sn)) → orB (decide (sn + max 0 (min 3 r) = wr)) (orB (decide (sn = sn + max 0 (min 3 r))) ((0 ≤ sn ∧ sn ≤ sn + max 0 (min 3 r) ∧ sn + max 0 (min 3 r) ≤ wr) ∧ k (V.d (D.tup [D.int sn, D.by_ (sn + max 0 (min 3 r) - sn), D.bool true])) (b :: l :: sO (S "data_sent") wr (max sn (sn + max 0 (min 3 r))) ac [] true false ea rc ow :: rest)) ((0 ≤ sn ∧ sn ≤ sn + max 0 (min 3 r) ∧ sn + max 0 (min 3 r) ≤ wr) ∧ k (V.d (D.tup [D.int sn, D.by_ (sn + max 0 (min 3 r) - sn), D.bool true])) (b :: l :: sO (S "data_sent") wr (max sn (sn + max 0 (min 3 r))) ac [] true false ea rc ow :: rest))) (orB (decide (sn + max 0 (min 3 r) = wr)) (orB (decide (sn = sn + max 0 (min 3 r))) ((0 ≤ sn ∧ sn ≤ sn + max 0 (min 3 r) ∧ sn + max 0 (min 3 r) ≤ wr) ∧ k (V.d (D.tup [D.int sn, D.by_ (sn + max 0 (min 3 r) - sn), D.bool true])) (b :: l :: sO (S "data_sent") wr (max sn (sn + max 0 (min 3 r))) ac [] true false ea rc ow :: rest)) ((0 ≤ sn ∧ sn ≤ sn + max 0 (min 3 r) ∧ sn + max 0 (min 3 r) ≤ wr) ∧ k (V.d (D.tup [D.int sn, D.by_ (sn + max 0 (min 3 r) - sn), D.bool true])) (b :: l :: sO (S "data_sent") wr (max sn (sn + max 0 (min 3 r))) ac [] true false ea rc ow :: rest))) (orB (decide (sn = sn + max 0 (min 3 r))) (k (V.d D.none) (b :: l :: sO st wr sn ac [] true true ea rc ow :: rest)) (orB (st == S "data_sent") ((0 ≤ sn ∧ sn ≤ sn + max 0 (min 3 r) ∧ sn + max 0 (min 3 r) ≤ wr) ∧ k (V.d (D.tup [D.int sn, D.by_ (sn + max 0 (min 3 r) - sn), D.bool false])) (b :: l :: sO (S "data_sent") wr (max sn (sn + max 0 (min 3 r))) ac [] true true ea rc ow :: rest)) ((0 ≤ sn ∧ sn ≤ sn + max 0 (min 3 r) ∧ sn + max 0 (min 3 r) ≤ wr) ∧ k (V.d (D.tup [D.int sn, D.by_ (sn + max 0 (min 3 r) - sn), D.bool false])) (b :: l :: sO (S "send") wr (max sn (sn + max 0 (min 3 r))) ac [] true true ea rc ow
:: rest))))))) (b :: l :: sO st wr sn ac [] true true ea rc ow :: rest = b :: l :: sO st wr sn ac [] true true ea rc ow :: rest ∧ ∀ (r : Int), (isOpen st = false → r = 0) ∧ (isOpen st = true → r = max 0 (min wr 100 - sn)) → orB (decide (sn + max 0 (min 3 r) = wr)) (orB (decide (sn = sn + max 0 (min 3 r))) ((0 ≤ sn ∧ sn ≤ sn + max 0 (min 3 r) ∧ sn + max 0 (min 3 r) ≤ wr) ∧ k (V.d (D.tup [D.int sn, D.by_ (sn + max 0 (min 3 r) - sn), D.bool true])) (b :: l :: sO (S "data_sent") wr (max sn (sn + max 0 (min 3 r))) ac [] true false ea rc ow :: rest)) ((0 ≤ sn ∧ sn ≤ sn + max 0 (min 3 r) ∧ sn + max 0 (min 3 r) ≤ wr) ∧ k (V.d (D.tup [D.int sn, D.by_ (sn + max 0 (min 3 r) - sn), D.bool true])) (b :: l :: sO (S "data_sent") wr (max sn (sn + max 0 (min 3 r))) ac [] true false ea rc ow :: rest))) (orB (decide (sn + max 0 (min 3 r) = wr)) (orB (decide (sn = sn + max 0 (min 3 r))) ((0 ≤ sn ∧ sn ≤ sn + max 0 (min 3 r) ∧ sn + max 0 (min 3 r) ≤ wr) ∧ k (V.d (D.tup [D.int sn, D.by_ (sn + max 0 (min 3 r) - sn), D.bool true])) (b :: l :: sO (S "data_sent") wr (max sn (sn + max 0 (min 3 r))) ac [] true false ea rc ow :: rest)) ((0 ≤ sn ∧ sn ≤ sn + max 0 (min 3 r) ∧ sn + max 0 (min 3 r) ≤ wr) ∧ k (V.d (D.tup [D.int sn, D.by_ (sn + max 0 (min 3 r) - sn), D.bool true])) (b :: l :: sO (S "data_sent") wr (max sn (sn + max 0 (min 3 r))) ac [] true false ea rc ow :: rest))) (orB (decide (sn = sn + max 0 (min 3 r))) (k (V.d D.none) (b :: l :: sO st wr sn ac [] true true ea rc ow :: rest)) (orB (st == S "data_sent") ((0 ≤ sn ∧ sn ≤ sn + max 0 (min 3 r) ∧ sn + max 0 (min 3 r) ≤ wr) ∧ k (V.d (D.tup [D.int sn, D.by_ (sn + max 0 (min 3 r) - sn), D.bool false])) (b :: l :: sO (S "data_sent") wr (max sn (sn + max 0 (min 3 r))) ac [] true true ea rc ow :: rest)) ((0 ≤ sn ∧ sn ≤ sn + max 0 (min 3 r) ∧ sn + max 0 (min 3 r) ≤ wr) ∧ k (V.d (D.tup [D.int sn, D.by_ (sn + max 0 (min 3 r) - sn), D.bool false])) (b :: l :: sO (S "send") wr (max sn (sn + max 0 (min 3 r))) ac [] true true ea rc ow :: rest))))))) := by kernel_rfl
theorem vc257b (b l : AObj) (st : Str) (wr sn : Int) (ac : List D) (ea ow : Bool) (rc : D) (rest : List AObj) (k : V → List AObj → Prop) (ex : Int → List AObj → Prop) : (vcF r257 false [(88, T88), (236, T236), (74, T74)] noInv noWInv [.g 2, .d (.int 3), .d .none] (b :: l :: sO st wr sn ac [] false false ea rc ow :: rest) k ex) = (orB (!List.any [S "ready", S "send"] fun (x : Str) => x == st) (orB (!st == S "data_sent") (k (V.d D.none) (b :: l :: sO st wr sn ac [] false false ea rc ow :: rest)) (b :: l :: sO st wr sn ac [] false false ea rc ow :: rest = b :: l :: sO st wr sn ac [] false false ea rc ow :: rest ∧ ∀ (r : Int), (isOpen st = false → r = 0) ∧ (isOpen st = true → r = max 0 (min wr 100 - sn)) → orB (decide (sn = sn + max 0 (min 3 r))) (k (V.d D.none) (b :: l :: sO st wr sn ac [] false false ea rc ow :: rest)) (orB (st == S "data_sent") ((0 ≤ sn ∧ sn ≤ sn + max 0 (min 3 r) ∧ sn + max 0 (min 3 r) ≤ wr) ∧ k (V.d (D.tup [D.int sn, D.by_ (sn + max 0 (min 3 r) - sn), D.bool false])) (b :: l :: sO (S "data_sent") wr (max sn (sn + max 0 (min 3 r))) ac [] false false ea rc ow :: rest)) ((0 ≤ sn ∧ sn ≤ sn + max 0 (min 3 r) ∧ sn + max 0 (min 3 r) ≤ wr) ∧ k (V.d (D.tup [D.int sn, D.by_ (sn + max 0 (min 3 r) - sn), D.bool false])) (b :: l :: sO (S "send") wr (max sn (sn + max 0 (min 3 r))) ac [] false false ea rc ow :: rest))))) (b :: l :: sO st wr sn ac [] false false ea rc ow :: rest = b :: l :: sO st wr sn ac [] false false ea rc ow :: rest ∧ ∀ (r : Int), (isOpen st = false → r = 0) ∧ (isOpen st = true → r = max 0 (min wr 100 - sn)) → orB (decide (sn = sn + max 0 (min 3 r))) (k (V.d D.none) (b :: l :: sO st wr sn ac [] false false ea rc ow :: rest)) (orB (st == S "data_sent") ((0 ≤ sn ∧ sn ≤ sn + max 0 (min 3 r) ∧ sn + max 0 (min 3 r) ≤ wr) ∧ k (V.d (D.tup [D.int sn, D.by_ (sn + max 0 (min 3 r) - sn), D.bool false])) (b :: l :: sO (S "data_sent") wr (max sn (sn + max 0 (min 3 r))) ac [] false false ea rc ow :: rest)) ((0 ≤ sn ∧ sn ≤ sn + max 0 (min 3 r) ∧ sn + max 0 (min 3 r) ≤ wr) ∧ k (V.d (D.tup [D.int sn, D.by_ (sn + max 0 (min 3 r) - sn), D.bool false])) (b :: l :: sO (S "send") wr (max sn (sn + max 0 (min 3 r))) ac [] false false ea rc ow :: rest))))) := by kernel_rfl
theorem vc257c (b l : AObj) (st : Str) (wr sn : Int) (ac : List D) (ea ow : Bool) (rc : D) (rest : List AObj) (k : V → List AObj → Prop) (ex : Int → List AObj → Prop) : (vcF r257 false [(88, T88), (236, T236), (74, T74)] noInv noWInv [.g 2, .d (.int 3), .d .none] (b :: l :: sO st wr sn ac [] true false ea rc ow :: rest) k ex) = (orB (!List.any [S "ready", S "send"] fun (x : Str) => x == st) (orB (!st == S "data_sent") (k (V.d D.none) (b :: l :: sO st wr sn ac [] true false ea rc ow :: rest)) (b :: l :: sO st wr sn ac [] true false ea rc ow :: rest = b :: l :: sO st wr sn ac [] true false ea rc ow :: rest ∧ ∀ (r : Int), (isOpen st = false → r = 0) ∧ (isOpen st = true → r = max 0 (min wr 100 - sn)) → orB (decide (sn + max 0 (min 3 r) = wr)) (orB (decide (sn < sn + max 0 (min 3 r))) (orB (decide (sn = sn + max 0 (min 3 r))) ((0 ≤ sn ∧ sn ≤ sn + max 0 (min 3 r) ∧ sn + max 0 (min 3 r) ≤ wr) ∧ k (V.d (D.tup [D.int sn, D.by_ (sn + max 0 (min 3 r) - sn), D.bool true])) (b :: l :: sO (S "data_sent") wr (max sn (sn + max 0 (min 3 r))) ac [] true false ea rc ow :: rest)) ((0 ≤ sn ∧ sn ≤ sn + max 0 (min 3 r) ∧ sn + max 0 (min 3 r) ≤ wr) ∧ k (V.d (D.tup [D.int sn, D.by_ (sn + max 0 (min 3 r) - sn), D.bool true])) (b :: l :: sO (S "data_sent") wr (max sn (sn + max 0 (min 3 r))) ac [] true false ea rc ow :: rest))) (orB (decide (sn = sn + max 0 (min 3 r))) (k (V.d D.none) (b :: l :: sO st wr sn ac [] true false ea rc ow :: rest)) (orB (st == S "data_sent") ((0 ≤ sn ∧ sn ≤ sn + max 0 (min 3 r) ∧ sn + max 0 (min 3 r) ≤ wr) ∧ k (V.d (D.tup [D.int sn, D.by_ (sn + max 0 (min 3 r) - sn), D.bool false])) (b :: l :: sO (S "data_sent") wr (max sn (sn + max 0 (min 3 r))) ac [] true false ea rc ow :: rest)) ((0 ≤ sn ∧ sn ≤ sn + max 0 (min 3 r) ∧ sn + max 0 (min 3 r) ≤ wr) ∧ k (V.d (D.tup [D.int sn, D.by_ (sn + max 0 (min 3 r) - sn), D.bool false])) (b :: l :: sO (S "send") wr (max sn (sn + max 0 (min 3 r))) ac [] true false ea rc ow :: rest))))) (orB (decide (sn + max 0 (min 3 r) = wr)) (orB (decide (sn = sn + max 0 (min 3 r))) ((0 ≤ sn ∧ sn ≤ sn + max 0 (min 3 r) ∧ sn + max 0 (min 3 r) ≤ wr) ∧ k (V.d (D.tup [D.int sn, D.by_ (sn + max 0 (min 3 r) - sn), D.bool true])) (b :: l :: sO (S "data_sent") wr (max sn (sn + max 0 (min 3 r))) ac [] true false ea rc ow :: rest)) ((0 ≤ sn ∧ sn ≤ sn + max 0 (min 3 r) ∧ sn + max 0 (min 3 r) ≤ wr) ∧ k (V.d (D.tup [D.int sn, D.by_ (sn + max 0 (min 3 r) - sn), D.bool true])) (b :: l :: sO (S "data_sent") wr (max
sn (sn + max 0 (min 3 r))) ac [] true false ea rc ow :: rest))) (orB (decide (sn = sn + max 0 (min 3 r))) (k (V.d D.none) (b :: l :: sO st wr sn ac [] true false ea rc ow :: rest)) (orB (st == S "data_sent") ((0 ≤ sn ∧ sn ≤ sn + max 0 (min 3 r) ∧ sn + max 0 (min 3 r) ≤ wr) ∧ k (V.d (D.tup [D.int sn, D.by_ (sn + max 0 (min 3 r) - sn), D.bool false])) (b :: l :: sO (S "data_sent") wr (max sn (sn + max 0 (min 3 r))) ac [] true false ea rc ow :: rest)) ((0 ≤ sn ∧ sn ≤ sn + max 0 (min 3 r) ∧ sn + max 0 (min 3 r) ≤ wr) ∧ k (V.d (D.tup [D.int sn, D.by_ (sn + max 0 (min 3 r) - sn), D.bool false])) (b :: l :: sO (S "send") wr (max sn (sn + max 0 (min 3 r))) ac [] true false ea rc ow :: rest))))))) (b :: l :: sO st wr sn ac [] true false ea rc ow :: rest = b :: l :: sO st wr sn ac [] true false ea rc ow :: rest ∧ ∀ (r : Int), (isOpen st = false → r = 0) ∧ (isOpen st = true → r = max 0 (min wr 100 - sn)) → orB (decide (sn + max 0 (min 3 r) = wr)) (orB (decide (sn < sn + max 0 (min 3 r))) (orB (decide (sn = sn + max 0 (min 3 r))) ((0 ≤ sn ∧ sn ≤ sn + max 0 (min 3 r) ∧ sn + max 0 (min 3 r) ≤ wr) ∧ k (V.d (D.tup [D.int sn, D.by_ (sn + max 0 (min 3 r) - sn), D.bool true])) (b :: l :: sO (S "data_sent") wr (max sn (sn + max 0 (min 3 r))) ac [] true false ea rc ow :: rest)) ((0 ≤ sn ∧ sn ≤ sn + max 0 (min 3 r) ∧ sn + max 0 (min 3 r) ≤ wr) ∧ k (V.d (D.tup [D.int sn, D.by_ (sn + max 0 (min 3 r) - sn), D.bool true])) (b :: l :: sO (S "data_sent") wr (max sn (sn + max 0 (min 3 r))) ac [] true false ea rc ow :: rest))) (orB (decide (sn = sn + max 0 (min 3 r))) (k (V.d D.none) (b :: l :: sO st wr sn ac [] true false ea rc ow :: rest)) (orB (st == S "data_sent") ((0 ≤ sn ∧ sn ≤ sn + max 0 (min 3 r) ∧ sn + max 0 (min 3 r) ≤ wr) ∧ k (V.d (D.tup [D.int sn, D.by_ (sn + max 0 (min 3 r) - sn), D.bool false])) (b :: l :: sO (S "data_sent") wr (max sn (sn + max 0 (min 3 r))) ac [] true false ea rc ow :: rest)) ((0 ≤ sn ∧ sn ≤ sn + max 0 (min 3 r) ∧ sn + max 0 (min 3 r) ≤ wr) ∧ k (V.d (D.tup [D.int sn, D.by_ (sn + max 0 (min 3 r) - sn), D.bool false])) (b :: l :: sO (S "send") wr (max sn (sn + max 0 (min 3 r))) ac [] true false ea rc ow :: rest))))) (orB (decide (sn + max 0 (min 3 r) = wr)) (orB (decide (sn = sn + max 0 (min 3 r))) ((0 ≤ sn ∧ sn ≤ sn + max 0 (min 3 r) ∧ sn + max 0 (min 3 r) ≤ wr) ∧ k (V.d (D.tup [D.int sn, D.by_ (sn + max 0 (min 3 r)
- sn), D.bool true])) (b :: l :: sO (S "data_sent") wr (max sn (sn + max 0 (min 3 r))) ac [] true false ea rc ow :: rest)) ((0 ≤ sn ∧ sn ≤ sn + max 0 (min 3 r) ∧ sn + max 0 (min 3 r) ≤ wr) ∧ k (V.d (D.tup [D.int sn, D.by_ (sn + max 0 (min 3 r) - sn), D.bool true])) (b :: l :: sO (S "data_sent") wr (max sn (sn + max 0 (min 3 r))) ac [] true false ea rc ow :: rest))) (orB (decide (sn = sn + max 0 (min 3 r))) (k (V.d D.none) (b :: l :: sO st wr sn ac [] true false ea rc ow :: rest)) (orB (st == S "data_sent") ((0 ≤ sn ∧ sn ≤ sn + max 0 (min 3 r) ∧ sn + max 0 (min 3 r) ≤ wr) ∧ k (V.d (D.tup [D.int sn, D.by_ (sn + max 0 (min 3 r) - sn), D.bool false])) (b :: l :: sO (S "data_sent") wr (max sn (sn + max 0 (min 3 r))) ac [] true false ea rc ow :: rest)) ((0 ≤ sn ∧ sn ≤ sn + max 0 (min 3 r) ∧ sn + max 0 (min 3 r) ≤ wr) ∧ k (V.d (D.tup [D.int sn, D.by_ (sn + max 0 (min 3 r) - sn), D.bool false])) (b :: l :: sO (S "send") wr (max sn (sn + max 0 (min 3 r))) ac [] true false ea rc ow :: rest))))))) := by kernel_rfl
theorem vc264 (b l : AObj) (st : Str) (wr sn : Int) (ac lo : List D) (fin oe ea ow : Bool) (rc : D) (rest : List AObj) (k : V → List AObj → Prop) (ex : Int → List AObj → Prop) : (vcF r264 false [] noInv noWInv [.g 2] (b :: l :: sO st wr sn ac lo fin oe ea rc ow :: rest) k ex) = (
orB (!ow) (k (V.d D.none) (b :: l :: sO st wr sn ac lo fin oe ea rc ow :: rest))
  (k (V.d (D.tup [rc, D.int sn])) (b :: l :: sO st wr sn ac lo fin oe ea rc false :: rest))) := by kernel_rfl
theorem vc271a (b l : AObj) (st : Str) (wr sn of z : Int) (fin oe ea ow ie : Bool) (rc : D) (rest : List AObj) (k : V → List AObj → Prop) (ex : Int → List AObj → Prop) : (vcF r271 false [(67, T67), (74, T74), (81, T81)] noInv noWInv [.g 2, .d (.int of), .d (.int z), .d (.bool ie)] (b :: l :: sO st wr sn [] [] fin oe ea rc ow :: rest) k ex) = (of = 0 ∧ 0 ≤ of + z ∧ (of + z = 0 → orB ie (orB (st == S "data_sent") (∃ (qs : List (Int × Int)), @List.nil D = List.map encI qs ∧ ∀ (r : Bool), (r = true ↔ wr ≤ 0 ∨ ∃ (q : Int × Int), q ∈ qs ∧ Prod.fst q ≤ 0 ∧ wr ≤ Prod.snd q) → orB r (k (V.d D.none) (b :: l :: sO (S "data_recvd") wr sn [] [] fin false true rc ow :: rest)) (k (V.d D.none) (b :: l :: sO st wr sn [] [] fin false true rc ow :: rest))) (k (V.d D.none) (b :: l :: sO st wr sn [] [] fin false true rc ow :: rest))) (orB (st == S "data_sent") (orB ea (∃ (qs : List (Int × Int)), @List.nil D = List.map encI qs ∧ ∀ (r : Bool), (r = true ↔ wr ≤ 0 ∨ ∃ (q : Int × Int), q ∈ qs ∧ Prod.fst q ≤ 0 ∧ wr ≤ Prod.snd q) → orB r (k (V.d D.none) (b :: l :: sO (S "data_recvd") wr sn [] [] fin oe ea rc ow :: rest)) (k (V.d D.none) (b :: l :: sO st wr sn [] [] fin oe ea rc ow :: rest))) (k (V.d D.none) (b :: l :: sO st wr sn [] [] fin oe ea rc ow :: rest))) (k (V.d D.none) (b :: l :: sO st wr sn [] [] fin oe ea rc ow :: rest)))) ∧ (0 < of + z → orB ie (orB (st == S "data_sent") (∃ (qs : List (Int × Int)), [D.tup [D.int 0, D.int (of + z)]] = List.map encI qs ∧ ∀ (r : Bool), (r = true ↔ wr ≤ 0 ∨ ∃ (q : Int × Int), q ∈ qs ∧ Prod.fst q ≤ 0 ∧ wr ≤ Prod.snd q) → orB r (k (V.d D.none) (b :: l :: sO (S "data_recvd") wr sn [D.tup [D.int 0, D.int (of + z)]] [] fin false true rc ow :: rest)) (k (V.d D.none) (b :: l :: sO st wr sn [D.tup [D.int 0, D.int (of + z)]] [] fin false true rc ow :: rest))) (k (V.d D.none) (b :: l :: sO st wr sn [D.tup [D.int 0, D.int (of + z)]] [] fin false true rc ow :: rest))) (orB (st == S "data_sent") (orB ea (∃ (qs : List (Int × Int)), [D.tup [D.int 0, D.int (of + z)]] = List.map encI qs ∧ ∀ (r : Bool), (r = true ↔ wr ≤ 0 ∨ ∃ (q : Int × Int), q ∈ qs ∧ Prod.fst q ≤ 0 ∧ wr ≤ Prod.snd q) → orB r (k (V.d D.none) (b :: l :: sO (S "data_recvd") wr sn [D.tup [D.int 0, D.int (of + z)]] [] fin oe ea rc ow :: rest)) (k (V.d D.none) (b :: l :: sO st wr sn [D.tup [D.int 0, D.int (of + z)]] [] fin oe ea rc ow :: rest))) (k (V.d D.none) (b :: l :: sO st wr sn [D.tup [D.int 0, D.int (of + z)]] [] fin oe ea rc ow :: rest))) (k (V.d D.none) (b :: l :: sO st wr sn [D.tup [D.int 0, D.int (of + z)]] [] fin oe ea rc ow :: rest))))) := by kernel_rfl
theorem vc271b (b l : AObj) (st : Str) (wr sn of z m : Int) (fin oe ea ow ie : Bool) (rc : D) (rest : List AObj) (k : V → List AObj → Prop) (ex : Int → List AObj → Prop) : (vcF r271 false [(67, T67), (74, T74), (81, T81)] noInv noWInv [.g 2, .d (.int of), .d (.int z), .d (.bool ie)] (b :: l :: sO st wr sn [.tup [.int 0, .int m]] [] fin oe ea rc ow :: rest) k ex) = (((0 : Int) = (0 : Int) ∧ 0 < m ∧ of = m ∧ m ≤ of + z) ∧ orB ie (orB (st == S "data_sent") (∃ (qs : List (Int × Int)), [D.tup [D.int (0 : Int), D.int (of + z)]] = List.map encI qs ∧ ∀ (r : Bool), (r = true ↔ wr ≤ (0 : Int) ∨ ∃ (q : Int × Int), q ∈ qs ∧ Prod.fst q ≤ (0 : Int) ∧ wr ≤ Prod.snd q) → orB r (k (V.d D.none) (b :: l :: sO (S "data_recvd") wr sn [D.tup [D.int (0 : Int), D.int (of + z)]] [] fin false true rc ow :: rest)) (k (V.d D.none) (b :: l :: sO st wr sn [D.tup [D.int (0 : Int), D.int (of + z)]] [] fin false true rc ow :: rest))) (k (V.d D.none) (b :: l :: sO st wr sn [D.tup [D.int (0 : Int), D.int (of + z)]] [] fin false true rc ow :: rest))) (orB (st == S "data_sent") (orB ea (∃ (qs : List (Int × Int)), [D.tup [D.int (0 : Int), D.int (of + z)]] = List.map encI qs ∧ ∀ (r : Bool), (r = true ↔ wr ≤ (0 : Int) ∨ ∃ (q : Int × Int), q ∈ qs ∧ Prod.fst q ≤ (0 : Int) ∧ wr ≤ Prod.snd q) → orB r (k (V.d D.none) (b :: l :: sO (S "data_recvd") wr sn [D.tup [D.int (0 : Int), D.int (of + z)]] [] fin oe ea rc ow :: rest)) (k (V.d D.none) (b :: l :: sO st wr sn [D.tup [D.int (0 : Int), D.int (of + z)]] [] fin oe ea rc ow :: rest))) (k (V.d D.none) (b :: l :: sO st wr sn [D.tup [D.int (0 : Int), D.int (of + z)]] [] fin oe ea rc ow :: rest))) (k (V.d D.none) (b :: l :: sO st wr sn [D.tup [D.int (0 : Int), D.int (of + z)]] [] fin oe ea rc ow :: rest)))) := by kernel_rfl
theorem vc285 (b l : AObj) (st : Str) (wr sn : Int) (ac lo : List D) (fin oe ea ow : Bool) (rc : D) (rest : List AObj) (k : V → List AObj → Prop) (ex : Int → List AObj → Prop) : (vcF r285 false [] noInv noWInv [.g 2] (b :: l :: sO st wr sn ac lo fin oe ea rc ow :: rest) k ex) = (
orB (st == S "reset_sent") (k (V.d D.none) (b :: l :: sO (S "reset_recvd") wr sn ac lo fin oe ea rc ow :: rest))
  (k (V.d D.none) (b :: l :: sO st wr sn ac lo fin oe ea rc ow :: rest))) := by kernel_rfl
theorem vc292 (b l : AObj) (st : Str) (wr sn : Int) (ac lo : List D) (fin oe ea ow : Bool) (rc : D) (rest : List AObj) (k : V → List AObj → Prop) (ex : Int → List AObj → Prop) : (vcF r292 false [] noInv noWInv [.g 2] (b :: l :: sO st wr sn ac lo fin oe ea rc ow :: rest) k ex) = (
orB (st == S "reset_sent") (k (V.d D.none) (b :: l :: sO st wr sn ac lo fin oe ea rc true :: rest))
  (k (V.d D.none) (b :: l :: sO st wr sn ac lo fin oe ea rc ow :: rest))) := by kernel_rfl
theorem vc299 (b l : AObj) (st : Str) (wr sn : Int) (ac lo : List D) (fin oe ea ow : Bool) (rc : D) (rest : List AObj) (k : V → List AObj → Prop) (ex : Int → List AObj → Prop) : (vcF r299 false [] noInv noWInv [.g 2] (b :: l :: sO st wr sn ac lo fin oe ea rc ow :: rest) k ex) = (
k (V.d (D.bool (List.any [S "data_recvd", S "reset_recvd"] fun (x : Str) => x == st))) (b :: l :: sO st wr sn ac lo fin oe ea rc ow :: rest)) := by kernel_rfl
end
noncomputable section
theorem isOpen_iff {st : Str} : isOpen st = true ↔ st = S "ready" ∨ st = S "send" := by
  unfold isOpen
  simp only [List.any_cons, List.any_nil, Bool.or_false, Bool.or_eq_true, beq_iff_eq]
  exact ⟨fun h => h.imp Eq.symm Eq.symm, fun h => h.imp Eq.symm Eq.symm⟩
theorem open_ds {st : Str} (h : isOpen st = true) : (st == S "data_sent") = false := by
  rcases isOpen_iff.mp h with rfl | rfl <;> decide
theorem b194 : BodyOk r194 T194 0 := body_ok r194 (row_at 18 rfl) 0 40 true [] (by kernel_rfl) (bind2 rfl fun _ _ => by kernel_rfl) noCalls fun Vs W k ex h0 => by
  refine A2z_go h0 fun e1 z0 => onI_go z0 fun b l e2 h => ?_
  clear z0 h0
  subst e1 e2
  exact ⟨rfl, noInv, noWInv, (vc194 ..).mpr h⟩
theorem f302 : FnOk 302 (clsT 302 T194) 1 := cls_ok b194 fun P => by kernel_rfl
theorem f201 : FnOk 201 T201 1 := fn_ok r201 (row_at 19 rfl) 0 40 false [] (by kernel_rfl) (bind2 rfl fun _ _ => by kernel_rfl) noCalls fun Vs W k ex h0 => by
  refine A2d_go h0 fun x e1 z0 => yOf_go z0 fun y e5 z1 => orB_go z1 fun e6 z2 => onS_go z2 fun b l st wr sn ac lo fin oe ea rc ow rest e9 q => ?_
  clear z2 z1 z0 h0
  subst e1 e5
  cases of_decide_eq_true e6
  · obtain ⟨hw, h1, h2⟩ := q
    subst e9
    exact ⟨rfl, noInv, noWInv, (vc201 ..).mpr (orN (fun e => h1 (.inl e)) fun e => orB_i (fun e2 => h1 (.inr e2)) fun e2 => ⟨by lia, h2 ⟨e, e2⟩⟩)⟩
theorem f208 : FnOk 208 T208 1 := fn_ok r208 (row_at 20 rfl) 0 40 false [] (by kernel_rfl) (bind1 rfl fun _ => by kernel_rfl) noCalls fun Vs W k ex h0 => by
  refine A1_go h0 fun e1 z0 => onS_go z0 fun b l st wr sn ac lo fin oe ea rc ow rest e9 q => ?_
  clear z0 h0
  subst e1
  · obtain ⟨h1, h2, h3⟩ := q
    subst e9
    exact ⟨rfl, noInv, noWInv, (vc208 ..).mpr (orN (fun e => h1 e) fun e => orN (fun e2 => h3 ⟨e, e2⟩) fun e2 => h2 ⟨e, e2⟩)⟩
theorem f215 : FnOk 215 T215 1 := fn_ok r215 (row_at 21 rfl) 0 40 false [] (by kernel_rfl) (bind2 rfl fun _ _ => by kernel_rfl) noCalls fun Vs W k ex h0 => by
  refine A2z_go h0 fun e1 z0 => onS_go z0 fun b l st wr sn ac lo fin oe ea rc ow rest e9 q => ?_
  clear z0 h0
  subst e1
  · obtain ⟨h1, h2⟩ := q
    subst e9
    exact ⟨rfl, noInv, noWInv, (vc215 ..).mpr (orN (fun e => orN (fun e2 => h1 ⟨e, e2⟩) fun e2 => h2 (.inr (eq_of_beq e2))) fun e => h2 (.inl e))⟩
theorem f222 : FnOk 222 T215 2 := fn_ok r222 (row_at 22 rfl) 1 40 false [(215, T215)] (by kernel_rfl) (bind2 rfl fun _ _ => by kernel_rfl) (fun p hp => by
    rw [List.mem_singleton] at hp
    rw [hp]; exact f215) fun Vs W k ex h0 => by
  refine A2z_go h0 fun e1 z0 => onS_go z0 fun b l st wr sn ac lo fin oe ea rc ow rest e9 q => ?_
  clear z0 h0
  subst e1
  · obtain ⟨h1, h2⟩ := q
    subst e9
    exact ⟨rfl, noInv, noWInv, (vc222 ..).mpr ⟨rfl, h1, h2⟩⟩
theorem f236 : FnOk 236 T236 1 := fn_ok r236 (row_at 23 rfl) 0 40 false [] (by kernel_rfl) (bind2 rfl fun _ _ => by kernel_rfl) noCalls fun Vs W k ex h0 => by
  refine A2d_go h0 fun x e1 z0 => orB_go z0 fun e5 z1 => onS_go z1 fun b l st wr sn ac lo fin oe ea rc ow rest e9 q => ?_
  clear z1 z0 h0
  subst e1 e9
  cases noneD e5
  · have h1 := q
    exact ⟨rfl, noInv, noWInv, (vc236 ..).mpr (orN (fun e => h1 0 ⟨fun _ => rfl, fun q => Bool.noConfusion ((show isOpen st = false from e).symm.trans q)⟩) fun e => h1 _ ⟨fun q => Bool.noConfusion ((show isOpen st = true from e).symm.trans q), fun _ => rfl⟩)⟩
theorem f264 : FnOk 264 T264 1 := fn_ok r264 (row_at 25 rfl) 0 40 false [] (by kernel_rfl) (bind1 rfl fun _ => by kernel_rfl) noCalls fun Vs W k ex h0 => by
  refine A1_go h0 fun e1 z0 => onS_go z0 fun b l st wr sn ac lo fin oe ea rc ow rest e9 q => ?_
  clear z0 h0
  subst e1
  · obtain ⟨h1, h2⟩ := q
    subst e9
    exact ⟨rfl, noInv, noWInv, (vc264 ..).mpr (orN h1 fun e => by obtain ⟨c, rfl, h⟩ := h2 e; exact h)⟩
theorem f285 : FnOk 285 T285 1 := fn_ok r285 (row_at 27 rfl) 0 40 false [] (by kernel_rfl) (bind1 rfl fun _ => by kernel_rfl) noCalls fun Vs W k ex h0 => by
  refine A1_go h0 fun e1 z0 => onS_go z0 fun b l st wr sn ac lo fin oe ea rc ow rest e9 q => ?_
  clear z0 h0
  subst e1
  · obtain ⟨h1, h2⟩ := q
    subst e9
    exact ⟨rfl, noInv, noWInv, (vc285 ..).mpr (orS h1 h2)⟩
theorem f292 : FnOk 292 T292 1 := fn_ok r292 (row_at 28 rfl) 0 40 false [] (by kernel_rfl) (bind1 rfl fun _ => by kernel_rfl) noCalls fun Vs W k ex h0 => by
  refine A1_go h0 fun e1 z0 => onS_go z0 fun b l st wr sn ac lo fin oe ea rc ow rest e9 q => ?_
  clear z0 h0
  subst e1
  · obtain ⟨h1, h2⟩ := q
    subst e9
    exact ⟨rfl, noInv, noWInv, (vc292 ..).mpr (orS h1 h2)⟩
theorem f299 : FnOk 299 T299 1 := fn_ok r299 (row_at 29 rfl) 0 40 false [] (by kernel_rfl) (bind1 rfl fun _ => by kernel_rfl) noCalls fun Vs W k ex h0 => by
  refine A1_go h0 fun e1 z0 => onS_go z0 fun b l st wr sn ac lo fin oe ea rc ow rest e9 q => ?_
  clear z0 h0
  subst e1 e9
  · have h1 := q
    exact ⟨rfl, noInv, noWInv, (vc299 ..).mpr h1⟩
theorem ackR {k : Int} {st : Str} {ea ow : Bool} {b l : AObj} {wr sn : Int} {ac' : List D} {fin : Bool} {rc : D} {rest : List AObj} {K : V → List AObj → Prop} {ie ea' oe' oe : Bool}
    (hk : ∀ (st' : Str), AckRel wr k st ie ea oe st' ea' oe' → K (.d .none) (b :: l :: sO st' wr sn ac' [] fin oe' ea' rc ow :: rest)) (h1 : ie = true → ea' = true ∧ oe' = false) (h2 : ie = false → ea' = ea ∧ oe' = oe) (he : ea' = true)
    (hA : AkD ac' k) (hk0 : 0 ≤ k) (hds : (st == S "data_sent") = true) : ∃ qs : List (Int × Int), ac' = qs.map encI ∧ ∀ r : Bool, (r = true ↔ wr ≤ 0 ∨ ∃ q ∈ qs, q.1 ≤ 0 ∧ wr ≤ q.2) →
      orB r (K (.d .none) (b :: l :: sO (S "data_recvd") wr sn ac' [] fin oe' ea' rc ow :: rest)) (K (.d .none) (b :: l :: sO st wr sn ac' [] fin oe' ea' rc ow :: rest)) := by
  have key : ∀ r : Bool, (r = true ↔ wr ≤ k) → orB r (K (.d .none) (b :: l :: sO (S "data_recvd") wr sn ac' [] fin oe' ea' rc ow :: rest)) (K (.d .none) (b :: l :: sO st wr sn ac' [] fin oe' ea' rc ow :: rest)) := fun r hr =>
    orB_i (fun e => hk _ ⟨h1, h2, .inl ⟨hds, he, hr.mp e, rfl⟩⟩) fun e => hk _ ⟨h1, h2, .inr ⟨.inr (.inr (by
      have : ¬ wr ≤ k := fun q => by rw [hr.mpr q] at e; cases e
      lia)), rfl⟩⟩
  rcases hA with ⟨rfl, rfl⟩ | ⟨h0, rfl⟩
  · exact ⟨[], rfl, fun r hr => key r (hr.trans ⟨fun q => q.elim id fun ⟨_, h, _⟩ => (nomatch h), .inl⟩)⟩
  · exact ⟨[(0, k)], rfl, fun r hr => key r (hr.trans ⟨fun q => q.elim (fun q => by lia) fun ⟨p, hp, _, q⟩ => by rw [List.mem_singleton.mp hp] at q; exact q, fun q => .inr ⟨_, .head _, Int.le_refl _, q⟩⟩)⟩
theorem f271 : FnOk 271 T271 2 := fn_ok r271 (row_at 26 rfl) 1 40 false [(67, T67), (74, T74), (81, T81)] (by kernel_rfl) (bind4 rfl fun _ _ _ _ => by kernel_rfl) (fun p hp => by
    simp only [List.mem_cons, List.not_mem_nil, or_false] at hp
    rcases hp with rfl | rfl | rfl
    · exact f67
    · exact f74
    · exact f81) fun Vs W k ex h0 => by
  refine A4d_go h0 fun x y z e1 z0 => iOf_go z0 fun of e5 z1 => iOf_go z1 fun z e6 z2 => bOf_go z2 fun ie e7 z3 => onS_go z3 fun b l st wr sn ac lo fin oe ea rc ow rest e9 q => ?_
  clear z3 z2 z1 z0 h0
  subst e1 e5 e6 e7
  · obtain ⟨⟨rfl, hA, hz⟩, hk⟩ := q
    subst e9
    refine ⟨rfl, noInv, noWInv, ?_⟩
    have body : ∀ ac' : List D, AkD ac' (of + z) → 0 ≤ of + z → orB ie
        (orB (st == S "data_sent") (∃ qs : List (Int × Int), ac' = qs.map encI ∧ ∀ r : Bool, (r = true ↔ wr ≤ 0 ∨ ∃ q, q ∈ qs ∧ q.1 ≤ 0 ∧ wr ≤ q.2) → orB r (k (.d .none) (b :: l :: sO (S "data_recvd") wr sn ac' [] fin false true rc ow :: rest)) (k (.d .none) (b :: l :: sO st wr sn ac' [] fin false true rc ow :: rest)))
          (k (.d .none) (b :: l :: sO st wr sn ac' [] fin false true rc ow :: rest)))
        (orB (st == S "data_sent") (orB ea (∃ qs : List (Int × Int), ac' = qs.map encI ∧ ∀ r : Bool, (r = true ↔ wr ≤ 0 ∨ ∃ q, q ∈ qs ∧ q.1 ≤ 0 ∧ wr ≤ q.2) → orB r (k (.d .none) (b :: l :: sO (S "data_recvd") wr sn ac' [] fin oe ea rc ow :: rest)) (k (.d .none) (b :: l :: sO st wr sn ac' [] fin oe ea rc ow :: rest)))
          (k (.d .none) (b :: l :: sO st wr sn ac' [] fin oe ea rc ow :: rest))) (k (.d .none) (b :: l :: sO st wr sn ac' [] fin oe ea rc ow :: rest))) := fun ac' hA' h0 => by
      refine orB_i (fun e => ?_) fun e => ?_
      · subst e
        exact orB_i (fun e1 => ackR (ea := ea) (oe := oe) (ie := true) (fun st' R => hk ac' st' true false hA' R) (fun _ => ⟨rfl, rfl⟩) (fun q => Bool.noConfusion q) rfl hA' h0 e1) fun e1 => hk ac' st true false hA' ⟨fun _ => ⟨rfl, rfl⟩, fun q => Bool.noConfusion q, .inr ⟨.inl e1, rfl⟩⟩
      · subst e
        refine orB_i (fun e1 => orB_i (fun e2 => ?_) fun e2 => hk ac' st ea oe hA' ⟨fun q => Bool.noConfusion q, fun _ => ⟨rfl, rfl⟩, .inr ⟨.inr (.inl e2), rfl⟩⟩) fun e1 => hk ac' st ea oe hA' ⟨fun q => Bool.noConfusion q, fun _ => ⟨rfl, rfl⟩, .inr ⟨.inl e1, rfl⟩⟩
        exact ackR (ie := false) (fun st' R => hk ac' st' ea oe hA' R) (fun q => Bool.noConfusion q) (fun _ => ⟨rfl, rfl⟩) e2 hA' h0 e1
    rcases hA with ⟨h0, rfl⟩ | ⟨h0, rfl⟩
    · refine (vc271a ..).mpr ⟨h0, by lia, fun e => body [] (.inl ⟨e, rfl⟩) (by lia), fun e => body _ (.inr ⟨e, rfl⟩) (by lia)⟩
    · exact (vc271b ..).mpr ⟨⟨rfl, h0, rfl, by lia⟩, body _ (.inr ⟨by lia, rfl⟩) (by lia)⟩
theorem f257 : FnOk 257 T257 2 := fn_ok r257 (row_at 24 rfl) 1 40 false [(88, T88), (236, T236), (74, T74)] (by kernel_rfl) (bind3 rfl fun _ _ _ => by kernel_rfl) (fun p hp => by
    simp only [List.mem_cons, List.not_mem_nil, or_false] at hp
    rcases hp with rfl | rfl | rfl
    · exact f88
    · exact f236
    · exact f74) fun Vs W k ex h0 => by
  refine A3d_go h0 fun x y e1 z0 => iOf_go z0 fun x e5 z1 => orB_go z1 fun e6 z2 => onS_go z2 fun b l st wr sn ac lo fin oe ea rc ow rest e9 q => ?_
  clear z2 z1 z0 h0
  subst e1 e5
  rw [Bool.and_eq_true] at e6
  cases of_decide_eq_true e6.1
  cases noneD e6.2
  · obtain ⟨rfl, h1, h2⟩ := q
    subst e9
    refine ⟨rfl, noInv, noWInv, ?_⟩
    cases hop : isOpen st with
    | true =>
      obtain ⟨⟨rfl, g1, g2, g3⟩, hn, hk⟩ := h2 hop
      have hds := open_ds hop
      have hop' : (List.any [Str.ofString "ready", Str.ofString "send"] fun x => x == st) = true := hop
      cases oe with
      | true =>
        refine (vc257a ..).mpr (orN (fun e => Bool.noConfusion (hop'.symm.trans e)) fun _ => ⟨rfl, fun r hr => ?_⟩)
        have hr := hr.2 hop
        generalize hM : max (0 : Int) (min 3 r) = M
        rw [show sn + M - sn = M by lia, show max sn (sn + M) = sn + M by lia]
        refine orD (fun p => ?_) fun p => ?_
        · have := hk M true (S "data_sent") false ⟨by lia, by lia, by lia, by lia, rfl, .inl ⟨rfl, rfl, p, .inl rfl, rfl, rfl⟩⟩
          exact orD (fun _ => ⟨⟨g1, by lia, by lia⟩, this⟩) fun _ => ⟨⟨g1, by lia, by lia⟩, this⟩
        · have := hk M false (S "send") true ⟨by lia, by lia, by lia, by lia, rfl, .inr ⟨rfl, by lia, fun q => p q.2, rfl, rfl⟩⟩
          rw [decide_eq_false p, hds]
          exact orD (fun q => by omega) fun _ => ⟨⟨g1, by lia, by lia⟩, this⟩
      | false =>
        refine (vc257b ..).mpr (orN (fun e => Bool.noConfusion (hop'.symm.trans e)) fun _ => ⟨rfl, fun r hr => ?_⟩)
        have hr := hr.2 hop
        generalize hM : max (0 : Int) (min 3 r) = M
        rw [show sn + M - sn = M by lia, show max sn (sn + M) = sn + M by lia]
        refine orD (fun p => hn) fun p => ?_
        have := hk M false (S "send") false ⟨by lia, by lia, by lia, by lia, rfl, .inr ⟨rfl, by lia, fun q => Bool.noConfusion q.1, rfl, rfl⟩⟩
        rw [hds]
        exact ⟨⟨g1, by lia, by lia⟩, this⟩
    | false =>
      obtain ⟨⟨rfl, g1⟩, hn⟩ := h1 hop
      have hop' : (List.any [Str.ofString "ready", Str.ofString "send"] fun x => x == st) = false := hop
      cases fin with
      | true =>
        refine (vc257c ..).mpr (orN (fun _ => orN (fun _ => hn) fun e => ⟨rfl, fun r hr => ?_⟩) fun e => Bool.noConfusion (hop'.symm.trans e))
        have hr := hr.1 hop
        subst hr
        rw [show max (0 : Int) (min 3 0) = 0 by lia, show sn + 0 = sn by lia, show decide (sn < sn) = false from decide_eq_false (by lia), show decide (sn = sn) = true from decide_eq_true rfl]
        exact orD (fun _ => hn) fun p => by rw [decide_eq_false p]; exact hn
      | false =>
        refine (vc257b ..).mpr (orN (fun _ => orN (fun _ => hn) fun e => Bool.noConfusion (g1 (eq_of_beq e))) fun e => Bool.noConfusion (hop'.symm.trans e))
end
noncomputable section
structure RI (st : Str) (rd hi : Int) (fi : Option Int) (sp : Bool) (ps : Pcs) (S : Int → Prop) : Prop where
  rd0 : 0 ≤ rd
  hi12 : hi ≤ 12
  rdhi : rd ≤ hi
  lt : ∀ x, S x → 0 ≤ x ∧ x < hi
  fin : ∀ f, fi = some f → hi ≤ f ∧ f ≤ 12
  stop : sp = true → ps = [] ∧ st ≠ Str.ofString "data_recvd" ∧ st ≠ Str.ofString "data_read"
  cov : sp = false → isRst st = false → ∀ x, InP ps x ↔ S x ∧ rd ≤ x
  dr : st = Str.ofString "data_recvd" → ∃ f, fi = some f ∧ ∀ x, rd ≤ x → x < f → S x
  rdd : st = Str.ofString "data_read" → ∃ f, fi = some f ∧ f ≤ rd
  sep : SepP rd 12 ps
  nm : st = Str.ofString "recv" ∨ st = Str.ofString "size_known" ∨ st = Str.ofString "data_recvd" ∨ st = Str.ofString "data_read" ∨ st = Str.ofString "reset_recvd" ∨ st = Str.ofString "reset_read"
theorem RI.take {st : Str} {rd hi : Int} {fi : Option Int} {sp : Bool} {ps : Pcs} {S : Int → Prop} (I : RI st rd hi fi sp ps S) (hr : isRst st = false) {j : Int} (hj0 : 0 ≤ j) (hj : ∀ x, rd ≤ x → x < rd + j → S x ∧ sp = false) (hx : sp = true ∨ ¬ S (rd + j)) : ((takeAt rd ps).1 : Int) = j := by
  obtain ⟨_, _, h3, h4⟩ := takeAt_spec I.sep
  cases hsp : sp with
  | true =>
    obtain ⟨e, _⟩ := I.stop hsp
    subst e
    by_cases z : j = 0
    · rw [z]; rfl
    · have := (hj rd (Int.le_refl _) (by lia)).2
      rw [hsp] at this; cases this
  | false =>
    have cv := I.cov hsp hr
    rcases hx with hx | hx
    · rw [hsp] at hx; cases hx
    · rcases Int.lt_trichotomy ((takeAt rd ps).1 : Int) j with c | c | c
      · exfalso
        exact h4 ((cv _).mpr ⟨(hj _ (by lia) (by lia)).1, by lia⟩)
      · exact c
      · exfalso
        exact hx ((cv _).mp (h3 _ (by lia) (by lia))).1
theorem RI.read {st : Str} {rd hi : Int} {fi : Option Int} {sp : Bool} {ps : Pcs} {S : Int → Prop} (I : RI st rd hi fi sp ps S) (hr : isRst st = false) (hd : (st == Str.ofString "data_recvd") = false) : RI st (rd + ((takeAt rd ps).1 : Int)) hi fi sp (takeAt rd ps).2 S := by
  obtain ⟨h1, h2, h3, h4⟩ := takeAt_spec I.sep
  have h0 := I.rd0
  have hdn : st ≠ Str.ofString "data_recvd" := fun e => by rw [e] at hd; exact absurd hd (by decide)
  refine ⟨by lia, I.hi12, ?_, I.lt, I.fin, fun hs => ?_, fun hs hr' x => ?_, fun e => absurd e hdn, fun e => ?_, h1, I.nm⟩
  · by_cases z : (takeAt rd ps).1 = 0
    · have := I.rdhi; lia
    · cases hsp : sp with
      | true => obtain ⟨e, _⟩ := I.stop hsp; subst e; exact absurd rfl z
      | false =>
        have := I.lt _ ((I.cov hsp hr _).mp (h3 (rd + ((takeAt rd ps).1 : Int) - 1) (by lia) (by lia))).1
        lia
  · obtain ⟨e, e2⟩ := I.stop hs
    subst e
    exact ⟨rfl, e2⟩
  · rw [h2, I.cov hs hr]
    constructor
    · rintro ⟨⟨a, b⟩, c⟩; exact ⟨a, c⟩
    · rintro ⟨a, c⟩; exact ⟨⟨a, by lia⟩, c⟩
  · obtain ⟨f, e1, e2⟩ := I.rdd e
    exact ⟨f, e1, by lia⟩
theorem RI.readEnd {rd hi : Int} {fi : Option Int} {sp : Bool} {ps : Pcs} {S : Int → Prop} (I : RI (Str.ofString "data_recvd") rd hi fi sp ps S) : ∃ f, fi = some f ∧ rd + ((takeAt rd ps).1 : Int) = f ∧ RI (Str.ofString "data_read") f hi fi sp (takeAt rd ps).2 S := by
  obtain ⟨h1, h2, h3, h4⟩ := takeAt_spec I.sep
  have h0 := I.rd0
  obtain ⟨f, hf, hS⟩ := I.dr rfl
  have hsp : sp = false := by
    cases hsp : sp with
    | false => rfl
    | true => exact absurd rfl (I.stop hsp).2.1
  have cv := I.cov hsp (by decide)
  have hif := (I.fin f hf).1
  have hrh := I.rdhi
  have key : rd + ((takeAt rd ps).1 : Int) = f := by
    rcases Int.lt_trichotomy (rd + ((takeAt rd ps).1 : Int)) f with c | c | c
    · exact absurd ((cv _).mpr ⟨hS _ (by lia) c, by lia⟩) h4
    · exact c
    · exfalso
      have := I.lt _ ((cv _).mp (h3 f (by lia) c)).1
      lia
  refine ⟨f, hf, key, ⟨by lia, I.hi12, ?_, I.lt, I.fin, fun hs => absurd (hsp.symm.trans hs) (by decide), fun hs _ x => ?_, fun e => absurd e (by decide), fun _ => ⟨f, hf, Int.le_refl _⟩, key ▸ h1, .inr (.inr (.inr (.inl rfl)))⟩⟩
  · by_cases z : (takeAt rd ps).1 = 0
    · lia
    · have := I.lt _ ((cv _).mp (h3 (rd + ((takeAt rd ps).1 : Int) - 1) (by lia) (by lia))).1
      lia
  · rw [h2, cv, key]
    constructor
    · rintro ⟨⟨a, b⟩, c⟩; exact ⟨a, c⟩
    · rintro ⟨a, c⟩; exact ⟨⟨a, by lia⟩, c⟩
theorem RI.rst {st : Str} {rd hi : Int} {fi : Option Int} {sp : Bool} {ps : Pcs} {S : Int → Prop} (I : RI st rd hi fi sp ps S) : RI (Str.ofString "reset_read") rd hi fi sp ps S :=
  ⟨I.rd0, I.hi12, I.rdhi, I.lt, I.fin, fun h => ⟨(I.stop h).1, by decide, by decide⟩, fun _ h => absurd h (by decide), fun h => absurd h (by decide), fun h => absurd h (by decide), I.sep, .inr (.inr (.inr (.inr (.inr rfl))))⟩

theorem InP_nil_iff {lo hi : Int} {ps : Pcs} (S : SepP lo hi ps) (h : ∀ x, ¬ InP ps x) : ps = [] := by
  cases ps with
  | nil => rfl
  | cons p r =>
    have := S.al p (.head _)
    exact absurd ⟨p, .head _, Int.le_refl _, by omega⟩ (h p.1)
theorem due_none {fi : Option Int} {hi en : Int} {isf : Bool} (h : dueOf fi hi en isf = none) : en ≤ 12 ∧ (isf = true → hi ≤ en) ∧ (∀ f, fi = some f → en ≤ f ∧ (isf = true → en = f)) := by
  unfold dueOf at h
  split at h
  · cases h
  · rename_i hb
    split at h
    · cases h
    · rename_i hc
      split at h
      · cases h
      · refine ⟨by lia, fun e => ?_, fun f e => ?_⟩
        · by_cases q : en < hi
          · exact absurd ⟨e, q⟩ hc
          · omega
        · subst e
          unfold badFin at hb
          simp only [Bool.or_eq_true, decide_eq_true_eq, Bool.and_eq_true, not_or, not_and, ne_eq, Decidable.not_not] at hb
          exact ⟨by lia, hb.2⟩
theorem live_nm {st : Str} (h : isLive st = true) : st = Str.ofString "recv" ∨ st = Str.ofString "size_known" := by
  unfold isLive at h
  simp only [List.any_cons, List.any_nil, Bool.or_false, Bool.or_eq_true, beq_iff_eq] at h
  exact h.imp Eq.symm Eq.symm
theorem live_rst {st : Str} (h : isLive st = true) : isRst st = false ∧ st ≠ Str.ofString "data_recvd" ∧ st ≠ Str.ofString "data_read" := by
  rcases live_nm h with rfl | rfl <;> exact ⟨by decide, by decide, by decide⟩
theorem RI.reset {st : Str} {rd hi en c : Int} {fi : Option Int} {sp : Bool} {ps : Pcs} {S : Int → Prop} (I : RI st rd hi fi sp ps S) {isf : Bool} (hisf : isf = true) (hdue : dueOf fi hi en isf = none) (c0 : 0 ≤ c) (c1 : en - hi ≤ c) (c2 : c = 0 ∨ c = en - hi) : RI (Str.ofString "reset_recvd") rd (hi + c) (some en) sp [] S := by
  obtain ⟨d1, d2, d3⟩ := due_none hdue
  have d2 := d2 hisf
  have h12 := I.hi12
  have hrd := I.rdhi
  exact ⟨I.rd0, by omega, by omega, fun x hx => by have := I.lt x hx; omega, fun f e => by cases e; exact ⟨by omega, by omega⟩, fun _ => ⟨rfl, by decide, by decide⟩, fun _ h => absurd h (by decide), fun h => absurd h (by decide), fun h => absurd h (by decide), SepP.nil, .inr (.inr (.inr (.inr (.inl rfl))))⟩
theorem RI.old {st : Str} {rd hi en c : Int} {fi : Option Int} {sp : Bool} {ps : Pcs} {S : Int → Prop} (I : RI st rd hi fi sp ps S) {isf : Bool} (hdue : dueOf fi hi en isf = none) (c0 : 0 ≤ c) (c1 : en - hi ≤ c) (c2 : c = 0 ∨ c = en - hi) : RI st rd (hi + c) (if isf = true then some en else fi) sp ps S := by
  obtain ⟨d1, d2, d3⟩ := due_none hdue
  have h12 := I.hi12
  have hrd := I.rdhi
  refine ⟨I.rd0, by omega, by omega, fun x hx => by have := I.lt x hx; omega, fun f e => ?_, I.stop, I.cov, fun e => ?_, fun e => ?_, I.sep, I.nm⟩
  · cases isf with
    | true => cases e; have := d2 rfl; exact ⟨by omega, by omega⟩
    | false => have a := I.fin f e; have b := (d3 f e).1; exact ⟨by omega, a.2⟩
  · obtain ⟨f, e1, e2⟩ := I.dr e
    cases isf with
    | true => exact ⟨en, rfl, fun x h1 h2 => e2 x h1 (by have := (d3 f e1).2 rfl; lia)⟩
    | false => exact ⟨f, e1, e2⟩
  · obtain ⟨f, e1, e2⟩ := I.rdd e
    cases isf with
    | true => exact ⟨en, rfl, by have := (d3 f e1).2 rfl; lia⟩
    | false => exact ⟨f, e1, e2⟩
theorem RI.data {st st' : Str} {rd hi en o c : Int} {fi fi' : Option Int} {sp : Bool} {ps ps' : Pcs} {S : Int → Prop} (I : RI st rd hi fi sp ps S) (hst : isLive st = true) {isf : Bool} (hdue : dueOf fi hi en isf = none) (c0 : 0 ≤ c) (c1 : en - hi ≤ c) (c2 : c = 0 ∨ c = en - hi) (ho : 0 ≤ o) (hfi : fi' = if isf = true then some en else fi)
    (sep : SepP rd 12 ps') (cv : ∀ x, InP ps' x ↔ InP ps x ∨ (sp = false ∧ rd ≤ x ∧ o ≤ x ∧ x < en)) (sn : StNext st sp rd ps' fi' st') : RI st' rd (hi + c) fi' sp ps' (fun x => S x ∨ (o ≤ x ∧ x < en)) := by
  obtain ⟨d1, d2, d3⟩ := due_none hdue
  obtain ⟨l1, l2, l3⟩ := live_rst hst
  have h12 := I.hi12
  have hrd := I.rdhi
  have cov : sp = false → ∀ x, InP ps' x ↔ (S x ∨ (o ≤ x ∧ x < en)) ∧ rd ≤ x := fun hs x => by
    rw [cv, I.cov hs l1]
    constructor
    · rintro (⟨a, b⟩ | ⟨_, a, b, d⟩)
      · exact ⟨.inl a, b⟩
      · exact ⟨.inr ⟨b, d⟩, a⟩
    · rintro ⟨a | ⟨b, d⟩, e⟩
      · exact .inl ⟨a, e⟩
      · exact .inr ⟨hs, e, b, d⟩
  have sn' : (fi' = none ∧ st' = st) ∨ ∃ f b, fi' = some f ∧ (b = true ↔ sp = false ∧ ∀ x, rd ≤ x → x < f → InP ps' x) ∧ st' = if b = true then Str.ofString "data_recvd" else Str.ofString "size_known" := by
    unfold StNext at sn
    cases fi' with
    | none => exact .inl ⟨rfl, sn⟩
    | some f => obtain ⟨b, hb, e⟩ := sn; exact .inr ⟨f, b, rfl, hb, e⟩
  refine ⟨I.rd0, by omega, by lia, fun x hx => ?_, fun f e => ?_, fun hs => ⟨?_, ?_, ?_⟩, fun hs _ => cov hs, fun e => ?_, fun e => ?_, sep, ?_⟩
  · rcases hx with hx | hx
    · have := I.lt x hx; omega
    · omega
  · rw [hfi] at e
    cases isf with
    | true => cases e; have := d2 rfl; exact ⟨by omega, by omega⟩
    | false => have a := I.fin f e; have b := (d3 f e).1; exact ⟨by omega, a.2⟩
  · refine InP_nil_iff sep fun x hx => ?_
    rcases (cv x).mp hx with h | h
    · rw [(I.stop hs).1] at h; exact InP_nil h
    · rw [hs] at h; cases h.1
  · rcases sn' with ⟨_, rfl⟩ | ⟨f, b, _, hb, rfl⟩
    · exact l2
    · cases b with
      | true => have := (hb.mp rfl).1; rw [hs] at this; cases this
      | false => decide
  · rcases sn' with ⟨_, rfl⟩ | ⟨f, b, _, hb, rfl⟩
    · exact l3
    · cases b <;> decide
  · rcases sn' with ⟨_, rfl⟩ | ⟨f, b, hf, hb, rfl⟩
    · exact absurd e l2
    · cases b with
      | true => obtain ⟨q1, q2⟩ := hb.mp rfl; exact ⟨f, hf, fun x h1 h2 => ((cov q1 x).mp (q2 x h1 h2)).1⟩
      | false => exact absurd e (by decide)
  · rcases sn' with ⟨_, rfl⟩ | ⟨f, b, hf, hb, rfl⟩
    · exact absurd e l3
    · cases b <;> exact absurd e (by decide)
  · rcases sn' with ⟨_, rfl⟩ | ⟨f, b, hf, hb, rfl⟩
    · exact I.nm
    · cases b
      · exact .inr (.inl rfl)
      · exact .inr (.inr (.inl rfl))
theorem RI.cov2 {st : Str} {rd hi en o : Int} {fi : Option Int} {sp : Bool} {ps ps' : Pcs} {S : Int → Prop} (I : RI st rd hi fi sp ps S) (hst : isLive st = true) (cv : ∀ x, InP ps' x ↔ InP ps x ∨ (sp = false ∧ rd ≤ x ∧ o ≤ x ∧ x < en)) (hs : sp = false) (x : Int) : InP ps' x ↔ (S x ∨ (o ≤ x ∧ x < en)) ∧ rd ≤ x := by
  rw [cv, I.cov hs (live_rst hst).1]
  constructor
  · rintro (⟨a, b⟩ | ⟨_, a, b, d⟩)
    · exact ⟨.inl a, b⟩
    · exact ⟨.inr ⟨b, d⟩, a⟩
  · rintro ⟨a | ⟨b, d⟩, e⟩
    · exact .inl ⟨a, e⟩
    · exact .inr ⟨hs, e, b, d⟩
theorem StNext.yes {st st' : Str} {sp : Bool} {rd f : Int} {ps' : Pcs} (sn : StNext st sp rd ps' (some f) st') {S : Int → Prop} (cov : sp = false → ∀ x, InP ps' x ↔ S x ∧ rd ≤ x) (hs : sp = false) (h : ∀ x, rd ≤ x → x < f → S x) : st' = Str.ofString "data_recvd" := by
  obtain ⟨b, hb, rfl⟩ := sn
  rw [if_pos (hb.mpr ⟨hs, fun x h1 h2 => (cov hs x).mpr ⟨h x h1 h2, h1⟩⟩)]
theorem StNext.no {st st' : Str} {sp : Bool} {rd f : Int} {ps' : Pcs} (sn : StNext st sp rd ps' (some f) st') {S : Int → Prop} (cov : sp = false → ∀ x, InP ps' x ↔ S x ∧ rd ≤ x) (h : sp = true ∨ ¬ ∀ x, rd ≤ x → x < f → S x) : st' = Str.ofString "size_known" := by
  obtain ⟨b, hb, rfl⟩ := sn
  refine if_neg fun e => ?_
  obtain ⟨q1, q2⟩ := hb.mp e
  rcases h with h | h
  · rw [h] at q1; cases q1
  · exact h fun x h1 h2 => ((cov q1 x).mp (q2 x h1 h2)).1

noncomputable def Ph (st : Str) (len sn : Int) (fin ow ea : Bool) (rc : D) (fly : List (Int × Bool)) : Prop :=
  (isOpen st = true ∧ ea = false ∧ ow = fin ∧ ∀ f ∈ fly, f.2 = false) ∨
  (st = Str.ofString "data_sent" ∧ fin = true ∧ ow = false ∧ sn = len ∧ ea = false ∧ ∃ q z, fly = q ++ [(z, true)] ∧ ∀ f ∈ q, f.2 = false) ∨
  (st = Str.ofString "data_recvd" ∧ ow = false ∧ fly = []) ∨
  (st = Str.ofString "reset_sent" ∧ ow = false ∧ rc = .int 9) ∨
  (st = Str.ofString "reset_recvd" ∧ ow = false)
theorem NextRel.yes {len sn c sn' : Int} {fin ow ie ow' : Bool} {st' : Str} (R : NextRel len sn fin ow c ie st' sn' ow') (h : ie = true) : st' = Str.ofString "data_sent" := by
  obtain ⟨_, _, _, _, _, h' | h'⟩ := R
  · exact h'.2.2.2.2.1
  · rw [h'.1] at h; cases h
theorem NextRel.no {len sn c sn' : Int} {fin ow ie ow' : Bool} {st' : Str} (R : NextRel len sn fin ow c ie st' sn' ow') (h : ie = false) : st' = Str.ofString "send" := by
  obtain ⟨_, _, _, _, _, h' | h'⟩ := R
  · rw [h'.1] at h; cases h
  · exact h'.2.2.2.1
theorem Ph.chunk {len sn c sn' : Int} {fin ow ie ow' : Bool} {st' : Str} {rc : D} {fly : List (Int × Bool)} (R : NextRel len sn fin ow c ie st' sn' ow') (how : ow = fin) (hall : ∀ f ∈ fly, f.2 = false) : Ph st' len sn' fin ow' false rc (fly ++ [(c, ie)]) := by
  obtain ⟨h0, h3, hl, hc, hs, h' | h'⟩ := R
  · obtain ⟨rfl, hf, hlen, ho, hst, how'⟩ := h'
    exact .inr (.inl ⟨hst, hf, how', by lia, rfl, fly, c, rfl, hall⟩)
  · obtain ⟨rfl, hcp, hn, hst, how'⟩ := h'
    refine .inl ⟨by rw [hst]; decide, rfl, by rw [how', how], fun f hf => ?_⟩
    rcases List.mem_append.mp hf with hf | hf
    · exact hall f hf
    · rw [List.mem_singleton.mp hf]
theorem Ph.ack {len sn k z : Int} {fin ow ea e ea' ow' : Bool} {st st' : Str} {rc : D} {q : List (Int × Bool)} (h : Ph st len sn fin ow ea rc ((z, e) :: q)) (hq : q = [] → k + z = sn) (R : AckRel len (k + z) st e ea ow st' ea' ow') :
    Ph st' len sn fin ow' ea' rc q ∧ (st = Str.ofString "data_sent" → q = [] → st' = Str.ofString "data_recvd") ∧ ((st == Str.ofString "data_sent") = false ∨ q ≠ [] → st' = st) := by
  obtain ⟨R1, R2, R3⟩ := R
  rcases h with ⟨h1, h2, h3, h4⟩ | ⟨h1, h2, h3, h4, h5, q', z', h6, h7⟩ | ⟨h1, h2, h3⟩ | ⟨h1, h2, h3⟩ | ⟨h1, h2⟩
  · have he : e = false := h4 (z, e) (.head _)
    have hn := open_ds h1
    obtain ⟨a, b⟩ := R2 he
    have hs : st' = st := by
      rcases R3 with ⟨r, _⟩ | ⟨_, r⟩
      · rw [r] at hn; cases hn
      · exact r
    subst hs
    exact ⟨.inl ⟨h1, by rw [a, h2], by rw [b, h3], fun f hf => h4 f (.tail _ hf)⟩, fun e => (by rw [e] at hn; exact absurd hn (by decide)), fun _ => rfl⟩
  · subst h1
    cases q' with
    | nil =>
      simp only [List.nil_append, List.cons.injEq, Prod.mk.injEq] at h6
      obtain ⟨⟨_, rfl⟩, rfl⟩ := h6
      obtain ⟨a, b⟩ := R1 rfl
      have hk := hq rfl
      have hs : st' = Str.ofString "data_recvd" := by
        rcases R3 with ⟨_, _, _, r⟩ | ⟨r, _⟩
        · exact r
        · rcases r with r | r | r
          · exact absurd r (by decide)
          · rw [a] at r; cases r
          · lia
      exact ⟨.inr (.inr (.inl ⟨hs, b, rfl⟩)), fun _ _ => hs, fun r => r.elim (fun r => absurd r (by decide)) fun r => absurd rfl r⟩
    | cons f r =>
      simp only [List.cons_append, List.cons.injEq] at h6
      obtain ⟨rfl, rfl⟩ := h6
      have he : e = false := h7 (z, e) (.head _)
      obtain ⟨a, b⟩ := R2 he
      have hs : st' = Str.ofString "data_sent" := by
        rcases R3 with ⟨_, r, _⟩ | ⟨_, r⟩
        · rw [a, h5] at r; cases r
        · exact r
      exact ⟨.inr (.inl ⟨hs, h2, by rw [b, h3], h4, by rw [a, h5], r, z', rfl, fun f hf => h7 f (.tail _ hf)⟩), fun _ e => absurd e (by simp), fun _ => hs⟩
  · cases h3
  · subst h1
    have hs : st' = Str.ofString "reset_sent" := by
      rcases R3 with ⟨r, _⟩ | ⟨_, r⟩
      · exact absurd r (by decide)
      · exact r
    have ho : ow' = false := by cases e with
      | true => exact (R1 rfl).2
      | false => rw [(R2 rfl).2, h2]
    exact ⟨.inr (.inr (.inr (.inl ⟨hs, ho, h3⟩))), fun e => absurd e (by decide), fun _ => hs⟩
  · subst h1
    have hs : st' = Str.ofString "reset_recvd" := by
      rcases R3 with ⟨r, _⟩ | ⟨_, r⟩
      · exact absurd r (by decide)
      · exact r
    have ho : ow' = false := by cases e with
      | true => exact (R1 rfl).2
      | false => rw [(R2 rfl).2, h2]
    exact ⟨.inr (.inr (.inr (.inr ⟨hs, ho⟩))), fun e => absurd e (by decide), fun _ => hs⟩
end
noncomputable section
noncomputable def hR (fi : D) (hi : Int) (wd : Str) (rd : Int) (sp : Bool) : AObj := .sdict [(S "final", .d fi), (S "highest", .d (.int hi)), (S "word", .d (.str wd)), (S "have", .g 3), (S "read", .d (.int rd)), (S "stopped", .d (.bool sp))]
noncomputable def hS (wd : Str) (many : Int) (fin : Bool) (sn : Int) : AObj := .sdict [(S "word", .d (.str wd)), (S "many", .d (.int many)), (S "finished", .d (.bool fin)), (S "sent", .d (.int sn)), (S "flying", .g 3)]
noncomputable abbrev iD (zs : List Int) : AObj := .lst (zs.map D.int)
noncomputable def onL (r : List AObj) (f : List D → List AObj → Prop) : Prop := r.casesOn False fun l rest => l.casesOn (fun _ _ => False) (fun ds => f ds rest) (fun _ => False) (fun _ => False) fun _ _ => False
noncomputable def onB (W : List AObj) (f : Int → List D → List AObj → Prop) : Prop := W.casesOn False fun b r => b.casesOn (fun _ _ => False) (fun _ => False) (fun _ => False) (fun _ => False) fun x sd => orB (Nat.beq x 1) (onL r (f sd)) False
theorem onB_go {W : List AObj} {f : Int → List D → List AObj → Prop} {R : Prop} (h : onB W f) (k : ∀ sd ds rest, W = .box 1 sd :: .lst ds :: rest → f sd ds rest → R) : R := by
  cases W with
  | nil => exact h.elim
  | cons b r =>
    cases b <;> first | exact h.elim | skip
    refine orB_go (P := onL r (f _)) h fun e h => ?_
    cases r with
    | nil => exact h.elim
    | cons l rest =>
      cases l <;> first | exact h.elim | skip
      exact k _ _ _ (by rw [Nat.eq_of_beq_eq_true e]) h
noncomputable def T320 : CallT := fun Vs W k _ => A2i 0 Vs fun w => onB W fun sd ds rest => ∃ zs : List Int, (ds = zs.map D.int ∧ (0 < w ∧ (0 ≤ sd ∧ sd < 2147483647))) ∧ ∀ (r sd' : Int) (zs' : List Int), ((0 ≤ r ∧ r < w) ∧ (0 ≤ sd' ∧ sd' < 2147483647)) → k (.d (.int r)) (.box 1 sd' :: iD zs' :: rest)
noncomputable def onH (W : List AObj) (f : AObj → AObj → AObj → AObj → D → Int → Str → Int → Bool → Prop) : Prop := w3 W fun b l p r => two1 r fun hv o =>
  W = [b, l, p, hv, hR (fldD o 0) (gI (fldD o 1)) (gS (fldD o 2)) (gI (fldD o 4)) (gB (fldD o 5))] ∧ f b l p hv (fldD o 0) (gI (fldD o 1)) (gS (fldD o 2)) (gI (fldD o 4)) (gB (fldD o 5))
theorem onH_go {W : List AObj} {f : AObj → AObj → AObj → AObj → D → Int → Str → Int → Bool → Prop} {R : Prop} (h : onH W f) (k : ∀ b l p hv fi hi wd rd sp, W = [b, l, p, hv, hR fi hi wd rd sp] → f b l p hv fi hi wd rd sp → R) : R :=
  w3_go h fun _ _ _ _ h => two1_go h fun _ _ _ h => k _ _ _ _ _ _ _ _ _ h.1 h.2
noncomputable def T327 : CallT := fun Vs W k _ => A3d 4 Vs fun x y => iOf x fun en => bOf y fun isf => onH W fun _ _ _ _ fi hi _ _ _ => ∃ f, fi = fD f ∧ ((dueOf f hi en isf = none → k (.d .none) W) ∧ ∀ c, dueOf f hi en isf = some c → k (.d (.int c)) W)
noncomputable def WR (b l : AObj) (st : Str) (ps : Pcs) (rd hi : Int) (f : Option Int) (rc : D) (sp : Bool) (ks : List Int) : List AObj := [b, l, rO st (ps.map encP) rd hi (fD f) rc (scD sp), .iset ks, hR (fD f) hi st rd sp]
noncomputable def T339 : CallT := fun Vs W k _ => A2g 2 4 Vs <| ∃ b l st ps rd hi f rc sp ks, (W = WR b l st ps rd hi f rc sp ks ∧ RI st rd hi f sp ps (· ∈ ks)) ∧ ∀ (st' : Str) (ps' : Pcs) (rd' : Int), RI st' rd' hi f sp ps' (· ∈ ks) → (isLive st' = true → st' = st) → k (.d (.bool true)) (WR b l st' ps' rd' hi f rc sp ks)
noncomputable def T332 : CallT := fun Vs W k _ => A3g 0 2 4 Vs <| ∃ (sd : Int) (zs : List Int) (st : Str) (ps : Pcs) (rd hi : Int) (f : Option Int) (rc : D) (sp : Bool) (ks : List Int), ((W = WR (.box 1 sd) (iD zs) st ps rd hi f rc sp ks ∧ (0 ≤ sd ∧ sd < 2147483647)) ∧ (RI st rd hi f sp ps (· ∈ ks) ∧ (ks.length ≤ 4000 ∧ (isLive st = true → rc = .none)))) ∧
      ∀ (sd' : Int) (zs' : List Int) (st' : Str) (ps' : Pcs) (hi' : Int) (f' : Option Int) (rc' : D) (ks' : List Int), (0 ≤ sd' ∧ sd' < 2147483647) → RI st' rd hi' f' sp ps' (· ∈ ks') → ks'.length ≤ ks.length + 20 → (isLive st' = true → rc' = .none) → k (.d (.bool true)) (WR (.box 1 sd') (iD zs') st' ps' rd hi' f' rc' sp ks')
noncomputable def T346 : CallT := fun Vs W k _ => A1 0 Vs <| ∃ (sd : Int) (zs : List Int), (W = [.box 1 sd, iD zs] ∧ (0 ≤ sd ∧ sd < 2147483647)) ∧ ∀ (sd' : Int) (zs' : List Int) (p q r : AObj), (0 ≤ sd' ∧ sd' < 2147483647) → k (.d (.bool true)) [.box 1 sd', iD zs', p, q, r]
noncomputable def T353 : CallT := fun Vs W k _ => A2i 2 Vs fun fm => onS W fun b l st wr sn ac lo fin oe ea rc ow rest => wr ≤ 1000 ∧ ((fm = 0 → ((isOpen st = false ∨ fin = true) → k (.d (.bool true)) W) ∧ ((isOpen st = true ∧ fin = false) → k (.d (.bool false)) (b :: l :: sO st (wr + 2) sn ac lo fin oe ea rc ow :: rest))) ∧
      (fm ≠ 0 → (isOpen st = false → k (.d (.bool true)) W) ∧ (isOpen st = true → k (.d (.bool false)) (b :: l :: sO st wr sn ac lo true (if fin = true then oe else true) ea rc ow :: rest))))
noncomputable def flyD : Int → List (Int × Bool) → List D
  | _, [] => []
  | k, f :: q => .tup [.int k, .int f.1, .bool f.2] :: flyD (k + f.1) q
noncomputable def flyEnd : Int → List (Int × Bool) → Int
  | k, [] => k
  | k, f :: q => flyEnd (k + f.1) q
structure SH (i : Nat) (st : Str) (wr sn k : Int) (ac : List D) (fin oe ea : Bool) (rc : D) (fly : List (Int × Bool)) : Prop where
  ak : AkD ac k
  k0 : 0 ≤ k
  snw : sn ≤ wr
  all : ∀ f ∈ fly, 0 ≤ f.1
  fend : flyEnd k fly = sn
  wr0 : 0 ≤ wr ∧ wr ≤ 2 * i
  len : fly.length ≤ i
  ph : Ph st wr sn fin oe ea rc fly
noncomputable def WS (b l : AObj) (st : Str) (wr sn k : Int) (ac : List D) (fin oe ea : Bool) (rc : D) (fly : List (Int × Bool)) : List AObj := [b, l, sO st wr sn ac [] fin oe ea rc false, .lst (flyD k fly), hS st wr fin sn]
noncomputable def T360 : CallT := fun Vs W k _ => A3g 0 2 4 Vs <| ∃ (sd : Int) (zs : List Int) (i : Nat) (st : Str) (wr sn kk : Int) (ac : List D) (fin oe ea : Bool) (rc : D) (fly : List (Int × Bool)), ((W = WS (.box 1 sd) (iD zs) st wr sn kk ac fin oe ea rc fly ∧ (0 ≤ sd ∧ sd < 2147483647)) ∧ (SH i st wr sn kk ac fin oe ea rc fly ∧ i ≤ 20)) ∧
      ∀ (sd' : Int) (zs' : List Int) (st' : Str) (wr' sn' kk' : Int) (ac' : List D) (fin' oe' ea' : Bool) (rc' : D) (fly' : List (Int × Bool)), (0 ≤ sd' ∧ sd' < 2147483647) → SH (i + 1) st' wr' sn' kk' ac' fin' oe' ea' rc' fly' → k (.d (.bool true)) (WS (.box 1 sd') (iD zs') st' wr' sn' kk' ac' fin' oe' ea' rc' fly')

noncomputable abbrev vcFS (r : FRow) (by0 : Bool) (calls : CT) (inv : InvT) (winv : WInvT) (Vs : List V) (W : List AObj) (k : V → List AObj → Prop) : Prop :=
  vcB (vcS (mkG (fSc r.s) true by0 calls inv winv) 40 noEx) (fBd r.s) ⟨W, [], r.xs.zip Vs⟩ (fun fl s => k (retV fl) s.W)
noncomputable abbrev winv339 (W : List AObj) (rd hi : Int) (sp : Bool) (ks : List Int) : WInvT := fun _ _ => some ⟨Int, fun j => ⟨W, [], [(S "part", .g 2), (S "here", .g 4), (S "many", .d (.int j))]⟩, fun j => 0 ≤ j ∧ ∀ x, rd ≤ x → x < rd + j → x ∈ ks ∧ sp = false, fun j => (hi - rd - j).toNat⟩
noncomputable abbrev inv332 : InvT := fun l9 st => match Nat.ble 100000 l9, st.W, lk (S "offset") st.vars with
  | false, [b, l, p, .iset ks, h], some (.d (.int o)) => some ⟨Unit, List Int, [], fun _ => .none, fun ks' => ⟨[b, l, p, .iset ks', h], st.Lc, [(S "here", .g 4)]⟩, fun i ks' => (∀ x, x ∈ ks' ↔ x ∈ ks ∨ (o ≤ x ∧ x < o + (i : Nat))) ∧ ks'.length ≤ ks.length + i⟩
  | _, _, _ => none
noncomputable abbrev calls332 : CT := [(320, T320), (327, T327), (137, T137), (123, T123)]
end
noncomputable section
theorem vc320a (w sd : Int) (rest : List AObj) (k : V → List AObj → Prop) (ex : Int → List AObj → Prop) : (vcF r320 false [] noInv noWInv [.g 0, .d (.int w)] (.box 1 sd :: .lst [] :: rest) k ex) = (((-65536 : Int) ≤ (48271 : Int) ∧ (48271 : Int) ≤ (65536 : Int)) ∧ (0 : Int) < (2147483647 : Int) ∧ (1 : Int) = (1 : Int) ∧ ((0 : Int) < (97 : Int) ∧ (97 : Int) ≤ (65536 : Int)) ∧ 0 < w ∧ k (V.d (D.int (Int.fmod (Int.fdiv (Int.fmod (sd * (48271 : Int) + (11 : Int)) (2147483647 : Int)) (97 : Int)) w))) (AObj.box (1 : Nat) (Int.fmod (sd * (48271 : Int) + (11 : Int)) (2147483647 : Int)) :: AObj.lst [] :: rest)) := by kernel_rfl
theorem vc320b (w sd z : Int) (zs : List Int) (rest : List AObj) (k : V → List AObj → Prop) (ex : Int → List AObj → Prop) : (vcF r320 false [] noInv noWInv [.g 0, .d (.int w)] (.box 1 sd :: .lst (.int z :: zs.map D.int) :: rest) k ex) = (orB (decide ((0 : Int) < ↑(List.length (D.int z :: List.map D.int zs)))) ((0 : Int) = (0 : Int) ∧ (0 : Int) < w ∧ k (V.d (D.int (Int.fmod z w))) (AObj.box (1 : Nat) sd :: AObj.lst (List.map D.int zs) :: rest)) (((-65536 : Int) ≤ (48271 : Int) ∧ (48271 : Int) ≤ (65536 : Int)) ∧ (0 : Int) < (2147483647 : Int) ∧ (1 : Int) = (1 : Int) ∧ ((0 : Int) < (97 : Int) ∧ (97 : Int) ≤ (65536 : Int)) ∧ (0 : Int) < w ∧ k (V.d (D.int (Int.fmod (Int.fdiv (Int.fmod (sd * (48271 : Int) + (11 : Int)) (2147483647 : Int)) (97 : Int)) w))) (AObj.box (1 : Nat) (Int.fmod (sd * (48271 : Int) + (11 : Int)) (2147483647 : Int)) :: AObj.lst (D.int z :: List.map D.int zs) :: rest))) := by kernel_rfl
theorem vc327n (b l p hv : AObj) (hi rd en : Int) (wd : Str) (sp isf : Bool) (k : V → List AObj → Prop) (ex : Int → List AObj → Prop) : (vcF r327 false [] noInv noWInv [.g 4, .d (.int en), .d (.bool isf)] [b, l, p, hv, hR .none hi wd rd sp] k ex) = (orB isf (orB (decide (en < hi)) (k (V.d (D.int 6)) [b, l, p, hv, hR D.none hi wd rd sp]) (orB (decide (12 < en)) (k (V.d (D.int 3)) [b, l, p, hv, hR D.none hi wd rd sp]) (k (V.d D.none) [b, l, p, hv, hR D.none hi wd rd sp]))) (orB (decide (12 < en)) (k (V.d (D.int 3)) [b, l, p, hv, hR D.none hi wd rd sp]) (k (V.d D.none) [b, l, p, hv, hR D.none hi wd rd sp]))) := by kernel_rfl
theorem vc327s (b l p hv : AObj) (hi rd en f : Int) (wd : Str) (sp isf : Bool) (k : V → List AObj → Prop) (ex : Int → List AObj → Prop) : (vcF r327 false [] noInv noWInv [.g 4, .d (.int en), .d (.bool isf)] [b, l, p, hv, hR (.int f) hi wd rd sp] k ex) = (orB (decide (f < en)) (k (V.d (D.int 6)) [b, l, p, hv, hR (D.int f) hi wd rd sp]) (orB isf (orB (!decide (en = f)) (k (V.d (D.int 6)) [b, l, p, hv, hR (D.int f) hi wd rd sp]) (orB isf (orB (decide (en < hi)) (k (V.d (D.int 6)) [b, l, p, hv, hR (D.int f) hi wd rd sp]) (orB (decide (12 < en)) (k (V.d (D.int 3)) [b, l, p, hv, hR (D.int f) hi wd rd sp]) (k (V.d D.none) [b, l, p, hv, hR (D.int f) hi wd rd sp]))) (orB (decide (12 < en)) (k (V.d (D.int 3)) [b, l, p, hv, hR (D.int f) hi wd rd sp]) (k (V.d D.none) [b, l, p, hv, hR (D.int f) hi wd rd sp])))) (orB isf (orB (decide (en < hi)) (k (V.d (D.int 6)) [b, l, p, hv, hR (D.int f) hi wd rd sp]) (orB (decide (12 < en)) (k (V.d (D.int 3)) [b, l, p, hv, hR (D.int f) hi wd rd sp]) (k (V.d D.none) [b, l, p, hv, hR (D.int f) hi wd rd sp]))) (orB (decide (12 < en)) (k (V.d (D.int 3)) [b, l, p, hv, hR (D.int f) hi wd rd sp]) (k (V.d D.none) [b, l, p, hv, hR (D.int f) hi wd rd sp]))))) := by kernel_rfl
theorem vc339 (b l : AObj) (st : Str) (ps : Pcs) (rd hi : Int) (f : Option Int) (rc : D) (sp : Bool) (ks : List Int) (k : V → List AObj → Prop) (ex : Int → List AObj → Prop) : (vcF r339 false [(144, T144)] noInv (winv339 (WR b l st ps rd hi f rc sp ks) rd hi sp ks) [.g 2, .g 4] (WR b l st ps rd hi f rc sp ks) k ex) = (orB (List.any [S "reset_recvd", S "reset_read"] fun (x : Str) => x == st) ([b, l, rO st (List.map encP ps) rd hi (fD f) rc (scD sp), AObj.iset ks, hR (fD f) hi (S "reset_read") rd sp] = [b, l, rO st (List.map encP ps) rd hi (fD f) rc (scD sp), AObj.iset ks, hR (fD f) hi (S "reset_read") rd sp] ∧ ∃ (ps_1 : Pcs), ∃ (f_1 : Option Int), (List.map encP ps = List.map encP ps_1 ∧ fD f = fD f_1 ∧ 0 ≤ rd ∧ SepP rd (12 : Int) ps_1) ∧ (isRst st = true → k (V.d (D.bool (decide ((0 : Int) = (0 : Int)) && true == true))) [b, l, rO (S "reset_read") (List.map encP ps) rd hi (fD f) rc (scD sp), AObj.iset ks, hR (fD f) hi (S "reset_read") rd sp]) ∧ (isRst st = false → ∀ (st' : Str), (if st = S "data_recvd" ∧ f_1 = some (rd + ↑(Prod.fst (takeAt rd ps_1))) then st' = S "data_read" else st' = st) → k (V.d (D.bool (decide (↑(Prod.fst (takeAt rd ps_1)) = (0 : Int)) && (st' == S "data_read") == true))) [b, l, rO st' (List.map encP (Prod.snd (takeAt rd ps_1))) (rd + ↑(Prod.fst (takeAt rd ps_1))) hi (fD f) rc (scD sp), AObj.iset ks, hR (fD f) hi (S "reset_read") rd sp])) ((∃ (x : Int), (0 ≤ x ∧ ∀ (x_1 : Int), rd ≤ x_1 → x_1 < rd + x → x_1 ∈ ks ∧ sp = false) ∧ [b, l, rO st (List.map encP ps) rd hi (fD f) rc (scD sp), AObj.iset ks, hR (fD f) hi st rd sp] = [b, l, rO st (List.map encP ps) rd hi (fD f) rc (scD sp), AObj.iset ks, hR (fD f) hi st rd sp] ∧ @List.nil (Option (List D)) = [] ∧ some (V.g (2 : Nat)) = some (V.g (2 : Nat)) ∧ some (V.g (4 : Nat)) = some (V.g (4 : Nat)) ∧ some (V.d (D.int (0 : Int))) = some (V.d (D.int x)) ∧ True) ∧ ∀ (x : Int), (0 ≤ x ∧ ∀ (x_1 : Int), rd ≤ x_1 → x_1 < rd + x → x_1 ∈ ks ∧ sp = false) → orB (!sp) (orB (decide (rd + x ∈ ks)) (∃ (y : Int), ((0 ≤ y ∧ ∀ (x : Int), rd ≤ x → x < rd + y → x ∈ ks ∧ sp = false) ∧ Int.toNat (hi - rd - y) < Int.toNat (hi - rd - x)) ∧ [b, l, rO st (List.map encP ps) rd hi (fD f) rc (scD sp), AObj.iset ks, hR (fD f) hi st rd sp] = [b, l, rO st (List.map encP ps) rd hi (fD f) rc (scD sp), AObj.iset ks, hR (fD f) hi st rd sp] ∧ @List.nil (Option (List D)) = [] ∧ some (V.g (2 : Nat)) = some (V.g (2 : Nat)) ∧ some (V.g (4 : Nat)) = some (V.g (4 : Nat)) ∧ some (V.d (D.int (x + (1 : Int)))) = some (V.d (D.int y)) ∧ True) (orB (st == S "data_recvd") ([b, l, rO st (List.map encP ps) rd hi (fD f) rc (scD sp), AObj.iset ks, hR (fD f) hi (S "data_read") (rd + x) sp] = [b, l, rO st (List.map encP ps) rd hi (fD f) rc (scD sp), AObj.iset ks, hR (fD f) hi (S "data_read") (rd + x) sp] ∧ ∃ (ps_1 : Pcs), ∃ (f_1 : Option Int), (List.map encP ps = List.map encP ps_1 ∧ fD f = fD f_1 ∧ 0 ≤ rd ∧ SepP rd (12 : Int) ps_1) ∧ (isRst st = true → ((1 : Int) = (1 : Int) ∧ 0 ≤ x ∧ x ≤
(4096 : Int)) ∧ k (V.d (D.bool (decide (0 = x) && true == (S "data_read" == S "data_read")))) [b, l, rO (S "reset_read") (List.map encP ps) rd hi (fD f) rc (scD sp), AObj.iset ks, hR (fD f) hi (S "data_read") (rd + x) sp]) ∧ (isRst st = false → ∀ (st' : Str), (if st = S "data_recvd" ∧ f_1 = some (rd + ↑(Prod.fst (takeAt rd ps_1))) then st' = S "data_read" else st' = st) → ((1 : Int) = (1 : Int) ∧ 0 ≤ x ∧ x ≤ (4096 : Int)) ∧ k (V.d (D.bool (decide (↑(Prod.fst (takeAt rd ps_1)) = x) && (st' == S "data_read") == (S "data_read" == S "data_read")))) [b, l, rO st' (List.map encP (Prod.snd (takeAt rd ps_1))) (rd + ↑(Prod.fst (takeAt rd ps_1))) hi (fD f) rc (scD sp), AObj.iset ks, hR (fD f) hi (S "data_read") (rd + x) sp])) ([b, l, rO st (List.map encP ps) rd hi (fD f) rc (scD sp), AObj.iset ks, hR (fD f) hi st (rd + x) sp] = [b, l, rO st (List.map encP ps) rd hi (fD f) rc (scD sp), AObj.iset ks, hR (fD f) hi st (rd + x) sp] ∧ ∃ (ps_1 : Pcs), ∃ (f_1 : Option Int), (List.map encP ps = List.map encP ps_1 ∧ fD f = fD f_1 ∧ 0 ≤ rd ∧ SepP rd (12 : Int) ps_1) ∧ (isRst st = true → ((1 : Int) = (1 : Int) ∧ 0 ≤ x ∧ x ≤ (4096 : Int)) ∧ k (V.d (D.bool (decide (0 = x) && true == (st == S "data_read")))) [b, l, rO (S "reset_read") (List.map encP ps) rd hi (fD f) rc (scD sp), AObj.iset ks, hR (fD f) hi st (rd + x) sp]) ∧ (isRst st = false → ∀ (st' : Str), (if st = S "data_recvd" ∧ f_1 = some (rd + ↑(Prod.fst (takeAt rd ps_1))) then st' = S "data_read" else st' = st) → ((1 : Int) = (1 : Int) ∧ 0 ≤ x ∧ x ≤ (4096 : Int)) ∧ k (V.d (D.bool (decide (↑(Prod.fst (takeAt rd ps_1)) = x) && (st' == S "data_read") == (st == S "data_read")))) [b, l, rO st' (List.map encP (Prod.snd (takeAt rd ps_1))) (rd + ↑(Prod.fst (takeAt rd ps_1))) hi (fD f) rc (scD sp), AObj.iset ks, hR (fD f) hi st (rd + x) sp])))) (orB (st == S "data_recvd") ([b, l, rO st (List.map encP ps) rd hi (fD f) rc (scD sp), AObj.iset ks, hR (fD f) hi (S "data_read") (rd + x) sp] = [b, l, rO st (List.map encP ps) rd hi (fD f) rc (scD sp), AObj.iset ks, hR (fD f) hi (S "data_read") (rd + x) sp] ∧ ∃ (ps_1 : Pcs), ∃ (f_1 : Option Int), (List.map encP ps = List.map encP ps_1 ∧ fD f = fD f_1 ∧ 0 ≤ rd ∧ SepP rd (12 : Int) ps_1) ∧ (isRst st = true → ((1 : Int) = (1 : Int) ∧ 0 ≤ x ∧ x ≤ (4096 : Int)) ∧ k (V.d (D.bool (decide (0 = x) && true == (S "data_read" == S "data_read")))) [b, l, rO (S "reset_read") (List.map encP ps) rd hi (fD f) rc (scD sp), AObj.iset ks, hR (fD f) hi (S "data_read") (rd + x) sp]) ∧ (isRst st = false → ∀ (st' : Str), (if st = S "data_recvd" ∧ f_1 = some (rd + ↑(Prod.fst (takeAt rd ps_1))) then st' = S "data_read" else st' = st) → ((1 : Int) = (1 : Int) ∧ 0 ≤ x ∧ x ≤ (4096 : Int)) ∧ k (V.d (D.bool (decide (↑(Prod.fst (takeAt rd ps_1)) = x) && (st' == S "data_read") == (S "data_read" == S "data_read")))) [b, l, rO st' (List.map encP (Prod.snd (takeAt rd ps_1))) (rd + ↑(Prod.fst (takeAt rd ps_1))) hi (fD f) rc (scD sp),
AObj.iset ks, hR (fD f) hi (S "data_read") (rd + x) sp])) ([b, l, rO st (List.map encP ps) rd hi (fD f) rc (scD sp), AObj.iset ks, hR (fD f) hi st (rd + x) sp] = [b, l, rO st (List.map encP ps) rd hi (fD f) rc (scD sp), AObj.iset ks, hR (fD f) hi st (rd + x) sp] ∧ ∃ (ps_1 : Pcs), ∃ (f_1 : Option Int), (List.map encP ps = List.map encP ps_1 ∧ fD f = fD f_1 ∧ 0 ≤ rd ∧ SepP rd (12 : Int) ps_1) ∧ (isRst st = true → ((1 : Int) = (1 : Int) ∧ 0 ≤ x ∧ x ≤ (4096 : Int)) ∧ k (V.d (D.bool (decide (0 = x) && true == (st == S "data_read")))) [b, l, rO (S "reset_read") (List.map encP ps) rd hi (fD f) rc (scD sp), AObj.iset ks, hR (fD f) hi st (rd + x) sp]) ∧ (isRst st = false → ∀ (st' : Str), (if st = S "data_recvd" ∧ f_1 = some (rd + ↑(Prod.fst (takeAt rd ps_1))) then st' = S "data_read" else st' = st) → ((1 : Int) = (1 : Int) ∧ 0 ≤ x ∧ x ≤ (4096 : Int)) ∧ k (V.d (D.bool (decide (↑(Prod.fst (takeAt rd ps_1)) = x) && (st' == S "data_read") == (st == S "data_read")))) [b, l, rO st' (List.map encP (Prod.snd (takeAt rd ps_1))) (rd + ↑(Prod.fst (takeAt rd ps_1))) hi (fD f) rc (scD sp), AObj.iset ks, hR (fD f) hi st (rd + x) sp]))))) := by kernel_rfl
theorem vc353 (b l : AObj) (st : Str) (wr sn : Int) (ac lo : List D) (fin oe ea ow : Bool) (rc : D) (rest : List AObj) (fm : Int) (k : V → List AObj → Prop) : (vcFS r353 false [(201, T201), (208, T208)] noInv noWInv [.g 2, .d (.int fm)] (b :: l :: sO st wr sn ac lo fin oe ea rc ow :: rest) k) = (orB (decide (fm = 0)) (b :: l :: sO st wr sn ac lo fin oe ea rc ow :: rest = b :: l :: sO st wr sn ac lo fin oe ea rc ow :: rest ∧ wr ≤ 1000 ∧ (isOpen st = false ∨ fin = true → k (V.d (D.bool (decide (5 = 5)))) (b :: l :: sO st wr sn ac lo fin oe ea rc ow :: rest)) ∧ (isOpen st = true ∧ fin = false → k (V.d (D.bool false)) (b :: l :: sO st (wr + 2) sn ac lo fin oe ea rc ow :: rest))) (b :: l :: sO st wr sn ac lo fin oe ea rc ow :: rest = b :: l :: sO st wr sn ac lo fin oe ea rc ow :: rest ∧ (isOpen st = false → k (V.d (D.bool (decide (5 = 5)))) (b :: l :: sO st wr sn ac lo fin oe ea rc ow :: rest)) ∧ (isOpen st = true ∧ fin = true → k (V.d (D.bool false)) (b :: l :: sO st wr sn ac lo fin oe ea rc ow :: rest)) ∧ (isOpen st = true ∧ fin = false → k (V.d (D.bool false)) (b :: l :: sO st wr sn ac lo true true ea rc ow :: rest)))) := by kernel_rfl
end
noncomputable section
theorem fmod_in {a w : Int} (h : 0 < w) : 0 ≤ Int.fmod a w ∧ Int.fmod a w < w := by
  rw [Int.fmod_eq_emod_of_nonneg a (by omega)]
  exact ⟨Int.emod_nonneg a (by omega), Int.emod_lt_of_pos a h⟩
theorem f320 : FnOk 320 T320 1 := fn_ok r320 (row_at 31 rfl) 0 40 false [] (by kernel_rfl) (bind2 rfl fun _ _ => by kernel_rfl) noCalls fun Vs W k ex h0 => by
  refine A2i_go h0 fun w e1 z0 => onB_go z0 fun sd ds rest e9 q => ?_
  clear z0 h0
  subst e1
  · obtain ⟨zs, ⟨rfl, hw, h0, h1⟩, hk⟩ := q
    subst e9
    refine ⟨rfl, noInv, noWInv, ?_⟩
    cases zs with
    | nil => exact (vc320a ..).mpr ⟨by decide, by decide, by decide, by decide, hw, hk _ _ [] ⟨fmod_in hw, fmod_in (by decide)⟩⟩
    | cons z zs =>
      exact (vc320b ..).mpr (orD (fun _ => ⟨rfl, hw, hk _ _ zs ⟨fmod_in hw, h0, h1⟩⟩) fun q => absurd (by rw [List.length_cons]; omega) q)
theorem f327 : FnOk 327 T327 1 := fn_ok r327 (row_at 32 rfl) 0 40 false [] (by kernel_rfl) (bind3 rfl fun _ _ _ => by kernel_rfl) noCalls fun Vs W k ex h0 => by
  refine A3d_go h0 fun x y e1 z0 => iOf_go z0 fun en e5 z1 => bOf_go z1 fun isf e6 z2 => onH_go z2 fun b l p hv fi hi wd rd sp e9 q => ?_
  clear z2 z1 z0 h0
  subst e1 e5 e6
  · obtain ⟨f, rfl, h1, h2⟩ := q
    subst e9
    refine ⟨rfl, noInv, noWInv, ?_⟩
    cases f with
    | none =>
      refine (vc327n ..).mpr (orB_i (fun e => orD (fun e2 => h2 6 ?_) fun e2 => orD (fun e3 => h2 3 ?_) fun e3 => h1 ?_) fun e => orD (fun e3 => h2 3 ?_) fun e3 => h1 ?_)
      all_goals (unfold dueOf badFin; simp [e, *])
    | some f =>
      refine (vc327s ..).mpr (orD (fun e0 => h2 6 ?_) fun e0 => orB_i (fun e => orND (fun e1 => h2 6 ?_) fun e1 => orB_i (fun _ => orD (fun e2 => h2 6 ?_) fun e2 => orD (fun e3 => h2 3 ?_) fun e3 => h1 ?_) fun e9 => by rw [e] at e9; cases e9) fun e => orB_i (fun e9 => by rw [e] at e9; cases e9) fun _ => orD (fun e3 => h2 3 ?_) fun e3 => h1 ?_)
      all_goals (unfold dueOf badFin; (try subst e1); simp [e0, *] <;> omega)
theorem f353 : FnOkS 353 T353 2 := fnS_ok r353 (row_at 36 rfl) 1 40 false [(201, T201), (208, T208)] [] (by kernel_rfl) (by decide +kernel) (fun L' => .inl (by kernel_rfl)) (bind2 rfl fun _ _ => by kernel_rfl) (fun p hp => by
    simp only [List.mem_cons, List.not_mem_nil, or_false] at hp
    rcases hp with rfl | rfl
    · exact f201
    · exact f208) (fun _ h => nomatch h) fun Vs W k ex h0 => by
  refine A2i_go h0 fun fm e1 z0 => onS_go z0 fun b l st wr sn ac lo fin oe ea rc ow rest e9 q => ?_
  clear z0 h0
  subst e1
  · obtain ⟨hw, h1, h2⟩ := q
    subst e9
    refine ⟨rfl, noInv, noWInv, (vc353 ..).mpr (orD (fun e => ⟨rfl, hw, fun q => (h1 e).1 q, fun q => (h1 e).2 q⟩) fun e => ⟨rfl, fun q => (h2 e).1 q, fun q => ?_, fun q => ?_⟩)⟩
    · have := (h2 e).2 q.1
      rw [q.2] at this ⊢; exact this
    · have := (h2 e).2 q.1
      rw [q.2] at this; exact this
theorem f339 : FnOk 339 T339 3 := fn_ok r339 (row_at 34 rfl) 2 40 false [(144, T144)] (by kernel_rfl) (bind2 rfl fun _ _ => by kernel_rfl) (fun p hp => by
    rw [List.mem_singleton] at hp
    rw [hp]; exact f144) fun Vs W k ex h0 => by
  refine A2g_go h0 fun e1 h => ?_
  clear h0
  subst e1
  · obtain ⟨b, l, st, ps, rd, hi, f, rc, sp, ks, ⟨rfl, I⟩, hk⟩ := h
    have h12 := I.hi12
    have hrh := I.rdhi
    have hr0 := I.rd0
    refine ⟨rfl, noInv, winv339 (WR b l st ps rd hi f rc sp ks) rd hi sp ks, (vc339 ..).mpr (orB_i (fun e => ?_) fun e => ?_)⟩
    · have e : isRst st = true := e
      exact ⟨rfl, ps, f, ⟨rfl, rfl, I.rd0, I.sep⟩, fun _ => hk _ _ _ I.rst (fun q => absurd q (by decide)), fun q => Bool.noConfusion (e.symm.trans q)⟩
    · have e : isRst st = false := e
      refine ⟨⟨0, ⟨Int.le_refl _, fun x h1 h2 => by omega⟩, rfl, rfl, rfl, rfl, rfl, trivial⟩, fun x ⟨hx0, hx⟩ => ?_⟩
      have hxle : rd + x ≤ hi := by
        by_cases z : x = 0
        · omega
        · have := (I.lt _ (hx (rd + x - 1) (by omega) (by lia)).1).2; omega
      have stop : (sp = true ∨ ¬ (rd + x) ∈ ks) → ((takeAt rd ps).1 : Int) = x := fun q => I.take e hx0 hx q
      have fin1 : (sp = true ∨ ¬ (rd + x) ∈ ks) → st = S "data_recvd" → ∀ st' : Str, (if st = S "data_recvd" ∧ f = some (rd + ↑(takeAt rd ps).1) then st' = S "data_read" else st' = st) →
          k (V.d (D.bool (decide (↑(takeAt rd ps).1 = x) && (st' == S "data_read") == (S "data_read" == S "data_read")))) [b, l, rO st' ((takeAt rd ps).2.map encP) (rd + ↑(takeAt rd ps).1) hi (fD f) rc (scD sp), .iset ks, hR (fD f) hi (S "data_read") (rd + x) sp] := fun q hs st' hst => by
        have ex := stop q
        subst hs
        obtain ⟨f', hf, h2, h3⟩ := I.readEnd
        subst hf
        rw [if_pos ⟨rfl, congrArg some h2.symm⟩] at hst
        subst hst
        have := hk _ _ _ h3 (fun q => absurd q (by decide))
        rw [decide_eq_true ex, ← ex, h2]
        rw [show (true && (S "data_read" == S "data_read") == (S "data_read" == S "data_read")) = true by simp]
        exact this
      have fin2 : (sp = true ∨ ¬ (rd + x) ∈ ks) → st ≠ S "data_recvd" → ∀ st' : Str, (if st = S "data_recvd" ∧ f = some (rd + ↑(takeAt rd ps).1) then st' = S "data_read" else st' = st) →
          k (V.d (D.bool (decide (↑(takeAt rd ps).1 = x) && (st' == S "data_read") == (st == S "data_read")))) [b, l, rO st' ((takeAt rd ps).2.map encP) (rd + ↑(takeAt rd ps).1) hi (fD f) rc (scD sp), .iset ks, hR (fD f) hi st (rd + x) sp] := fun q hs st' hst => by
        have ex := stop q
        rw [if_neg fun q => hs q.1] at hst
        subst hst
        have := hk _ _ _ (I.read e (by rw [beq_eq_false_iff_ne]; exact hs)) (fun _ => rfl)
        rw [decide_eq_true ex, ← ex]
        rw [show (true && (st' == S "data_read") == (st' == S "data_read")) = true by simp]
        exact this
      refine orN (fun hs => orD (fun hm => ?_) fun hm => ?_) fun hs => ?_
      · have := (I.lt _ hm).2
        exact ⟨x + 1, ⟨⟨by omega, fun y h1 h2 => by
          by_cases z : y = rd + x
          · rw [z]; exact ⟨hm, hs⟩
          · exact hx y h1 (by omega)⟩, by omega⟩, rfl, rfl, rfl, rfl, rfl, trivial⟩
      · exact orS (fun e1 => ⟨rfl, ps, f, ⟨rfl, rfl, I.rd0, I.sep⟩, fun q' => Bool.noConfusion (e.symm.trans q'), fun _ st' hst => ⟨⟨rfl, hx0, by omega⟩, fin1 (.inr hm) e1 st' hst⟩⟩) fun e1 => ⟨rfl, ps, f, ⟨rfl, rfl, I.rd0, I.sep⟩, fun q' => Bool.noConfusion (e.symm.trans q'), fun _ st' hst => ⟨⟨rfl, hx0, by omega⟩, fin2 (.inr hm) e1 st' hst⟩⟩
      · exact orS (fun e1 => ⟨rfl, ps, f, ⟨rfl, rfl, I.rd0, I.sep⟩, fun q' => Bool.noConfusion (e.symm.trans q'), fun _ st' hst => ⟨⟨rfl, hx0, by omega⟩, fin1 (.inl hs) e1 st' hst⟩⟩) fun e1 => ⟨rfl, ps, f, ⟨rfl, rfl, I.rd0, I.sep⟩, fun q' => Bool.noConfusion (e.symm.trans q'), fun _ st' hst => ⟨⟨rfl, hx0, by omega⟩, fin2 (.inl hs) e1 st' hst⟩⟩
end
noncomputable section
noncomputable abbrev WQ (sd : Int) (zs : List Int) (st : Str) (ps : Pcs) (rd hi : Int) (fi rc : D) (sp : Bool) (ks : List Int) (fi2 : D) (hi2 : Int) (st2 : Str) (rd2 : Int) : List AObj := [.box 1 sd, iD zs, rO st (ps.map encP) rd hi fi rc (scD sp), .iset ks, hR fi2 hi2 st2 rd2 sp]
noncomputable def comeD (st : Str) (sd : Int) (zs : List Int) (ps : Pcs) (rd hi : Int) (f : Option Int) (rc : D) (sp : Bool) (ks : List Int) (k : V → List AObj → Prop) : Prop :=
∃ (zs_1 : List Int), (List.map D.int zs = List.map D.int zs_1 ∧ (0 : Int) < (4 : Int) ∧ (0 : Int) ≤ sd ∧ sd < (2147483647 : Int)) ∧ ∀ (r sd' : Int) (zs' : List Int), ((0 : Int) ≤ r ∧ r < (4 : Int)) ∧ (0 : Int) ≤ sd' ∧ sd' < (2147483647 : Int) → ∃ (zs : List Int), (List.map D.int zs' = List.map D.int zs ∧ (0 : Int) < (14 : Int) ∧ (0 : Int) ≤ sd' ∧ sd' < (2147483647 : Int)) ∧ ∀ (r_1 sd' : Int) (zs' : List Int), ((0 : Int) ≤ r_1 ∧ r_1 < (14 : Int)) ∧ (0 : Int) ≤ sd' ∧ sd' < (2147483647 : Int) → orB (decide (r = (3 : Int))) (∃ (zs : List Int), (List.map D.int zs' = List.map D.int zs ∧ (0 : Int) < (6 : Int) ∧ (0 : Int) ≤ sd' ∧ sd' < (2147483647 : Int)) ∧ ∀ (r sd' : Int) (zs' : List Int), ((0 : Int) ≤ r ∧ r < (6 : Int)) ∧ (0 : Int) ≤ sd' ∧ sd' < (2147483647 : Int) → (WR (.box 1 sd') (iD zs') st ps rd hi f rc sp ks) = (WR (.box 1 sd') (iD zs') st ps rd hi f rc sp ks) ∧ ∃ (f_1 : Option Int), fD f = fD f_1 ∧ (dueOf f_1 hi r_1 true = none → (WR (.box 1 sd') (iD zs') st ps rd hi f rc sp ks) = (WR (.box 1 sd') (iD zs') st ps rd hi f rc sp ks) ∧ ∃ (f_2 : Option Int), fD f = fD f_2 ∧ (∀ (c : Int), dueOf f_2 hi r_1 true = some c → k (V.d (D.bool false)) (WR (.box 1 sd') (iD zs') st ps rd hi f rc sp ks)) ∧ (dueOf f_2 hi r_1 true = none → orB (!decide (max (0 : Int) (r_1 - hi) = max (0 : Int) (r_1 - hi)))
(k (V.d (D.bool false)) (WQ sd' zs' st ps rd (hi + max (0 : Int) (r_1 - hi)) (D.int r_1) rc sp ks (fD f) hi st rd)) (k (V.d (D.bool true)) (WR (.box 1 sd') (iD zs') st ps rd (hi + max (0 : Int) (r_1 - hi)) (some r_1) rc sp ks)))) ∧ ∀ (c : Int), dueOf f_1 hi r_1 true = some c → (WR (.box 1 sd') (iD zs') st ps rd hi f rc sp ks) = (WR (.box 1 sd') (iD zs') st ps rd hi f rc sp ks) ∧ ∃ (f_2 : Option Int), fD f = fD f_2 ∧ (∀ (c_1 : Int), dueOf f_2 hi r_1 true = some c_1 → k (V.d (D.bool
(decide (c_1 = c)))) (WR (.box 1 sd') (iD zs') st ps rd hi f rc sp ks)) ∧ (dueOf f_2 hi r_1 true = none → k (V.d (D.bool false)) (WQ sd' zs' st ps rd (hi + max (0 : Int) (r_1 - hi)) (D.int r_1) rc sp ks (fD f) hi st rd))) (∃ (zs : List Int), (List.map D.int zs' = List.map D.int zs ∧ (0 : Int) < (6 : Int) ∧ (0 : Int) ≤ sd' ∧ sd' < (2147483647 : Int)) ∧ ∀ (r sd' : Int) (zs' : List Int), ((0 : Int) ≤ r ∧ r < (6 : Int)) ∧ (0 : Int) ≤ sd' ∧ sd' < (2147483647 : Int) → ∃ (zs : List Int), (List.map D.int zs' = List.map D.int zs ∧ (0 : Int) < (3 : Int) ∧ (0 : Int) ≤ sd' ∧ sd' < (2147483647 : Int)) ∧ ∀ (r_2 sd' : Int) (zs' : List Int), ((0 : Int) ≤ r_2 ∧ r_2 < (3 : Int)) ∧ (0 : Int) ≤ sd' ∧ sd' < (2147483647 :
Int) → orB (decide (r_2 = (0 : Int))) ((WR (.box 1 sd') (iD zs') st ps rd hi f rc sp ks) = (WR (.box 1 sd') (iD zs') st ps rd hi f rc sp ks) ∧ ∃ (f_1 : Option Int), fD f = fD f_1 ∧ (dueOf f_1 hi r_1 true = none → ((1 : Int) = (1 : Int) ∧ (0 : Int) ≤ r_1 - max (0 : Int) (r_1 - r) ∧ r_1 - max (0 : Int) (r_1 - r) ≤ (4096 : Int)) ∧ (WR (.box 1 sd') (iD zs') st ps rd hi f rc sp ks) = (WR (.box 1 sd') (iD zs') st ps rd hi f rc sp ks) ∧ ∃ (ps_1 : Pcs), ∃ (f_2 : Option Int), ∃ (sp_1 : Bool), ∃ (m : Nat),
(List.map encP ps = List.map encP ps_1 ∧ fD f = fD f_2 ∧ scD sp = scD sp_1 ∧ r_1 - max (0 : Int) (r_1 - r) = ↑m ∧ (0 : Int) ≤ rd ∧ (0 : Int) ≤ max (0 : Int) (r_1 - r) ∧ SepP rd (12 : Int) ps_1) ∧ (∀ (c : Int), dueOf f_2 hi (max (0 : Int) (r_1 - r) + ↑m) true = some c → k (V.d (D.bool false)) (WR (.box 1 sd') (iD zs') st ps rd hi f rc sp ks)) ∧ (dueOf f_2 hi (max (0 : Int) (r_1 - r) + ↑m) true = none → orB (!decide (max (0 : Int) (max (0 : Int) (r_1 - r) + ↑m - hi) = max (0 : Int) (r_1 - hi))) (k (V.d (D.bool false)) (WQ sd' zs' st ps rd (hi + max (0 : Int) (max (0 : Int) (r_1 - r) + ↑m - hi)) (D.int (max (0 : Int) (r_1 - r) + ↑m)) rc sp ks (fD f) hi st rd)) (k (V.d (D.bool true)) (WQ sd' zs' st ps rd (hi + max (0 : Int) (max (0 : Int) (r_1 - r) + ↑m - hi)) (D.int (max (0 : Int) (r_1 - r) + ↑m)) rc sp ks (D.int r_1) (hi + max (0 : Int) (r_1 - hi)) st rd)))) ∧ ∀ (c : Int), dueOf f_1 hi r_1 true = some c → ((1 : Int) = (1 : Int) ∧ (0 : Int) ≤ r_1 - max (0 : Int) (r_1 - r) ∧ r_1 - max (0 : Int) (r_1 - r) ≤ (4096 : Int)) ∧ (WR (.box 1 sd') (iD zs') st ps rd hi f rc sp ks) = (WR (.box 1 sd') (iD zs') st ps rd hi f rc sp ks) ∧ ∃ (ps_1 : Pcs), ∃ (f_2 : Option Int), ∃ (sp_1 : Bool), ∃ (m : Nat), (List.map encP ps = List.map encP ps_1 ∧ fD f = fD f_2 ∧ scD sp = scD sp_1 ∧ r_1 - max (0 : Int) (r_1 - r) = ↑m ∧ (0
: Int) ≤ rd ∧ (0 : Int) ≤ max (0 : Int) (r_1 - r) ∧ SepP rd (12 : Int) ps_1) ∧ (∀ (c_1 : Int), dueOf f_2 hi (max (0 : Int) (r_1 - r) + ↑m) true = some c_1 → k (V.d (D.bool (decide (c_1 = c)))) (WR (.box 1 sd') (iD zs') st ps rd hi f rc sp ks)) ∧ (dueOf f_2 hi (max (0 : Int) (r_1 - r) + ↑m) true = none → k (V.d (D.bool false)) (WQ sd' zs' st ps rd (hi + max (0 : Int) (max (0 : Int) (r_1 - r) + ↑m - hi)) (D.int (max (0 : Int) (r_1 - r) + ↑m)) rc sp ks (fD f) hi st rd))) ((WR (.box 1 sd') (iD zs') st ps rd hi f rc sp ks) = (WR (.box 1 sd') (iD zs') st ps rd hi f rc sp ks) ∧ ∃ (f_1 : Option Int), fD f = fD f_1 ∧ (dueOf f_1 hi r_1 false = none → ((1 : Int) = (1 : Int) ∧ (0 : Int) ≤ r_1 - max (0 : Int) (r_1 - r) ∧ r_1 - max (0 : Int) (r_1 - r) ≤ (4096 : Int)) ∧ (WR (.box 1 sd') (iD zs') st ps rd hi f rc sp ks) = (WR (.box 1 sd') (iD zs') st ps rd hi f rc sp ks) ∧ ∃ (ps_1 : Pcs), ∃ (f_2 : Option Int), ∃ (sp_1 : Bool), ∃ (m : Nat), (List.map encP ps = List.map encP ps_1 ∧ fD f = fD f_2 ∧ scD sp = scD sp_1 ∧ r_1 - max (0 : Int) (r_1 - r) = ↑m ∧ (0 : Int) ≤ rd ∧ (0 : Int) ≤ max (0 : Int) (r_1 - r) ∧ SepP rd (12 : Int) ps_1) ∧ (∀ (c : Int), dueOf f_2 hi (max (0 : Int) (r_1 - r) + ↑m) false = some c → k (V.d
(D.bool false)) (WR (.box 1 sd') (iD zs') st ps rd hi f rc sp ks)) ∧ (dueOf f_2 hi (max (0 : Int) (r_1 - r) + ↑m) false = none → orB (!decide (max (0 : Int) (max (0 : Int) (r_1 - r) + ↑m - hi) = max (0 : Int) (r_1 - hi))) (k (V.d (D.bool false)) (WQ sd' zs' st ps rd (hi + max (0 : Int) (max (0 : Int) (r_1 - r) + ↑m - hi)) (fD (if false = true then some (max (0 : Int) (r_1 - r) + ↑m) else f_2)) rc sp ks (fD f) hi st rd)) (k (V.d (D.bool true)) (WQ sd' zs' st ps rd (hi + max (0 : Int) (max (0 : Int) (r_1 - r) + ↑m - hi)) (fD (if false = true then some (max (0 : Int) (r_1 - r) + ↑m) else f_2)) rc sp ks (fD f) (hi + max (0 : Int) (r_1 - hi)) st rd)))) ∧ ∀ (c : Int), dueOf f_1 hi r_1 false = some c → ((1 : Int) = (1 : Int) ∧ (0 : Int) ≤ r_1 - max (0 : Int) (r_1 - r) ∧ r_1 - max (0 : Int) (r_1 - r) ≤ (4096 : Int)) ∧ (WR (.box 1 sd') (iD zs') st ps rd hi f rc sp ks) = (WR (.box 1 sd') (iD zs') st ps rd hi f rc sp ks) ∧ ∃ (ps_1 : Pcs), ∃ (f_2 : Option Int), ∃ (sp_1 : Bool), ∃ (m : Nat), (List.map encP ps = List.map encP ps_1 ∧ fD f = fD f_2 ∧ scD sp = scD sp_1 ∧ r_1 - max (0 : Int) (r_1 - r) = ↑m ∧ (0 : Int) ≤ rd ∧ (0 : Int) ≤ max (0 : Int) (r_1 - r) ∧ SepP rd (12 : Int) ps_1) ∧ (∀ (c_1 : Int), dueOf f_2 hi (max (0 : Int) (r_1 - r) + ↑m) false = some c_1 → k (V.d (D.bool (decide (c_1 = c)))) [AObj.box (1 :
Nat) sd', AObj.lst (List.map D.int zs'), rO (st) (List.map encP ps) rd hi (fD f) rc (scD sp), AObj.iset ks, hR (fD f) hi (st) rd sp]) ∧ (dueOf f_2 hi (max (0 : Int) (r_1 - r) + ↑m) false = none → k (V.d (D.bool false)) (WQ sd' zs' st ps rd (hi + max (0 : Int) (max (0 : Int) (r_1 - r) + ↑m - hi)) (fD (if false = true then some (max (0 : Int) (r_1 - r) + ↑m) else f_2)) rc sp ks (fD f) hi st rd))))
theorem vc332a (sd : Int) (zs : List Int) (ps : Pcs) (rd hi : Int) (f : Option Int) (rc : D) (sp : Bool) (ks : List Int) (k : V → List AObj → Prop) : (vcFS r332 false calls332 inv332 noWInv [.g 0, .g 2, .g 4] (WR (.box 1 sd) (iD zs) (S "data_recvd") ps rd hi f rc sp ks) k) = comeD (S "data_recvd") sd zs ps rd hi f rc sp ks k := by kernel_rfl
theorem vc332b (sd : Int) (zs : List Int) (ps : Pcs) (rd hi : Int) (f : Option Int) (rc : D) (sp : Bool) (ks : List Int) (k : V → List AObj → Prop) : (vcFS r332 false calls332 inv332 noWInv [.g 0, .g 2, .g 4] (WR (.box 1 sd) (iD zs) (S "data_read") ps rd hi f rc sp ks) k) = comeD (S "data_read") sd zs ps rd hi f rc sp ks k := by kernel_rfl
theorem vc332c (sd : Int) (zs : List Int) (ps : Pcs) (rd hi : Int) (f : Option Int) (rc : D) (sp : Bool) (ks : List Int) (k : V → List AObj → Prop) : (vcFS r332 false calls332 inv332 noWInv [.g 0, .g 2, .g 4] (WR (.box 1 sd) (iD zs) (S "reset_recvd") ps rd hi f rc sp ks) k) = comeD (S "reset_recvd") sd zs ps rd hi f rc sp ks k := by kernel_rfl
theorem vc332d (sd : Int) (zs : List Int) (ps : Pcs) (rd hi : Int) (f : Option Int) (rc : D) (sp : Bool) (ks : List Int) (k : V → List AObj → Prop) : (vcFS r332 false calls332 inv332 noWInv [.g 0, .g 2, .g 4] (WR (.box 1 sd) (iD zs) (S "reset_read") ps rd hi f rc sp ks) k) = comeD (S "reset_read") sd zs ps rd hi f rc sp ks k := by kernel_rfl
noncomputable def comeN (st : Str) (sd : Int) (zs : List Int) (ps : Pcs) (rd hi : Int) (sp : Bool) (ks : List Int) (k : V → List AObj → Prop) : Prop :=
∃ (zs_1 : List Int), (List.map D.int zs = List.map D.int zs_1 ∧ (0 : Int) < (4 : Int) ∧ (0 : Int) ≤ sd ∧ sd < (2147483647 : Int)) ∧ ∀ (r sd' : Int) (zs' : List Int), ((0 : Int) ≤ r ∧ r < (4 : Int)) ∧ (0 : Int) ≤ sd' ∧ sd' < (2147483647 : Int) → ∃ (zs : List Int), (List.map D.int zs' = List.map D.int zs ∧ (0 : Int) < (14 : Int) ∧ (0 : Int) ≤ sd' ∧ sd' < (2147483647 : Int)) ∧ ∀ (r_1 sd' : Int) (zs' : List Int), ((0 : Int) ≤ r_1 ∧ r_1 < (14 : Int)) ∧ (0 : Int) ≤ sd' ∧ sd' < (2147483647 : Int) → orB (decide (r = (3 : Int))) (∃ (zs : List Int), (List.map D.int zs' = List.map D.int zs ∧ (0 : Int) < (6 : Int) ∧ (0 : Int) ≤ sd' ∧ sd' < (2147483647 : Int)) ∧ ∀ (r sd' : Int) (zs' : List Int), ((0 : Int) ≤ r ∧ r < (6 : Int)) ∧ (0 : Int) ≤ sd' ∧ sd' < (2147483647 : Int) → (WR (.box 1 sd') (iD zs') st ps rd hi none D.none sp ks) = (WR (.box 1 sd') (iD zs') st ps rd hi none D.none sp ks) ∧ ∃ (f : Option Int), D.none = fD f ∧ (dueOf f hi r_1 true = none → (WR (.box 1 sd') (iD zs') st ps rd hi none D.none sp ks) = (WR (.box 1 sd') (iD zs') st ps rd hi none D.none sp ks) ∧ ∃ (f : Option Int), D.none = fD f ∧ (∀ (c : Int), dueOf f hi r_1 true = some c → k (V.d (D.bool false)) (WR (.box 1 sd') (iD zs') st ps rd hi none D.none sp ks)) ∧ (dueOf f hi r_1 true = none → orB (!decide (max (0 : Int) (r_1 - hi) = max (0 : Int) (r_1
- hi))) (k (V.d (D.bool false)) [AObj.box (1 : Nat) sd', AObj.lst (List.map D.int zs'), rO (S "reset_recvd") [] rd (hi + max (0 : Int) (r_1 - hi)) (D.int r_1) (D.int (7 : Int)) (scD sp), AObj.iset ks, hR D.none hi (st) rd sp]) (k (V.d (D.bool (decide ((7 : Int) = (7 : Int))))) [AObj.box (1 : Nat) sd', AObj.lst (List.map D.int zs'), rO (S "reset_recvd") [] rd (hi + max (0 : Int) (r_1 - hi)) (D.int r_1) (D.int (7 : Int)) (scD sp), AObj.iset ks, hR (D.int r_1) (hi + max (0 : Int) (r_1 - hi)) (Str.ofString "reset_recvd") rd sp]))) ∧ ∀ (c : Int), dueOf f hi r_1 true = some c → (WR (.box 1 sd') (iD zs') st ps rd hi none D.none sp ks) = (WR (.box 1 sd') (iD zs') st ps rd hi none D.none sp ks) ∧ ∃ (f : Option
Int), D.none = fD f ∧ (∀ (c_1 : Int), dueOf f hi r_1 true = some c_1 → k (V.d (D.bool (decide (c_1 = c)))) (WR (.box 1 sd') (iD zs') st ps rd hi none D.none sp ks)) ∧ (dueOf f hi r_1 true = none → k (V.d (D.bool false)) [AObj.box (1 : Nat) sd', AObj.lst (List.map D.int zs'), rO (S "reset_recvd") [] rd (hi + max (0 : Int) (r_1 - hi)) (D.int r_1) (D.int (7 : Int)) (scD sp), AObj.iset ks, hR D.none hi (st) rd sp])) (∃ (zs : List Int), (List.map D.int zs' = List.map D.int zs ∧ (0 : Int) < (6 : Int) ∧ (0 : Int) ≤ sd' ∧ sd' < (2147483647 : Int)) ∧ ∀ (r sd' : Int) (zs' : List Int), ((0 : Int) ≤ r ∧ r < (6 : Int)) ∧ (0 : Int) ≤ sd' ∧ sd' < (2147483647 : Int) → ∃ (zs : List Int), (List.map D.int zs' = List.map D.int zs ∧ (0 : Int) < (3 : Int) ∧ (0 : Int) ≤ sd' ∧ sd' < (2147483647 : Int)) ∧ ∀ (r_2 sd' :
Int) (zs' : List Int), ((0 : Int) ≤ r_2 ∧ r_2 < (3 : Int)) ∧ (0 : Int) ≤ sd' ∧ sd' < (2147483647 : Int) → orB (decide (r_2 = (0 : Int))) ((WR (.box 1 sd') (iD zs') st ps rd hi none D.none sp ks) = (WR (.box 1 sd') (iD zs') st ps rd hi none D.none sp ks) ∧ ∃ (f : Option Int), D.none = fD f ∧ (dueOf f hi r_1 true = none → ((1 : Int) = (1 : Int) ∧ (0 : Int) ≤ r_1 - max (0 : Int) (r_1 - r) ∧ r_1 - max (0 : Int) (r_1 - r) ≤ (4096 : Int)) ∧ (WR (.box 1 sd') (iD zs') st ps rd hi none D.none sp ks) = (WR (.box 1 sd') (iD zs') st ps rd hi none D.none sp ks) ∧ ∃ (ps_1 : Pcs), ∃ (f : Option Int), ∃ (sp_1 : Bool), ∃ (m : Nat), (List.map encP ps = List.map encP ps_1 ∧ D.none = fD f ∧ scD sp = scD sp_1 ∧ r_1 - max (0 : Int) (r_1 - r) = ↑m ∧ (0 : Int) ≤ rd ∧ (0 : Int) ≤ max (0 : Int) (r_1 - r) ∧ SepP rd (12 : Int) ps_1) ∧ (∀ (c : Int), dueOf f hi (max (0 : Int) (r_1 - r) + ↑m) true = some c → k (V.d (D.bool false)) (WR (.box 1 sd') (iD zs') st ps rd hi none D.none sp ks)) ∧ (dueOf f hi (max (0 : Int) (r_1 - r) + ↑m) true = none → ∀ (ps' : Pcs) (st' : Str), SepP rd (12 : Int) ps' → (∀ (x : Int), InP ps' x ↔ InP ps_1 x ∨ sp_1 = false ∧ rd ≤ x ∧ max (0 : Int) (r_1 - r) ≤ x ∧ x < max (0 : Int) (r_1 - r) + ↑m) → StNext (st) sp_1 rd ps' (if true = true then some (max (0 : Int) (r_1 - r) + ↑m) else f) st' → orB (!decide
(max (0 : Int) (max (0 : Int) (r_1 - r) + ↑m - hi) = max (0 : Int) (r_1 - hi))) (k (V.d (D.bool false)) (WQ sd' zs' st' ps' rd (hi + max (0 : Int) (max (0 : Int) (r_1 - r) + ↑m - hi)) (D.int (max (0 : Int) (r_1 - r) + ↑m)) D.none sp ks D.none hi st rd)) (((-4096 : Int) ≤ max (0 : Int) (r_1 - r) ∧ max (0 : Int) (r_1 - r) ≤ (4096 : Int) ∧ (-4096 : Int) ≤ r_1 ∧ r_1 ≤ (4096 : Int)) ∧ (∃ (x : List Int), ((∀ (x_1 : Int), x_1 ∈ x ↔ x_1 ∈ ks ∨ max (0 : Int) (r_1 - r) ≤ x_1 ∧ x_1 < max (0 : Int) (r_1 - r) + ↑(0 : Nat)) ∧ List.length x ≤ List.length ks + (0 : Nat)) ∧ (WQ sd' zs' st' ps' rd (hi + max (0 : Int) (max (0 : Int) (r_1 - r) + ↑m - hi)) (D.int (max (0 : Int) (r_1 - r) + ↑m)) D.none sp x (D.int r_1) (hi + max (0 : Int) (r_1 - hi)) st rd) = (WQ sd' zs' st' ps' rd (hi + max (0 : Int) (max (0 : Int) (r_1 - r) + ↑m - hi)) (D.int (max (0 : Int) (r_1 - r) + ↑m)) D.none sp ks (D.int r_1) (hi + max (0 : Int) (r_1 - hi)) st rd) ∧ @List.nil (Option (List D)) = [] ∧ some (V.g (4 : Nat)) = some (V.g (4 : Nat)) ∧ True) ∧ (∀ (i : Nat) (x : List Int), max (0 : Int) (r_1 - r) + ↑i < r_1 ∧ (∀ (x_1 : Int), x_1 ∈ x ↔ x_1 ∈ ks ∨ max (0 : Int) (r_1 - r) ≤ x_1 ∧ x_1 < max (0 : Int) (r_1 - r) + ↑i) ∧ List.length x ≤ List.length ks + i → ↑(List.length x) ≤ (4096 : Int) ∧ ∃ (x_1 : List Int), ((∀ (x : Int), x ∈ x_1 ↔ x ∈ ks ∨ max (0 : Int) (r_1 - r) ≤ x ∧ x < max (0 : Int) (r_1 - r) + ↑(i + (1 : Nat))) ∧ List.length x_1 ≤ List.length ks + (i + (1 : Nat))) ∧ (WQ sd' zs' st' ps' rd (hi + max (0 : Int) (max (0 : Int) (r_1 - r) + ↑m - hi)) (D.int (max (0 : Int) (r_1 - r) + ↑m)) D.none sp x_1 (D.int r_1) (hi + max (0 : Int) (r_1 - hi)) st rd) = (WQ sd' zs' st' ps' rd (hi + max (0 : Int) (max (0 : Int) (r_1 - r) + ↑m - hi)) (D.int (max (0 : Int) (r_1 - r) + ↑m)) D.none sp (insK (max (0 : Int) (r_1 - r) + ↑i) x) (D.int r_1) (hi + max (0 : Int) (r_1 - hi)) st rd) ∧ @List.nil (Option (List D)) = [] ∧ some (V.g (4 : Nat)) = some (V.g (4 : Nat)) ∧ True) ∧ ∀ (x : List Int), (∀ (x_1 : Int), x_1 ∈ x ↔ x_1 ∈ ks ∨ max (0 : Int) (r_1 - r) ≤ x_1 ∧ x_1 < max (0 : Int) (r_1 - r) + ↑(Int.toNat (r_1 - max (0 : Int) (r_1 - r)))) ∧ List.length x ≤ List.length ks + Int.toNat (r_1 - max (0 : Int) (r_1 - r)) → orB (!sp) (((-2000 : Int) ≤ rd ∧ rd ≤ (2000 : Int) ∧ (-2000
: Int) ≤ r_1 ∧ r_1 ≤ (2000 : Int)) ∧ ∀ (zs : List Int), (zs = [] ↔ ∀ (x_1 : Int), rd ≤ x_1 ∧ x_1 < r_1 → x_1 ∈ x) → List.length zs ≤ (4096 : Nat) → orB (isNil (List.map D.int zs)) (k (V.d (D.bool true)) (WQ sd' zs' st' ps' rd (hi + max (0 : Int) (max (0 : Int) (r_1 - r) + ↑m - hi)) (D.int (max (0 : Int) (r_1 - r) + ↑m)) D.none sp x (D.int r_1) (hi + max (0 : Int) (r_1 - hi)) (Str.ofString "data_recvd") rd)) (k (V.d (D.bool true)) (WQ sd' zs' st' ps' rd (hi + max (0 : Int) (max (0 : Int) (r_1 - r) + ↑m - hi)) (D.int (max (0 : Int) (r_1 - r) + ↑m)) D.none sp x (D.int r_1) (hi + max (0 : Int) (r_1 - hi)) (Str.ofString "size_known") rd))) (orB (!sp) (k (V.d (D.bool true)) (WQ sd' zs' st' ps' rd (hi + max (0 : Int) (max (0 : Int) (r_1 - r) + ↑m - hi)) (D.int (max (0 : Int) (r_1 - r) + ↑m)) D.none sp x (D.int r_1) (hi + max (0 : Int) (r_1 - hi)) (Str.ofString "data_recvd") rd)) (k (V.d (D.bool true)) (WQ sd' zs' st' ps' rd (hi + max (0 : Int) (max (0 : Int) (r_1 - r) + ↑m - hi)) (D.int (max (0 : Int) (r_1 - r) + ↑m)) D.none sp x (D.int r_1) (hi + max (0 : Int) (r_1 - hi)) (Str.ofString "size_known") rd)))))) ∧ ∀ (c : Int), dueOf f hi r_1 true = some c → ((1 : Int) = (1 : Int) ∧ (0 : Int) ≤ r_1 - max (0 : Int) (r_1 - r) ∧ r_1 - max (0 : Int) (r_1 - r) ≤ (4096 : Int)) ∧ (WR (.box 1 sd') (iD zs') st ps rd hi none D.none sp ks) = [AObj.box (1 :
Nat) sd', AObj.lst (List.map D.int zs'), rO (st) (List.map encP ps) rd hi D.none D.none (scD sp), AObj.iset ks, hR D.none hi (st) rd sp] ∧ ∃ (ps_1 : Pcs), ∃ (f : Option Int), ∃ (sp_1 : Bool), ∃ (m : Nat), (List.map encP ps = List.map encP ps_1 ∧ D.none = fD f ∧ scD sp = scD sp_1 ∧ r_1 - max (0 : Int) (r_1 - r) = ↑m ∧ (0 : Int) ≤ rd ∧ (0 : Int) ≤ max (0 : Int) (r_1 - r) ∧ SepP rd (12 : Int) ps_1) ∧ (∀ (c_1 : Int), dueOf f hi (max (0 : Int) (r_1 - r) + ↑m) true = some c_1 → k (V.d (D.bool (decide (c_1 = c)))) (WR (.box 1 sd') (iD zs') st ps rd hi none D.none sp ks)) ∧ (dueOf f hi (max (0 : Int) (r_1 - r) + ↑m) true = none → ∀ (ps' : Pcs) (st' : Str), SepP rd (12 : Int) ps' → (∀ (x : Int), InP ps' x ↔ InP ps_1 x ∨ sp_1 = false ∧ rd ≤ x ∧ max (0 : Int) (r_1 - r) ≤ x ∧ x < max (0 : Int) (r_1 - r) +
↑m) → StNext (st) sp_1 rd ps' (if true = true then some (max (0 : Int) (r_1 - r) + ↑m) else f) st' → k (V.d (D.bool false)) (WQ sd' zs' st' ps' rd (hi + max (0 : Int) (max (0 : Int) (r_1 - r) + ↑m - hi)) (D.int (max (0 : Int) (r_1 - r) + ↑m)) D.none sp ks D.none hi st rd))) ((WR (.box 1 sd') (iD zs') st ps rd hi none D.none sp ks) = (WR (.box 1 sd') (iD zs') st ps rd hi none D.none sp ks) ∧ ∃ (f : Option Int), D.none = fD f ∧ (dueOf f hi r_1 false = none → ((1 : Int) = (1 : Int) ∧ (0 : Int) ≤ r_1 - max (0 : Int) (r_1 - r) ∧ r_1 - max (0 : Int) (r_1 - r) ≤ (4096 : Int)) ∧ [AObj.box (1 : Nat) sd', AObj.lst (List.map
D.int zs'), rO (st) (List.map encP ps) rd hi D.none D.none (scD sp), AObj.iset ks, hR D.none hi (st) rd sp] = (WR (.box 1 sd') (iD zs') st ps rd hi none D.none sp ks) ∧ ∃ (ps_1 : Pcs), ∃ (f : Option Int), ∃ (sp_1 : Bool), ∃ (m : Nat), (List.map encP ps = List.map encP ps_1 ∧ D.none = fD f ∧ scD sp = scD sp_1 ∧ r_1 - max (0 : Int) (r_1 - r) = ↑m ∧ (0 : Int) ≤ rd ∧ (0 : Int) ≤ max (0 : Int) (r_1 - r) ∧ SepP rd (12 : Int) ps_1) ∧ (∀ (c : Int), dueOf f hi (max (0 : Int) (r_1 - r) + ↑m) false = some c → k (V.d (D.bool false)) (WR (.box 1 sd') (iD zs') st ps rd hi none D.none sp ks)) ∧ (dueOf f hi (max (0 : Int) (r_1 - r) + ↑m) false = none → ∀ (ps' : Pcs) (st' : Str), SepP rd (12 : Int) ps' → (∀ (x : Int),
InP ps' x ↔ InP ps_1 x ∨ sp_1 = false ∧ rd ≤ x ∧ max (0 : Int) (r_1 - r) ≤ x ∧ x < max (0 : Int) (r_1 - r) + ↑m) → StNext (st) sp_1 rd ps' (if false = true then some (max (0 : Int) (r_1 - r) + ↑m) else f) st' → orB (!decide (max (0 : Int) (max (0 : Int) (r_1 - r) + ↑m - hi) = max (0 : Int) (r_1 - hi))) (k (V.d (D.bool false)) (WQ sd' zs' st' ps' rd (hi + max (0 : Int) (max (0 : Int) (r_1 - r) + ↑m - hi)) (fD (if false = true then some (max (0 : Int) (r_1 - r) + ↑m) else f)) D.none sp ks D.none hi st rd)) (((-4096 : Int) ≤ max (0 : Int) (r_1 - r) ∧ max (0 : Int) (r_1 - r) ≤ (4096 : Int) ∧ (-4096 : Int) ≤ r_1 ∧ r_1 ≤ (4096 : Int)) ∧ (∃ (x : List Int), ((∀ (x_1 : Int), x_1 ∈ x ↔ x_1 ∈ ks ∨ max (0 : Int) (r_1 - r) ≤ x_1 ∧ x_1 < max (0 : Int) (r_1 - r) + ↑(0 : Nat)) ∧ List.length x ≤ List.length ks + (0 :
Nat)) ∧ (WQ sd' zs' st' ps' rd (hi + max (0 : Int) (max (0 : Int) (r_1 - r) + ↑m - hi)) (fD (if false = true then some (max (0 : Int) (r_1 - r) + ↑m) else f)) D.none sp x D.none (hi + max (0 : Int) (r_1 - hi)) st rd) = (WQ sd' zs' st' ps' rd (hi + max (0 : Int) (max (0 : Int) (r_1 - r) + ↑m - hi)) (fD (if false = true then some (max (0 : Int) (r_1 - r) + ↑m) else f)) D.none sp ks D.none (hi + max (0 : Int) (r_1 - hi)) st rd) ∧ @List.nil (Option (List D)) = [] ∧ some (V.g (4 : Nat)) = some (V.g (4 : Nat)) ∧ True) ∧ (∀ (i : Nat) (x : List Int), max (0 : Int) (r_1 - r) + ↑i < r_1 ∧ (∀ (x_1 : Int), x_1 ∈ x ↔ x_1 ∈ ks ∨ max (0 : Int) (r_1 - r) ≤ x_1 ∧ x_1 < max (0 : Int) (r_1 - r) + ↑i) ∧ List.length x ≤ List.length
ks + i → ↑(List.length x) ≤ (4096 : Int) ∧ ∃ (x_1 : List Int), ((∀ (x : Int), x ∈ x_1 ↔ x ∈ ks ∨ max (0 : Int) (r_1 - r) ≤ x ∧ x < max (0 : Int) (r_1 - r) + ↑(i + (1 : Nat))) ∧ List.length x_1 ≤ List.length ks + (i + (1 : Nat))) ∧ (WQ sd' zs' st' ps' rd (hi + max (0 : Int) (max (0 : Int) (r_1 - r) + ↑m - hi)) (fD (if false = true then some (max (0 : Int) (r_1 - r) + ↑m) else f)) D.none sp x_1 D.none (hi + max (0 : Int) (r_1 - hi)) st rd) = (WQ sd' zs' st' ps' rd (hi + max (0 : Int) (max (0 : Int) (r_1 - r) + ↑m - hi)) (fD (if false = true then some (max (0 : Int) (r_1 - r) + ↑m) else f)) D.none sp (insK (max (0 : Int) (r_1 - r) + ↑i) x) D.none (hi + max (0 : Int) (r_1 - hi)) st rd) ∧ @List.nil (Option (List D)) =
[] ∧ some (V.g (4 : Nat)) = some (V.g (4 : Nat)) ∧ True) ∧ ∀ (x : List Int), (∀ (x_1 : Int), x_1 ∈ x ↔ x_1 ∈ ks ∨ max (0 : Int) (r_1 - r) ≤ x_1 ∧ x_1 < max (0 : Int) (r_1 - r) + ↑(Int.toNat (r_1 - max (0 : Int) (r_1 - r)))) ∧ List.length x ≤ List.length ks + Int.toNat (r_1 - max (0 : Int) (r_1 - r)) → k (V.d (D.bool true)) (WQ sd' zs' st' ps' rd (hi + max (0 : Int) (max (0 : Int) (r_1 - r) + ↑m - hi)) (fD (if false = true then some (max (0 : Int) (r_1 - r) + ↑m) else f)) D.none sp x D.none (hi + max (0 : Int) (r_1 - hi)) st rd)))) ∧ ∀ (c : Int), dueOf f hi r_1 false = some c → ((1 : Int) = (1 : Int) ∧ (0 : Int) ≤ r_1 - max (0 : Int) (r_1 - r) ∧ r_1 - max (0 : Int) (r_1 - r) ≤ (4096 : Int)) ∧ (WR (.box 1 sd') (iD zs') st ps rd hi none D.none sp ks) = (WR (.box 1 sd') (iD zs') st ps rd hi none D.none sp ks) ∧ ∃ (ps_1 : Pcs), ∃ (f : Option Int), ∃ (sp_1 : Bool), ∃ (m : Nat), (List.map encP ps = List.map encP ps_1 ∧ D.none = fD f ∧ scD sp = scD sp_1 ∧ r_1 - max (0 : Int) (r_1 - r) = ↑m ∧ (0 : Int) ≤ rd ∧ (0 : Int) ≤ max (0 : Int) (r_1 - r) ∧ SepP rd (12 : Int) ps_1) ∧ (∀ (c_1 : Int), dueOf f hi (max (0 : Int) (r_1 - r) + ↑m) false = some c_1 → k (V.d (D.bool (decide (c_1 = c)))) (WR (.box 1 sd') (iD zs') st ps rd hi none D.none sp ks)) ∧ (dueOf f hi (max (0 : Int) (r_1 - r) + ↑m) false = none → ∀ (ps' : Pcs) (st' : Str), SepP rd (12 : Int) ps' → (∀ (x : Int), InP ps' x ↔ InP ps_1 x ∨ sp_1 = false ∧ rd ≤ x
∧ max (0 : Int) (r_1 - r) ≤ x ∧ x < max (0 : Int) (r_1 - r) + ↑m) → StNext (st) sp_1 rd ps' (if false = true then some (max (0 : Int) (r_1 - r) + ↑m) else f) st' → k (V.d (D.bool false)) (WQ sd' zs' st' ps' rd (hi + max (0 : Int) (max (0 : Int) (r_1 - r) + ↑m - hi)) (fD (if false = true then some (max (0 : Int) (r_1 - r) + ↑m) else f)) D.none sp ks D.none hi st rd))))
theorem vc332rn (sd : Int) (zs : List Int) (ps : Pcs) (rd hi : Int) (sp : Bool) (ks : List Int) (k : V → List AObj → Prop) : (vcFS r332 false calls332 inv332 noWInv [.g 0, .g 2, .g 4] (WR (.box 1 sd) (iD zs) (S "recv") ps rd hi none .none sp ks) k) = comeN (S "recv") sd zs ps rd hi sp ks k := by kernel_rfl
theorem vc332zn (sd : Int) (zs : List Int) (ps : Pcs) (rd hi : Int) (sp : Bool) (ks : List Int) (k : V → List AObj → Prop) : (vcFS r332 false calls332 inv332 noWInv [.g 0, .g 2, .g 4] (WR (.box 1 sd) (iD zs) (S "size_known") ps rd hi none .none sp ks) k) = comeN (S "size_known") sd zs ps rd hi sp ks k := by kernel_rfl
noncomputable def comeS (st : Str) (sd : Int) (zs : List Int) (ps : Pcs) (rd hi f : Int) (sp : Bool) (ks : List Int) (k : V → List AObj → Prop) : Prop :=
∃ (zs_1 : List Int), (List.map D.int zs = List.map D.int zs_1 ∧ (0 : Int) < (4 : Int) ∧ (0 : Int) ≤ sd ∧ sd < (2147483647 : Int)) ∧ ∀ (r sd' : Int) (zs' : List Int), ((0 : Int) ≤ r ∧ r < (4 : Int)) ∧ (0 : Int) ≤ sd' ∧ sd' < (2147483647 : Int) → ∃ (zs : List Int), (List.map D.int zs' = List.map D.int zs ∧ (0 : Int) < (14 : Int) ∧ (0 : Int) ≤ sd' ∧ sd' < (2147483647 : Int)) ∧ ∀ (r_1 sd' : Int) (zs' : List Int), ((0 : Int) ≤ r_1 ∧ r_1 < (14 : Int)) ∧ (0 : Int) ≤ sd' ∧ sd' < (2147483647 : Int) → orB (decide (r = (3 : Int))) (∃ (zs : List Int), (List.map D.int zs' = List.map D.int zs ∧ (0 : Int) < (6 : Int) ∧ (0 : Int) ≤ sd' ∧ sd' < (2147483647 : Int)) ∧ ∀ (r sd' : Int) (zs' : List Int), ((0 : Int) ≤ r ∧ r < (6 : Int)) ∧ (0 : Int) ≤ sd' ∧ sd' < (2147483647 : Int) → (WR (.box 1 sd') (iD zs') st ps rd hi (some f) D.none sp ks) = (WR (.box 1 sd') (iD zs') st ps rd hi (some f) D.none sp ks) ∧ ∃ (f_1 : Option Int), D.int f = fD f_1 ∧ (dueOf f_1 hi r_1 true = none → (WR (.box 1 sd') (iD zs') st ps rd hi (some f) D.none sp ks) = (WR (.box 1 sd') (iD zs') st ps rd hi (some f) D.none sp ks) ∧ ∃ (f_2 : Option Int), D.int f = fD f_2 ∧ (∀ (c : Int), dueOf f_2 hi r_1 true = some c → k (V.d (D.bool false)) (WR (.box 1 sd') (iD zs') st ps rd hi (some f) D.none sp ks)) ∧ (dueOf f_2 hi r_1 true = none → orB (!decide
(max (0 : Int) (r_1 - hi) = max (0 : Int) (r_1 - hi))) (k (V.d (D.bool false)) [AObj.box (1 : Nat) sd', AObj.lst (List.map D.int zs'), rO (S "reset_recvd") [] rd (hi + max (0 : Int) (r_1 - hi)) (D.int r_1) (D.int (7 : Int)) (scD sp), AObj.iset ks, hR (D.int f) hi (st) rd sp]) (k (V.d (D.bool (decide ((7 : Int) = (7 : Int))))) [AObj.box (1 : Nat) sd', AObj.lst (List.map D.int zs'), rO (S "reset_recvd") [] rd (hi + max (0 : Int) (r_1 - hi)) (D.int r_1) (D.int (7 : Int)) (scD sp), AObj.iset ks, hR (D.int r_1) (hi + max (0 : Int) (r_1 - hi)) (Str.ofString "reset_recvd") rd sp]))) ∧ ∀ (c : Int), dueOf f_1 hi r_1 true = some c → (WR (.box 1 sd') (iD zs') st ps rd hi (some f) D.none sp ks) = (WR (.box 1 sd') (iD zs') st ps rd hi (some f) D.none sp ks) ∧ ∃ (f_2 : Option Int), D.int f = fD f_2 ∧ (∀ (c_1 : Int), dueOf f_2 hi r_1 true = some c_1 → k (V.d (D.bool (decide (c_1 = c)))) (WR (.box 1 sd') (iD zs') st ps rd hi (some f) D.none sp ks)) ∧ (dueOf f_2 hi r_1 true = none → k (V.d (D.bool false)) [AObj.box (1 : Nat) sd', AObj.lst (List.map D.int zs'), rO (S "reset_recvd") [] rd (hi + max (0 : Int) (r_1 - hi)) (D.int r_1) (D.int (7 : Int)) (scD sp), AObj.iset ks, hR (D.int f) hi (st) rd sp])) (∃ (zs : List Int), (List.map D.int zs' = List.map D.int zs ∧ (0 : Int) < (6 : Int) ∧ (0 : Int) ≤ sd' ∧ sd' < (2147483647 : Int)) ∧ ∀ (r sd' : Int) (zs' : List Int), ((0 : Int) ≤ r ∧ r < (6 : Int)) ∧ (0 : Int) ≤ sd' ∧ sd' < (2147483647 : Int) → ∃ (zs : List Int), (List.map D.int zs' = List.map D.int zs
∧ (0 : Int) < (3 : Int) ∧ (0 : Int) ≤ sd' ∧ sd' < (2147483647 : Int)) ∧ ∀ (r_2 sd' : Int) (zs' : List Int), ((0 : Int) ≤ r_2 ∧ r_2 < (3 : Int)) ∧ (0 : Int) ≤ sd' ∧ sd' < (2147483647 : Int) → orB (decide (r_2 = (0 : Int))) ((WR (.box 1 sd') (iD zs') st ps rd hi (some f) D.none sp ks) = (WR (.box 1 sd') (iD zs') st ps rd hi (some f) D.none sp ks) ∧ ∃ (f_1 : Option Int), D.int f = fD f_1 ∧ (dueOf f_1 hi r_1 true = none → ((1 : Int) = (1 : Int) ∧ (0 : Int) ≤ r_1 - max (0 : Int) (r_1 - r) ∧ r_1 - max (0 : Int) (r_1 - r) ≤ (4096 : Int)) ∧ (WR (.box 1 sd') (iD zs') st ps rd hi (some f) D.none sp ks) =
(WR (.box 1 sd') (iD zs') st ps rd hi (some f) D.none sp ks) ∧ ∃ (ps_1 : Pcs), ∃ (f_2 : Option Int), ∃ (sp_1 : Bool), ∃ (m : Nat), (List.map encP ps = List.map encP ps_1 ∧ D.int f = fD f_2 ∧ scD sp = scD sp_1 ∧ r_1 - max (0 : Int) (r_1 - r) = ↑m ∧ (0 : Int) ≤ rd ∧ (0 : Int) ≤ max (0 : Int) (r_1 - r) ∧ SepP rd (12 : Int) ps_1) ∧ (∀ (c : Int), dueOf f_2 hi (max (0 : Int) (r_1 - r) + ↑m) true = some c → k (V.d (D.bool false)) (WR (.box 1 sd') (iD zs') st ps rd hi (some f) D.none sp ks)) ∧ (dueOf f_2 hi (max (0 : Int) (r_1 - r) + ↑m) true = none → ∀ (ps' : Pcs) (st' : Str), SepP rd (12 : Int) ps' → (∀ (x : Int), InP ps' x ↔ InP ps_1 x ∨ sp_1 = false ∧ rd ≤ x ∧ max (0 : Int) (r_1 - r) ≤ x ∧ x < max (0
: Int) (r_1 - r) + ↑m) → StNext (st) sp_1 rd ps' (if true = true then some (max (0 : Int) (r_1 - r) + ↑m) else f_2) st' → orB (!decide (max (0 : Int) (max (0 : Int) (r_1 - r) + ↑m - hi) = max (0 : Int) (r_1 - hi))) (k (V.d (D.bool false)) (WQ sd' zs' st' ps' rd (hi + max (0 : Int) (max (0 : Int) (r_1 - r) + ↑m - hi)) (D.int (max (0 : Int) (r_1 - r) + ↑m)) D.none sp ks (D.int f) hi st rd)) (((-4096 : Int) ≤ max (0 : Int) (r_1 - r) ∧ max (0 : Int) (r_1 - r) ≤ (4096 : Int) ∧ (-4096 : Int) ≤ r_1 ∧ r_1 ≤ (4096 : Int)) ∧ (∃ (x : List Int), ((∀ (x_1 : Int), x_1 ∈ x ↔ x_1 ∈ ks ∨ max (0 : Int) (r_1 - r) ≤ x_1 ∧ x_1 < max (0 : Int) (r_1 - r) + ↑(0 : Nat)) ∧ List.length x ≤ List.length ks + (0 : Nat)) ∧ (WQ sd' zs' st' ps' rd (hi + max (0 : Int) (max (0 : Int) (r_1 - r) + ↑m - hi)) (D.int (max (0 : Int) (r_1 - r) + ↑m)) D.none sp x (D.int r_1) (hi + max (0 : Int) (r_1 - hi)) st rd) = (WQ sd' zs' st' ps' rd (hi + max (0 : Int) (max (0 : Int) (r_1 - r) + ↑m - hi)) (D.int (max (0 : Int) (r_1 - r) + ↑m)) D.none sp ks (D.int r_1) (hi + max (0 : Int) (r_1 - hi)) st rd) ∧ @List.nil (Option (List D)) = [] ∧ some (V.g (4 : Nat)) = some (V.g (4 : Nat)) ∧ True) ∧ (∀ (i : Nat) (x : List Int), max (0 : Int) (r_1 - r) + ↑i < r_1 ∧ (∀ (x_1 : Int), x_1 ∈ x ↔ x_1 ∈ ks ∨ max (0 : Int) (r_1 - r) ≤ x_1 ∧ x_1 < max (0 : Int) (r_1 - r) + ↑i) ∧ List.length x ≤ List.length ks + i → ↑(List.length x) ≤ (4096 : Int) ∧ ∃ (x_1 : List Int), ((∀ (x : Int), x ∈ x_1 ↔ x ∈ ks ∨ max (0 : Int) (r_1 - r) ≤ x ∧ x < max (0 : Int) (r_1 - r) + ↑(i + (1 :
Nat))) ∧ List.length x_1 ≤ List.length ks + (i + (1 : Nat))) ∧ (WQ sd' zs' st' ps' rd (hi + max (0 : Int) (max (0 : Int) (r_1 - r) + ↑m - hi)) (D.int (max (0 : Int) (r_1 - r) + ↑m)) D.none sp x_1 (D.int r_1) (hi + max (0 : Int) (r_1 - hi)) st rd) = (WQ sd' zs' st' ps' rd (hi + max (0 : Int) (max (0 : Int) (r_1 - r) + ↑m - hi)) (D.int (max (0 : Int) (r_1 - r) + ↑m)) D.none sp (insK (max (0 : Int) (r_1 - r) + ↑i) x) (D.int r_1) (hi + max (0 : Int) (r_1 - hi)) st rd) ∧ @List.nil (Option (List D)) = [] ∧ some (V.g (4 : Nat)) = some (V.g (4 : Nat)) ∧ True) ∧ ∀ (x : List Int), (∀ (x_1 : Int), x_1 ∈ x ↔ x_1 ∈ ks ∨ max (0 : Int) (r_1 - r) ≤ x_1 ∧ x_1 < max (0 : Int) (r_1 - r) + ↑(Int.toNat (r_1 - max (0 : Int) (r_1 -
r)))) ∧ List.length x ≤ List.length ks + Int.toNat (r_1 - max (0 : Int) (r_1 - r)) → orB (!sp) (((-2000 : Int) ≤ rd ∧ rd ≤ (2000 : Int) ∧ (-2000 : Int) ≤ r_1 ∧ r_1 ≤ (2000 : Int)) ∧ ∀ (zs : List Int), (zs = [] ↔ ∀ (x_1 : Int), rd ≤ x_1 ∧ x_1 < r_1 → x_1 ∈ x) → List.length zs ≤ (4096 : Nat) → orB (isNil (List.map D.int zs)) (k (V.d (D.bool true)) (WQ sd' zs' st' ps' rd (hi + max (0 : Int) (max (0 : Int) (r_1 - r) + ↑m - hi)) (D.int (max (0 : Int) (r_1 - r) + ↑m)) D.none sp x (D.int r_1) (hi + max (0 : Int) (r_1 - hi)) (Str.ofString "data_recvd") rd)) (k (V.d (D.bool true)) (WQ sd' zs' st' ps' rd (hi + max (0 : Int) (max (0 : Int) (r_1 - r) + ↑m - hi)) (D.int (max (0 : Int) (r_1 - r) + ↑m)) D.none sp x (D.int r_1) (hi + max (0 : Int) (r_1 - hi)) (Str.ofString "size_known") rd))) (orB (!sp) (k (V.d (D.bool true)) (WQ sd' zs' st' ps' rd (hi + max (0 : Int) (max (0 : Int) (r_1 - r) + ↑m - hi)) (D.int (max (0 : Int) (r_1 - r) + ↑m)) D.none sp x (D.int r_1) (hi + max (0 : Int) (r_1 - hi)) (Str.ofString "data_recvd") rd)) (k (V.d (D.bool true)) (WQ sd' zs' st' ps' rd (hi + max (0 : Int) (max (0 : Int) (r_1 - r) + ↑m - hi)) (D.int (max (0 : Int) (r_1 - r) + ↑m)) D.none sp x (D.int r_1) (hi + max (0 : Int) (r_1 - hi)) (Str.ofString "size_known") rd)))))) ∧ ∀ (c : Int), dueOf f_1 hi r_1 true = some c → ((1 : Int) = (1 : Int) ∧ (0 : Int) ≤ r_1 - max (0 : Int) (r_1 - r) ∧ r_1 - max (0 : Int) (r_1 - r) ≤ (4096 : Int)) ∧ (WR (.box 1 sd') (iD zs') st ps rd hi (some f) D.none sp ks) = (WR (.box 1 sd') (iD zs') st ps rd hi (some f) D.none sp ks) ∧ ∃ (ps_1 : Pcs), ∃ (f_2 : Option Int), ∃ (sp_1 : Bool), ∃ (m : Nat), (List.map encP ps = List.map encP ps_1 ∧ D.int f = fD f_2 ∧ scD sp = scD sp_1 ∧ r_1 - max (0 : Int) (r_1 - r) = ↑m ∧ (0 : Int) ≤ rd ∧ (0 : Int) ≤ max (0 : Int) (r_1 - r) ∧ SepP rd (12 : Int) ps_1) ∧ (∀ (c_1 : Int), dueOf f_2 hi (max (0 : Int) (r_1 - r) + ↑m) true = some c_1 → k (V.d (D.bool (decide (c_1 = c)))) (WR (.box 1 sd') (iD zs') st ps rd hi (some f) D.none sp ks)) ∧ (dueOf f_2 hi (max (0 : Int) (r_1 - r) + ↑m) true = none →
∀ (ps' : Pcs) (st' : Str), SepP rd (12 : Int) ps' → (∀ (x : Int), InP ps' x ↔ InP ps_1 x ∨ sp_1 = false ∧ rd ≤ x ∧ max (0 : Int) (r_1 - r) ≤ x ∧ x < max (0 : Int) (r_1 - r) + ↑m) → StNext (st) sp_1 rd ps' (if true = true then some (max (0 : Int) (r_1 - r) + ↑m) else f_2) st' → k (V.d (D.bool false)) (WQ sd' zs' st' ps' rd (hi + max (0 : Int) (max (0 : Int) (r_1 - r) + ↑m - hi)) (D.int (max (0 : Int) (r_1 - r) + ↑m)) D.none sp ks (D.int f) hi st rd))) ((WR (.box 1 sd') (iD zs') st ps rd hi (some f) D.none sp ks) = (WR (.box 1 sd') (iD zs') st ps rd hi (some f) D.none sp ks) ∧ ∃ (f_1 : Option Int), D.int f = fD
f_1 ∧ (dueOf f_1 hi r_1 false = none → ((1 : Int) = (1 : Int) ∧ (0 : Int) ≤ r_1 - max (0 : Int) (r_1 - r) ∧ r_1 - max (0 : Int) (r_1 - r) ≤ (4096 : Int)) ∧ (WR (.box 1 sd') (iD zs') st ps rd hi (some f) D.none sp ks) = (WR (.box 1 sd') (iD zs') st ps rd hi (some f) D.none sp ks) ∧ ∃ (ps_1 : Pcs), ∃ (f_2 : Option Int), ∃ (sp_1 : Bool), ∃ (m : Nat), (List.map encP ps = List.map encP ps_1 ∧ D.int f = fD f_2 ∧ scD sp = scD sp_1 ∧ r_1 - max (0 : Int) (r_1 - r) = ↑m ∧ (0 : Int) ≤ rd ∧ (0 : Int) ≤ max (0 : Int) (r_1 - r) ∧ SepP rd (12 : Int) ps_1) ∧ (∀ (c : Int), dueOf f_2 hi (max (0 : Int) (r_1 - r) + ↑m) false = some c → k (V.d (D.bool false)) (WR (.box 1 sd') (iD zs') st ps rd hi (some f) D.none sp ks)) ∧ (dueOf f_2 hi (max (0 : Int) (r_1 - r) + ↑m) false = none → ∀ (ps' : Pcs) (st' : Str), SepP rd (12 : Int) ps' → (∀ (x : Int), InP ps' x ↔ InP ps_1 x ∨ sp_1 = false ∧ rd ≤ x ∧ max (0 : Int) (r_1 - r) ≤ x ∧ x < max (0 : Int) (r_1 - r) + ↑m) → StNext (st) sp_1 rd ps' (if false = true then some (max (0 : Int) (r_1 - r) + ↑m) else f_2) st' → orB (!decide (max (0 : Int) (max (0 : Int) (r_1 - r) + ↑m - hi) = max (0 : Int) (r_1 - hi))) (k (V.d (D.bool false)) (WQ sd' zs' st' ps' rd (hi + max (0 : Int) (max (0 : Int) (r_1 - r) + ↑m - hi)) (fD (if false = true then some (max (0 : Int) (r_1 - r) + ↑m) else f_2)) D.none sp ks (D.int f) hi st rd)) (((-4096 : Int) ≤ max (0 : Int) (r_1 - r) ∧ max (0 : Int) (r_1 -
r) ≤ (4096 : Int) ∧ (-4096 : Int) ≤ r_1 ∧ r_1 ≤ (4096 : Int)) ∧ (∃ (x : List Int), ((∀ (x_1 : Int), x_1 ∈ x ↔ x_1 ∈ ks ∨ max (0 : Int) (r_1 - r) ≤ x_1 ∧ x_1 < max (0 : Int) (r_1 - r) + ↑(0 : Nat)) ∧ List.length x ≤ List.length ks + (0 : Nat)) ∧ (WQ sd' zs' st' ps' rd (hi + max (0 : Int) (max (0 : Int) (r_1 - r) + ↑m - hi)) (fD (if false = true then some (max (0 : Int) (r_1 - r) + ↑m) else f_2)) D.none sp x (D.int f) (hi + max (0 : Int) (r_1 - hi)) st rd) = (WQ sd' zs' st' ps' rd (hi + max (0 : Int) (max (0 : Int) (r_1 - r) + ↑m - hi)) (fD (if false = true then some (max (0 : Int) (r_1 - r) + ↑m) else f_2)) D.none sp ks (D.int f) (hi + max (0 : Int) (r_1 - hi)) st rd) ∧ @List.nil (Option (List D)) = [] ∧ some (V.g
(4 : Nat)) = some (V.g (4 : Nat)) ∧ True) ∧ (∀ (i : Nat) (x : List Int), max (0 : Int) (r_1 - r) + ↑i < r_1 ∧ (∀ (x_1 : Int), x_1 ∈ x ↔ x_1 ∈ ks ∨ max (0 : Int) (r_1 - r) ≤ x_1 ∧ x_1 < max (0 : Int) (r_1 - r) + ↑i) ∧ List.length x ≤ List.length ks + i → ↑(List.length x) ≤ (4096 : Int) ∧ ∃ (x_1 : List Int), ((∀ (x : Int), x ∈ x_1 ↔ x ∈ ks ∨ max (0 : Int) (r_1 - r) ≤ x ∧ x < max (0 : Int) (r_1 - r) + ↑(i + (1 : Nat))) ∧ List.length x_1 ≤ List.length ks + (i + (1 : Nat))) ∧ (WQ sd' zs' st' ps' rd (hi + max (0 : Int) (max (0 : Int) (r_1 - r) + ↑m - hi)) (fD (if false = true then some (max (0 : Int) (r_1 - r) + ↑m) else f_2)) D.none sp x_1 (D.int f) (hi + max (0 : Int) (r_1 - hi)) st rd) = (WQ sd' zs' st' ps' rd (hi + max (0 : Int) (max (0 : Int) (r_1 - r) + ↑m - hi)) (fD (if false = true then some (max (0 : Int) (r_1 - r) + ↑m) else f_2)) D.none sp (insK (max (0 : Int) (r_1 - r) + ↑i) x) (D.int f) (hi + max (0 : Int) (r_1 - hi)) st rd) ∧ @List.nil (Option (List D)) = [] ∧ some (V.g (4 : Nat)) = some (V.g (4 : Nat)) ∧ True) ∧ ∀ (x : List Int), (∀ (x_1 : Int), x_1 ∈ x ↔ x_1 ∈ ks ∨ max (0 : Int) (r_1 - r) ≤ x_1 ∧ x_1 < max (0 : Int) (r_1 - r) + ↑(Int.toNat (r_1 - max (0 : Int) (r_1 - r)))) ∧ List.length x ≤ List.length ks + Int.toNat (r_1 - max (0 : Int) (r_1 - r)) → orB (!sp) (((-2000 : Int) ≤ rd ∧ rd ≤ (2000 : Int) ∧ (-2000 : Int) ≤ f ∧ f ≤ (2000 : Int)) ∧ ∀ (zs : List Int), (zs = [] ↔ ∀ (x_1 : Int), rd ≤ x_1 ∧ x_1 < f → x_1 ∈ x) → List.length zs ≤ (4096 : Nat) → orB (isNil (List.map D.int zs)) (k (V.d (D.bool true)) (WQ sd' zs' st' ps' rd (hi + max (0 : Int) (max (0 : Int) (r_1 - r) + ↑m - hi)) (fD (if false = true then some (max (0 : Int) (r_1 - r) + ↑m) else f_2)) D.none sp x (D.int f) (hi + max (0 : Int) (r_1 - hi)) (Str.ofString "data_recvd") rd)) (k (V.d (D.bool true)) (WQ sd' zs' st' ps' rd (hi + max (0 : Int) (max (0 : Int) (r_1 - r) + ↑m - hi)) (fD (if false = true then some (max (0 : Int) (r_1 - r) + ↑m) else f_2)) D.none sp x (D.int f) (hi + max (0 : Int) (r_1 - hi)) (Str.ofString "size_known") rd))) (orB (!sp) (k (V.d (D.bool true)) (WQ sd' zs' st' ps' rd (hi + max (0 : Int) (max (0 : Int) (r_1 - r) + ↑m - hi)) (fD (if false = true then some (max (0 : Int) (r_1 - r) + ↑m) else f_2)) D.none sp x (D.int f) (hi + max (0 : Int) (r_1 - hi)) (Str.ofString "data_recvd") rd)) (k (V.d (D.bool true)) (WQ sd' zs' st' ps' rd (hi + max (0 : Int) (max (0 : Int) (r_1 - r) + ↑m - hi)) (fD (if false = true then some (max (0 : Int) (r_1 - r) + ↑m) else f_2)) D.none sp x (D.int f) (hi + max (0 : Int) (r_1 - hi)) (Str.ofString "size_known") rd)))))) ∧ ∀ (c : Int), dueOf f_1 hi r_1 false = some c → ((1 : Int) = (1 : Int) ∧ (0 : Int) ≤ r_1 - max (0 : Int) (r_1 - r) ∧ r_1 - max (0 : Int) (r_1 - r) ≤ (4096 : Int)) ∧ (WR (.box 1 sd') (iD zs') st ps rd hi (some f) D.none sp ks) = (WR (.box 1 sd') (iD zs') st ps rd hi (some f) D.none sp ks) ∧ ∃
(ps_1 : Pcs), ∃ (f_2 : Option Int), ∃ (sp_1 : Bool), ∃ (m : Nat), (List.map encP ps = List.map encP ps_1 ∧ D.int f = fD f_2 ∧ scD sp = scD sp_1 ∧ r_1 - max (0 : Int) (r_1 - r) = ↑m ∧ (0 : Int) ≤ rd ∧ (0 : Int) ≤ max (0 : Int) (r_1 - r) ∧ SepP rd (12 : Int) ps_1) ∧ (∀ (c_1 : Int), dueOf f_2 hi (max (0 : Int) (r_1 - r) + ↑m) false = some c_1 → k (V.d (D.bool (decide (c_1 = c)))) (WR (.box 1 sd') (iD zs') st ps rd hi (some f) D.none sp ks)) ∧ (dueOf f_2 hi (max (0 : Int) (r_1 - r) + ↑m) false = none → ∀ (ps' : Pcs) (st' : Str), SepP rd (12 : Int) ps' → (∀ (x : Int), InP ps' x ↔ InP ps_1 x ∨ sp_1 = false ∧ rd ≤ x ∧ max (0 : Int) (r_1 - r) ≤ x ∧ x < max (0 : Int) (r_1 - r) + ↑m) → StNext (st) sp_1 rd ps' (if false = true then some (max (0 : Int) (r_1 - r) + ↑m) else f_2) st' → k (V.d (D.bool
false)) (WQ sd' zs' st' ps' rd (hi + max (0 : Int) (max (0 : Int) (r_1 - r) + ↑m - hi)) (fD (if false = true then some (max (0 : Int) (r_1 - r) + ↑m) else f_2)) D.none sp ks (D.int f) hi st rd))))
theorem vc332rs (sd : Int) (zs : List Int) (ps : Pcs) (rd hi f : Int) (sp : Bool) (ks : List Int) (k : V → List AObj → Prop) : (vcFS r332 false calls332 inv332 noWInv [.g 0, .g 2, .g 4] (WR (.box 1 sd) (iD zs) (S "recv") ps rd hi (some f) .none sp ks) k) = comeS (S "recv") sd zs ps rd hi f sp ks k := by kernel_rfl
theorem vc332zs (sd : Int) (zs : List Int) (ps : Pcs) (rd hi f : Int) (sp : Bool) (ks : List Int) (k : V → List AObj → Prop) : (vcFS r332 false calls332 inv332 noWInv [.g 0, .g 2, .g 4] (WR (.box 1 sd) (iD zs) (S "size_known") ps rd hi (some f) .none sp ks) k) = comeS (S "size_known") sd zs ps rd hi f sp ks k := by kernel_rfl
end
noncomputable section
theorem insK_mem {a x : Int} {ks : List Int} : x ∈ insK a ks ↔ x = a ∨ x ∈ ks := by
  unfold insK
  split
  · rename_i h
    exact ⟨.inr, fun q => q.elim (fun e => e ▸ h) id⟩
  · rw [List.mem_append, List.mem_singleton]; exact or_comm
theorem insK_len {a : Int} {ks : List Int} : (insK a ks).length ≤ ks.length + 1 := by
  unfold insK
  split
  · exact Nat.le_succ _
  · rw [List.length_append]; exact Nat.le_refl _
theorem RI.congr {st : Str} {rd hi : Int} {fi : Option Int} {sp : Bool} {ps : Pcs} {S S' : Int → Prop} (I : RI st rd hi fi sp ps S) (h : ∀ x, S x ↔ S' x) : RI st rd hi fi sp ps S' := by
  have : S = S' := funext fun x => propext (h x)
  exact this ▸ I
theorem due_of {fi : Option Int} {hi en : Int} {isf : Bool} (h : dueOf fi hi en isf = none) : ∀ c, ¬ dueOf fi hi en isf = some c := fun c q => by rw [h] at q; cases q
section
variable {sd : Int} {zs : List Int} {ps : Pcs} {rd hi : Int} {sp : Bool} {ks : List Int} {k : V → List AObj → Prop} {st : Str}
theorem comeD_ok {f : Option Int} {rc : D} (hst : isLive st = false) (hrc : isLive st = true → rc = .none) (h1 : 0 ≤ sd ∧ sd < 2147483647) (I : RI st rd hi f sp ps (· ∈ ks))
    (hk : ∀ (sd' : Int) (zs' : List Int) (st' : Str) (ps' : Pcs) (hi' : Int) (f' : Option Int) (rc' : D) (ks' : List Int), (0 ≤ sd' ∧ sd' < 2147483647) → RI st' rd hi' f' sp ps' (· ∈ ks') → ks'.length ≤ ks.length + 20 → (isLive st' = true → rc' = .none) → k (.d (.bool true)) (WR (.box 1 sd') (iD zs') st' ps' rd hi' f' rc' sp ks')) :
    comeD st sd zs ps rd hi f rc sp ks k := by
  have fin : ∀ (sd' : Int) (zs' : List Int) (en : Int) (isf : Bool), (0 ≤ sd' ∧ sd' < 2147483647) → dueOf f hi en isf = none → k (.d (.bool true)) (WR (.box 1 sd') (iD zs') st ps rd (hi + max 0 (en - hi)) (if isf = true then some en else f) rc sp ks) := fun sd' zs' en isf hb hd =>
    hk sd' zs' st ps _ _ rc ks hb (I.old hd (by lia) (by lia) (by lia)) (by lia) hrc
  have bad : ∀ (sd' : Int) (zs' : List Int), (0 ≤ sd' ∧ sd' < 2147483647) → k (.d (.bool true)) (WR (.box 1 sd') (iD zs') st ps rd hi f rc sp ks) := fun sd' zs' hb => hk sd' zs' st ps hi f rc ks hb I (by lia) hrc
  refine ⟨zs, ⟨rfl, by decide, h1⟩, fun r sd1 zs1 ⟨hr, h1⟩ => ⟨zs1, ⟨rfl, by decide, h1⟩, fun en sd2 zs2 ⟨hen, h2⟩ => orD (fun e => ?_) fun e => ?_⟩⟩
  · refine ⟨zs2, ⟨rfl, by decide, h2⟩, fun r2 sd3 zs3 ⟨hr2, h3⟩ => ⟨rfl, f, rfl, fun hd => ⟨rfl, f, rfl, fun c hc => (due_of hd c hc).elim, fun _ => orND (fun q => absurd rfl q) fun _ => fin sd3 zs3 en true h3 hd⟩, fun c hc => ⟨rfl, f, rfl, fun c' hc' => ?_, fun hd => (due_of hd c hc).elim⟩⟩⟩
    rw [hc] at hc'
    cases hc'
    rw [decide_eq_true rfl]
    exact bad sd3 zs3 h3
  · refine ⟨zs2, ⟨rfl, by decide, h2⟩, fun r2 sd3 zs3 ⟨hr2, h3⟩ => ⟨zs3, ⟨rfl, by decide, h3⟩, fun r3 sd4 zs4 ⟨hr3, h4⟩ => ?_⟩⟩
    generalize ho : max (0 : Int) (en - r2) = o
    have hm : o + (((en - o).toNat : Nat) : Int) = en := by lia
    refine orD (fun e3 => ?_) fun e3 => ?_
    · refine ⟨rfl, f, rfl, fun hd => ⟨⟨rfl, by lia, by lia⟩, rfl, ps, f, sp, (en - o).toNat, ⟨rfl, rfl, rfl, by lia, I.rd0, by lia, I.sep⟩, ?_⟩, fun c hc => ⟨⟨rfl, by lia, by lia⟩, rfl, ps, f, sp, (en - o).toNat, ⟨rfl, rfl, rfl, by lia, I.rd0, by lia, I.sep⟩, ?_⟩⟩
      · rw [hm]
        exact ⟨fun c hc => (due_of hd c hc).elim, fun _ => orND (fun q => absurd rfl q) fun _ => fin sd4 zs4 en true h4 hd⟩
      · rw [hm]
        refine ⟨fun c' hc' => ?_, fun hd => (due_of hd c hc).elim⟩
        rw [hc] at hc'
        cases hc'
        rw [decide_eq_true rfl]
        exact bad sd4 zs4 h4
    · refine ⟨rfl, f, rfl, fun hd => ⟨⟨rfl, by lia, by lia⟩, rfl, ps, f, sp, (en - o).toNat, ⟨rfl, rfl, rfl, by lia, I.rd0, by lia, I.sep⟩, ?_⟩, fun c hc => ⟨⟨rfl, by lia, by lia⟩, rfl, ps, f, sp, (en - o).toNat, ⟨rfl, rfl, rfl, by lia, I.rd0, by lia, I.sep⟩, ?_⟩⟩
      · rw [hm]
        exact ⟨fun c hc => (due_of hd c hc).elim, fun _ => orND (fun q => absurd rfl q) fun _ => fin sd4 zs4 en false h4 hd⟩
      · rw [hm]
        refine ⟨fun c' hc' => ?_, fun hd => (due_of hd c hc).elim⟩
        rw [hc] at hc'
        cases hc'
        rw [decide_eq_true rfl]
        exact bad sd4 zs4 h4
theorem live_tail {f f' : Option Int} {isf : Bool} {en o : Int} {ps' : Pcs} {st' : Str} {x : List Int} (hst : isLive st = true) (I : RI st rd hi f sp ps (· ∈ ks)) (hd : dueOf f hi en isf = none) (ho : 0 ≤ o ∧ o ≤ en) (hf : f' = if isf = true then some en else f)
    (hS' : SepP rd 12 ps') (hc : ∀ y, InP ps' y ↔ InP ps y ∨ (sp = false ∧ rd ≤ y ∧ o ≤ y ∧ y < en)) (hn : StNext st sp rd ps' f' st') (hx : ∀ y, y ∈ x ↔ y ∈ ks ∨ (o ≤ y ∧ y < en)) :
    RI st' rd (hi + max 0 (en - hi)) f' sp ps' (· ∈ x) ∧ ∀ ff, f' = some ff → (sp = false → (∀ y, rd ≤ y ∧ y < ff → y ∈ x) → st' = S "data_recvd") ∧ ((sp = true ∨ ¬ ∀ y, rd ≤ y ∧ y < ff → y ∈ x) → st' = S "size_known") := by
  have hx' : ∀ y, (y ∈ ks ∨ (o ≤ y ∧ y < en)) ↔ y ∈ x := fun y => (hx y).symm
  have cov : sp = false → ∀ y, InP ps' y ↔ y ∈ x ∧ rd ≤ y := fun hs y => by rw [I.cov2 hst hc hs y, hx']
  refine ⟨(I.data hst hd (c := max 0 (en - hi)) (by lia) (by lia) (by lia) ho.1 hf hS' hc hn).congr hx', fun ff e => ?_⟩
  subst e
  exact ⟨fun hs h => hn.yes cov hs fun y h1 h2 => h y ⟨h1, h2⟩, fun q => hn.no cov (q.imp id fun q h => q fun y hy => h y hy.1 hy.2)⟩
theorem isNil_map {zs : List Int} : isNil (zs.map D.int) = true ↔ zs = [] := by
  cases zs with
  | nil => exact ⟨fun _ => rfl, fun _ => rfl⟩
  | cons => exact ⟨fun h => Bool.noConfusion h, fun h => nomatch h⟩
theorem loop_step {o : Int} {i : Nat} {x : List Int} (hx : ∀ y, y ∈ x ↔ y ∈ ks ∨ (o ≤ y ∧ y < o + (i : Int))) (hl : x.length ≤ ks.length + i) : (∀ y, y ∈ insK (o + i) x ↔ y ∈ ks ∨ (o ≤ y ∧ y < o + ((i + 1 : Nat) : Int))) ∧ (insK (o + i) x).length ≤ ks.length + (i + 1) := by
  refine ⟨fun y => ?_, by have := insK_len (a := o + i) (ks := x); lia⟩
  rw [insK_mem, hx]
  constructor
  · rintro (q | q | q)
    · exact .inr (by lia)
    · exact .inl q
    · exact .inr (by lia)
  · rintro (q | q)
    · exact .inr (.inl q)
    · by_cases e : y = o + i
      · exact .inl e
      · exact .inr (.inr (by lia))
theorem comeN_ok (hst : isLive st = true) (h1 : 0 ≤ sd ∧ sd < 2147483647) (I : RI st rd hi none sp ps (· ∈ ks)) (hks : ks.length ≤ 4000)
    (hk : ∀ (sd' : Int) (zs' : List Int) (st' : Str) (ps' : Pcs) (hi' : Int) (f' : Option Int) (rc' : D) (ks' : List Int), (0 ≤ sd' ∧ sd' < 2147483647) → RI st' rd hi' f' sp ps' (· ∈ ks') → ks'.length ≤ ks.length + 20 → (isLive st' = true → rc' = .none) → k (.d (.bool true)) (WR (.box 1 sd') (iD zs') st' ps' rd hi' f' rc' sp ks')) :
    comeN st sd zs ps rd hi sp ks k := by
  have bad : ∀ (sd' : Int) (zs' : List Int), (0 ≤ sd' ∧ sd' < 2147483647) → k (.d (.bool true)) (WR (.box 1 sd') (iD zs') st ps rd hi none .none sp ks) := fun sd' zs' hb => hk sd' zs' st ps hi none .none ks hb I (by lia) fun _ => rfl
  have hrd := I.rd0
  have h12 := I.hi12
  have hrh := I.rdhi
  refine ⟨zs, ⟨rfl, by decide, h1⟩, fun r sd1 zs1 ⟨hr, h1⟩ => ⟨zs1, ⟨rfl, by decide, h1⟩, fun en sd2 zs2 ⟨hen, h2⟩ => orD (fun e => ?_) fun e => ?_⟩⟩
  · refine ⟨zs2, ⟨rfl, by decide, h2⟩, fun r2 sd3 zs3 ⟨hr2, h3⟩ => ⟨rfl, none, rfl, fun hd => ⟨rfl, none, rfl, fun c hc => (due_of hd c hc).elim, fun _ => orND (fun q => absurd rfl q) fun _ => ?_⟩, fun c hc => ⟨rfl, none, rfl, fun c' hc' => ?_, fun hd => (due_of hd c hc).elim⟩⟩⟩
    · rw [decide_eq_true rfl]
      exact hk sd3 zs3 (S "reset_recvd") [] _ (some en) (.int 7) ks h3 (I.reset (isf := true) rfl hd (by lia) (by lia) (by lia)) (by lia) fun q => absurd q (by decide)
    · rw [hc] at hc'
      cases hc'
      rw [decide_eq_true rfl]
      exact bad sd3 zs3 h3
  · refine ⟨zs2, ⟨rfl, by decide, h2⟩, fun r2 sd3 zs3 ⟨hr2, h3⟩ => ⟨zs3, ⟨rfl, by decide, h3⟩, fun r3 sd4 zs4 ⟨hr3, h4⟩ => ?_⟩⟩
    generalize ho : max (0 : Int) (en - r2) = o
    have hm : o + (((en - o).toNat : Nat) : Int) = en := by lia
    refine orD (fun e3 => ?_) fun e3 => ?_
    · refine ⟨rfl, none, rfl, fun hd => ⟨⟨rfl, by lia, by lia⟩, rfl, ps, none, sp, (en - o).toNat, ⟨rfl, rfl, rfl, by lia, I.rd0, by lia, I.sep⟩, ?_⟩, fun c hc => ⟨⟨rfl, by lia, by lia⟩, rfl, ps, none, sp, (en - o).toNat, ⟨rfl, rfl, rfl, by lia, I.rd0, by lia, I.sep⟩, ?_⟩⟩
      · rw [hm]
        refine ⟨fun c hc => (due_of hd c hc).elim, fun _ ps' st' hS' hc hn => orND (fun q => absurd rfl q) fun _ => ⟨⟨by lia, by lia, by lia, by lia⟩, ⟨ks, ⟨fun y => ⟨.inl, fun q => q.elim id fun q => by lia⟩, Nat.le_refl _⟩, rfl, rfl, rfl, trivial⟩, fun i x ⟨hlt, hx, hl⟩ => ⟨by lia, _, loop_step hx hl, rfl, rfl, rfl, trivial⟩, fun x ⟨hx, hl⟩ => ?_⟩⟩
        obtain ⟨I', hw⟩ := live_tail hst I hd ⟨by lia, by lia⟩ rfl hS' hc hn hx
        obtain ⟨w1, w2⟩ := hw en rfl
        have go := hk sd4 zs4 st' ps' _ (some en) .none x h4 I' (by lia) fun _ => rfl
        refine orN (fun hs => ⟨⟨by lia, by lia, by lia, by lia⟩, fun zs hz _ => orB_i (fun q => ?_) fun q => ?_⟩) fun hs => ?_
        · have e := w1 hs (hz.mp (isNil_map.mp q))
          subst e; exact go
        · have e := w2 (.inr fun h => by rw [isNil_map.mpr (hz.mpr h)] at q; cases q)
          subst e; exact go
        · have e := w2 (.inl hs)
          subst e
          exact orN (fun q => Bool.noConfusion (q.symm.trans hs)) fun _ => go
      · rw [hm]
        refine ⟨fun c' hc' => ?_, fun hd => (due_of hd c hc).elim⟩
        rw [hc] at hc'
        cases hc'
        rw [decide_eq_true rfl]
        exact bad sd4 zs4 h4
    · refine ⟨rfl, none, rfl, fun hd => ⟨⟨rfl, by lia, by lia⟩, rfl, ps, none, sp, (en - o).toNat, ⟨rfl, rfl, rfl, by lia, I.rd0, by lia, I.sep⟩, ?_⟩, fun c hc => ⟨⟨rfl, by lia, by lia⟩, rfl, ps, none, sp, (en - o).toNat, ⟨rfl, rfl, rfl, by lia, I.rd0, by lia, I.sep⟩, ?_⟩⟩
      · rw [hm]
        refine ⟨fun c hc => (due_of hd c hc).elim, fun _ ps' st' hS' hc hn => orND (fun q => absurd rfl q) fun _ => ⟨⟨by lia, by lia, by lia, by lia⟩, ⟨ks, ⟨fun y => ⟨.inl, fun q => q.elim id fun q => by lia⟩, Nat.le_refl _⟩, rfl, rfl, rfl, trivial⟩, fun i x ⟨hlt, hx, hl⟩ => ⟨by lia, _, loop_step hx hl, rfl, rfl, rfl, trivial⟩, fun x ⟨hx, hl⟩ => ?_⟩⟩
        obtain ⟨I', hw⟩ := live_tail (isf := false) (f' := none) hst I hd ⟨by lia, by lia⟩ rfl hS' hc hn hx
        have e : st' = st := hn
        subst e
        exact hk sd4 zs4 st' ps' _ none .none x h4 I' (by lia) fun _ => rfl
      · rw [hm]
        refine ⟨fun c' hc' => ?_, fun hd => (due_of hd c hc).elim⟩
        rw [hc] at hc'
        cases hc'
        rw [decide_eq_true rfl]
        exact bad sd4 zs4 h4
theorem comeS_ok {f : Int} (hst : isLive st = true) (h1 : 0 ≤ sd ∧ sd < 2147483647) (I : RI st rd hi (some f) sp ps (· ∈ ks)) (hks : ks.length ≤ 4000)
    (hk : ∀ (sd' : Int) (zs' : List Int) (st' : Str) (ps' : Pcs) (hi' : Int) (f' : Option Int) (rc' : D) (ks' : List Int), (0 ≤ sd' ∧ sd' < 2147483647) → RI st' rd hi' f' sp ps' (· ∈ ks') → ks'.length ≤ ks.length + 20 → (isLive st' = true → rc' = .none) → k (.d (.bool true)) (WR (.box 1 sd') (iD zs') st' ps' rd hi' f' rc' sp ks')) :
    comeS st sd zs ps rd hi f sp ks k := by
  have bad : ∀ (sd' : Int) (zs' : List Int), (0 ≤ sd' ∧ sd' < 2147483647) → k (.d (.bool true)) (WR (.box 1 sd') (iD zs') st ps rd hi (some f) .none sp ks) := fun sd' zs' hb => hk sd' zs' st ps hi (some f) .none ks hb I (by lia) fun _ => rfl
  have hrd := I.rd0
  have h12 := I.hi12
  have hrh := I.rdhi
  refine ⟨zs, ⟨rfl, by decide, h1⟩, fun r sd1 zs1 ⟨hr, h1⟩ => ⟨zs1, ⟨rfl, by decide, h1⟩, fun en sd2 zs2 ⟨hen, h2⟩ => orD (fun e => ?_) fun e => ?_⟩⟩
  · refine ⟨zs2, ⟨rfl, by decide, h2⟩, fun r2 sd3 zs3 ⟨hr2, h3⟩ => ⟨rfl, some f, rfl, fun hd => ⟨rfl, some f, rfl, fun c hc => (due_of hd c hc).elim, fun _ => orND (fun q => absurd rfl q) fun _ => ?_⟩, fun c hc => ⟨rfl, some f, rfl, fun c' hc' => ?_, fun hd => (due_of hd c hc).elim⟩⟩⟩
    · rw [decide_eq_true rfl]
      exact hk sd3 zs3 (S "reset_recvd") [] _ (some en) (.int 7) ks h3 (I.reset (isf := true) rfl hd (by lia) (by lia) (by lia)) (by lia) fun q => absurd q (by decide)
    · rw [hc] at hc'
      cases hc'
      rw [decide_eq_true rfl]
      exact bad sd3 zs3 h3
  · refine ⟨zs2, ⟨rfl, by decide, h2⟩, fun r2 sd3 zs3 ⟨hr2, h3⟩ => ⟨zs3, ⟨rfl, by decide, h3⟩, fun r3 sd4 zs4 ⟨hr3, h4⟩ => ?_⟩⟩
    generalize ho : max (0 : Int) (en - r2) = o
    have hm : o + (((en - o).toNat : Nat) : Int) = en := by lia
    refine orD (fun e3 => ?_) fun e3 => ?_
    · refine ⟨rfl, some f, rfl, fun hd => ⟨⟨rfl, by lia, by lia⟩, rfl, ps, some f, sp, (en - o).toNat, ⟨rfl, rfl, rfl, by lia, I.rd0, by lia, I.sep⟩, ?_⟩, fun c hc => ⟨⟨rfl, by lia, by lia⟩, rfl, ps, some f, sp, (en - o).toNat, ⟨rfl, rfl, rfl, by lia, I.rd0, by lia, I.sep⟩, ?_⟩⟩
      · rw [hm]
        refine ⟨fun c hc => (due_of hd c hc).elim, fun _ ps' st' hS' hc hn => orND (fun q => absurd rfl q) fun _ => ⟨⟨by lia, by lia, by lia, by lia⟩, ⟨ks, ⟨fun y => ⟨.inl, fun q => q.elim id fun q => by lia⟩, Nat.le_refl _⟩, rfl, rfl, rfl, trivial⟩, fun i x ⟨hlt, hx, hl⟩ => ⟨by lia, _, loop_step hx hl, rfl, rfl, rfl, trivial⟩, fun x ⟨hx, hl⟩ => ?_⟩⟩
        obtain ⟨I', hw⟩ := live_tail hst I hd ⟨by lia, by lia⟩ rfl hS' hc hn hx
        obtain ⟨w1, w2⟩ := hw en rfl
        have go := hk sd4 zs4 st' ps' _ (some en) .none x h4 I' (by lia) fun _ => rfl
        refine orN (fun hs => ⟨⟨by lia, by lia, by lia, by lia⟩, fun zs hz _ => orB_i (fun q => ?_) fun q => ?_⟩) fun hs => ?_
        · have e := w1 hs (hz.mp (isNil_map.mp q))
          subst e; exact go
        · have e := w2 (.inr fun h => by rw [isNil_map.mpr (hz.mpr h)] at q; cases q)
          subst e; exact go
        · have e := w2 (.inl hs)
          subst e
          exact orN (fun q => Bool.noConfusion (q.symm.trans hs)) fun _ => go
      · rw [hm]
        refine ⟨fun c' hc' => ?_, fun hd => (due_of hd c hc).elim⟩
        rw [hc] at hc'
        cases hc'
        rw [decide_eq_true rfl]
        exact bad sd4 zs4 h4
    · refine ⟨rfl, some f, rfl, fun hd => ⟨⟨rfl, by lia, by lia⟩, rfl, ps, some f, sp, (en - o).toNat, ⟨rfl, rfl, rfl, by lia, I.rd0, by lia, I.sep⟩, ?_⟩, fun c hc => ⟨⟨rfl, by lia, by lia⟩, rfl, ps, some f, sp, (en - o).toNat, ⟨rfl, rfl, rfl, by lia, I.rd0, by lia, I.sep⟩, ?_⟩⟩
      · rw [hm]
        refine ⟨fun c hc => (due_of hd c hc).elim, fun _ ps' st' hS' hc hn => orND (fun q => absurd rfl q) fun _ => ⟨⟨by lia, by lia, by lia, by lia⟩, ⟨ks, ⟨fun y => ⟨.inl, fun q => q.elim id fun q => by lia⟩, Nat.le_refl _⟩, rfl, rfl, rfl, trivial⟩, fun i x ⟨hlt, hx, hl⟩ => ⟨by lia, _, loop_step hx hl, rfl, rfl, rfl, trivial⟩, fun x ⟨hx, hl⟩ => ?_⟩⟩
        obtain ⟨I', hw⟩ := live_tail (isf := false) (f' := some f) hst I hd ⟨by lia, by lia⟩ rfl hS' hc hn hx
        obtain ⟨w1, w2⟩ := hw f rfl
        have hf := I.fin f rfl
        have go := hk sd4 zs4 st' ps' _ (some f) .none x h4 I' (by lia) fun _ => rfl
        refine orN (fun hs => ⟨⟨by lia, by lia, by lia, by lia⟩, fun zs hz _ => orB_i (fun q => ?_) fun q => ?_⟩) fun hs => ?_
        · have e := w1 hs (hz.mp (isNil_map.mp q))
          subst e; exact go
        · have e := w2 (.inr fun h => by rw [isNil_map.mpr (hz.mpr h)] at q; cases q)
          subst e; exact go
        · have e := w2 (.inl hs)
          subst e
          exact orN (fun q => Bool.noConfusion (q.symm.trans hs)) fun _ => go
      · rw [hm]
        refine ⟨fun c' hc' => ?_, fun hd => (due_of hd c hc).elim⟩
        rw [hc] at hc'
        cases hc'
        rw [decide_eq_true rfl]
        exact bad sd4 zs4 h4
end
theorem f332 : FnOkS 332 T332 4 := fnS_ok r332 (row_at 33 rfl) 3 40 false calls332 [] (by kernel_rfl) (by decide +kernel) (fun L' => .inr ⟨rfl, _, rfl⟩) (bind3 rfl fun _ _ _ => by kernel_rfl) (fun p hp => by
    simp only [List.mem_cons, List.not_mem_nil, or_false] at hp
    rcases hp with rfl | rfl | rfl | rfl
    · exact fun c h1 h2 => f320 c h1 (by lia)
    · exact fun c h1 h2 => f327 c h1 (by lia)
    · exact fun c h1 h2 => f137 c h1 (by lia)
    · exact f123) (fun _ h => nomatch h) fun Vs W k ex h0 => by
  refine A3g_go h0 fun e1 h => ?_
  clear h0
  subst e1
  · obtain ⟨sd, zs, st, ps, rd, hi, f, rc, sp, ks, ⟨⟨rfl, h1⟩, I, hl, hrc⟩, hk⟩ := h
    refine ⟨rfl, inv332, noWInv, ?_⟩
    cases hst : isLive st with
    | true =>
      have e := hrc hst
      subst e
      rcases live_nm hst with e | e <;> subst e <;> cases f
      · exact (vc332rn ..).mpr (comeN_ok hst h1 I hl hk)
      · exact (vc332rs ..).mpr (comeS_ok hst h1 I hl hk)
      · exact (vc332zn ..).mpr (comeN_ok hst h1 I hl hk)
      · exact (vc332zs ..).mpr (comeS_ok hst h1 I hl hk)
    | false =>
      rcases I.nm with e | e | e | e | e | e <;> subst e
      · exact absurd hst (by decide)
      · exact absurd hst (by decide)
      · exact (vc332a ..).mpr (comeD_ok hst hrc h1 I hk)
      · exact (vc332b ..).mpr (comeD_ok hst hrc h1 I hk)
      · exact (vc332c ..).mpr (comeD_ok hst hrc h1 I hk)
      · exact (vc332d ..).mpr (comeD_ok hst hrc h1 I hk)
end
noncomputable section
structure RX where
  sd : Int
  zs : List Int
  st : Str
  ps : Pcs
  rd : Int
  hi : Int
  f : Option Int
  rc : D
  sp : Bool
  ks : List Int
noncomputable abbrev RX.W (x : RX) : List AObj := WR (.box 1 x.sd) (iD x.zs) x.st x.ps x.rd x.hi x.f x.rc x.sp x.ks
structure RXok (i : Nat) (x : RX) : Prop where
  sd : 0 ≤ x.sd ∧ x.sd < 2147483647
  ri : RI x.st x.rd x.hi x.f x.sp x.ps (· ∈ x.ks)
  ks : x.ks.length ≤ 20 * i
  rc : isLive x.st = true → x.rc = .none
noncomputable abbrev L346 : Nat := 337
noncomputable abbrev inv346 : InvT := fun l st => match Nat.ble 100000 l with
  | false => some ⟨Unit, RX, [], fun _ => .none, fun x => ⟨x.W, [], [(S "box", .g 0), (S "part", .g 2), (S "here", .g 4)]⟩, fun i x => RXok i x ∧ i ≤ 8⟩
  | true => match Nat.beq l (100000 + L346), lk (S "turn") st.vars with
    | true, some (.d (.int t)) => some ⟨Unit, RX, [], fun _ => .none, fun x => ⟨x.W, [], [(S "box", .g 0), (S "part", .g 2), (S "here", .g 4)]⟩, fun _ x => RXok (t.toNat + 1) x ∧ t.toNat < 8⟩
    | _, _ => none
noncomputable abbrev calls346 : CT := [(320, T320), (175, clsT 175 T102), (151, T151), (165, T165), (172, T172), (339, T339)]
structure SX where
  sd : Int
  zs : List Int
  st : Str
  wr : Int
  sn : Int
  kk : Int
  ac : List D
  fin : Bool
  oe : Bool
  ea : Bool
  rc : D
  fly : List (Int × Bool)
noncomputable abbrev SX.W (x : SX) : List AObj := WS (.box 1 x.sd) (iD x.zs) x.st x.wr x.sn x.kk x.ac x.fin x.oe x.ea x.rc x.fly
noncomputable abbrev inv367 : InvT := forInv ⟨Unit, SX, [], fun _ => .none, fun x => ⟨x.W, [none], [(S "box", .g 0), (S "part", .g 2), (S "here", .g 4)]⟩, fun i x => (0 ≤ x.sd ∧ x.sd < 2147483647) ∧ (SH i x.st x.wr x.sn x.kk x.ac x.fin x.oe x.ea x.rc x.fly ∧ i ≤ 10)⟩
noncomputable abbrev calls367 : CT := [(302, clsT 302 T194), (299, T299)]
noncomputable def T367 : CallT := T346
noncomputable abbrev calls360 : CT := [(320, T320), (257, T257), (215, T215), (222, T215), (264, T264), (292, T292), (285, T285), (271, T271)]
end
noncomputable section
theorem vc346 (sd : Int) (zs : List Int) (k : V → List AObj → Prop) : (vcFS r346 false (calls346 ++ [(332, T332)]) inv346 noWInv [.g 0] [.box 1 sd, iD zs] k) = (noL [V.d (D.int (12 : Int))] = true ∧ V.d D.none = V.d D.none ∧ ((-4096 : Int) ≤ (0 : Int) ∧ (0 : Int) ≤ (4096 : Int) ∧ (-4096 : Int) ≤ (8 : Int) ∧ (8 : Int) ≤ (4096 : Int)) ∧ (∃ (x : RX), (RXok (0 : Nat) x ∧ (0 : Nat) ≤ (8 : Nat)) ∧ [AObj.box (1 : Nat) (RX.sd x), AObj.lst (List.map D.int (RX.zs x)), rO (RX.st x) (List.map encP (RX.ps x)) (RX.rd x) (RX.hi x) (fD (RX.f x)) (RX.rc x) (scD (RX.sp x)), AObj.iset (RX.ks x), hR (fD (RX.f x)) (RX.hi x) (RX.st x) (RX.rd x) (RX.sp x)] = [AObj.box (1 : Nat) sd, AObj.lst (List.map D.int zs), rO (S "recv") [] (0 : Int) (0 : Int) D.none D.none D.none, AObj.iset [], hR D.none (0 : Int) (S "recv") (0 : Int) false] ∧ @List.nil (Option (List D)) = [] ∧ some (V.g (0 : Nat)) = some (V.g (0 : Nat)) ∧ some (V.g (2 : Nat)) = some (V.g (2 : Nat)) ∧ some (V.g (4 : Nat)) = some (V.g (4 : Nat)) ∧ True) ∧ (∀ (i : Nat) (x : RX), (0 : Int) + ↑i < (8 : Int) ∧ RXok i x ∧ i ≤ (8 : Nat) → ∃ (zs : List Int), (List.map D.int (RX.zs x) = List.map D.int zs ∧ (0 : Int) < (6 : Int) ∧ 0 ≤ RX.sd x ∧ RX.sd x < (2147483647 : Int)) ∧ ∀ (r sd' : Int) (zs' : List Int), (0 ≤ r ∧ r < (6 : Int)) ∧ 0 ≤ sd' ∧ sd' < (2147483647 : Int) → orB (decide (r = (5 : Int))) (orB (List.any [S "recv", S "size_known"] fun (x_1 : Str) => x_1 == RX.st x) (orB (!RX.sp x) ([AObj.box (1 : Nat) sd', AObj.lst (List.map D.int zs'), rO (RX.st x) (List.map encP (RX.ps x)) (RX.rd x) (RX.hi x) (fD (RX.f x)) (RX.rc x) (scD (RX.sp x)), AObj.iset (RX.ks x), hR (fD (RX.f x)) (RX.hi x) (RX.st x) (RX.rd x) (RX.sp x)] = [AObj.box (1 : Nat) sd', AObj.lst (List.map D.int zs'), rO (RX.st x) (List.map encP (RX.ps x)) (RX.rd x) (RX.hi x) (fD (RX.f x)) (RX.rc x) (scD (RX.sp x)), AObj.iset (RX.ks x), hR (fD (RX.f x)) (RX.hi x) (RX.st x) (RX.rd x) (RX.sp x)] ∧ ∃ (sp : Bool), scD (RX.sp x) = scD sp ∧ (isLive (RX.st x) = false ∨ sp = true → k (V.d (D.bool false)) [AObj.box (1 : Nat) sd', AObj.lst (List.map D.int zs'), rO (RX.st x) (List.map encP (RX.ps x)) (RX.rd x) (RX.hi x) (fD (RX.f x)) (RX.rc x) (scD (RX.sp x)), AObj.iset (RX.ks x), hR (fD (RX.f x)) (RX.hi x) (RX.st x) (RX.rd x) (RX.sp x)]) ∧ (isLive (RX.st x) = true ∧ sp = false → orB (RX.sp x) (∃ (x_1 : RX), (RXok (Int.toNat ((0 : Int) + ↑i) + (1 : Nat)) x_1 ∧ Int.toNat ((0 : Int) + ↑i) < (8 : Nat)) ∧ [AObj.box (1 : Nat) (RX.sd x_1), AObj.lst (List.map D.int (RX.zs x_1)), rO (RX.st x_1) (List.map encP (RX.ps x_1)) (RX.rd x_1) (RX.hi x_1) (fD (RX.f x_1)) (RX.rc x_1) (scD (RX.sp x_1)), AObj.iset (RX.ks x_1), hR (fD (RX.f x_1)) (RX.hi x_1) (RX.st x_1) (RX.rd x_1) (RX.sp x_1)] = [AObj.box (1 : Nat) sd', AObj.lst (List.map D.int zs'), rO (RX.st x) [] (RX.rd x) (RX.hi x) (fD (RX.f x)) (RX.rc x) (D.int (3 : Int)), AObj.iset (RX.ks x), hR (fD (RX.f x)) (RX.hi x) (RX.st x) (RX.rd x) (RX.sp x)] ∧ @List.nil (Option (List D)) = [] ∧ some (V.g (0 : Nat)) = some
(V.g (0 : Nat)) ∧ some (V.g (2 : Nat)) = some (V.g (2 : Nat)) ∧ some (V.g (4 : Nat)) = some (V.g (4 : Nat)) ∧ True) (∃ (x_1 : RX), (RXok (Int.toNat ((0 : Int) + ↑i) + (1 : Nat)) x_1 ∧ Int.toNat ((0 : Int) + ↑i) < (8 : Nat)) ∧ [AObj.box (1 : Nat) (RX.sd x_1), AObj.lst (List.map D.int (RX.zs x_1)), rO (RX.st x_1) (List.map encP (RX.ps x_1)) (RX.rd x_1) (RX.hi x_1) (fD (RX.f x_1)) (RX.rc x_1) (scD (RX.sp x_1)), AObj.iset (RX.ks x_1), hR (fD (RX.f x_1)) (RX.hi x_1) (RX.st x_1) (RX.rd x_1) (RX.sp x_1)] = [AObj.box (1 : Nat) sd', AObj.lst (List.map D.int zs'), rO (RX.st x) [] (RX.rd x) (RX.hi x) (fD (RX.f x)) (RX.rc x) (D.int (3 : Int)), AObj.iset (RX.ks x), hR (fD (RX.f x)) (RX.hi x) (RX.st x) (RX.rd x) true] ∧ @List.nil (Option (List D)) = [] ∧ some (V.g (0 : Nat)) = some (V.g (0 : Nat)) ∧ some (V.g (2 : Nat)) = some (V.g (2 : Nat)) ∧ some (V.g (4 : Nat)) = some (V.g (4 : Nat)) ∧ True))) ([AObj.box (1 : Nat) sd', AObj.lst (List.map D.int zs'), rO (RX.st x) (List.map encP (RX.ps x)) (RX.rd x) (RX.hi x) (fD (RX.f x)) (RX.rc x) (scD (RX.sp x)), AObj.iset (RX.ks x), hR (fD (RX.f x)) (RX.hi x) (RX.st x) (RX.rd x) (RX.sp x)] = [AObj.box (1 : Nat) sd', AObj.lst (List.map D.int zs'), rO (RX.st x) (List.map encP (RX.ps x)) (RX.rd x) (RX.hi x) (fD (RX.f x)) (RX.rc x) (scD (RX.sp x)), AObj.iset (RX.ks x), hR (fD (RX.f x)) (RX.hi x) (RX.st x) (RX.rd x) (RX.sp x)] ∧ ∃ (sp : Bool), scD (RX.sp x) = scD sp ∧ (isLive (RX.st x) = false ∨ sp = true → orB (RX.sp x) (∃ (x_1 : RX), (RXok (Int.toNat ((0 : Int) + ↑i) + (1 : Nat)) x_1 ∧ Int.toNat ((0 : Int) + ↑i) < (8 : Nat)) ∧ [AObj.box (1 : Nat) (RX.sd x_1), AObj.lst (List.map D.int (RX.zs x_1)), rO (RX.st x_1) (List.map encP (RX.ps x_1)) (RX.rd x_1) (RX.hi x_1) (fD (RX.f x_1)) (RX.rc x_1) (scD (RX.sp x_1)), AObj.iset (RX.ks x_1), hR (fD (RX.f x_1)) (RX.hi x_1) (RX.st x_1) (RX.rd x_1) (RX.sp x_1)] = [AObj.box (1 : Nat) sd', AObj.lst (List.map D.int zs'), rO (RX.st x) (List.map encP (RX.ps x)) (RX.rd x) (RX.hi x) (fD (RX.f x)) (RX.rc x) (scD (RX.sp x)), AObj.iset (RX.ks x), hR (fD (RX.f x)) (RX.hi x) (RX.st x) (RX.rd x) (RX.sp x)] ∧ @List.nil (Option (List D)) = [] ∧ some (V.g (0 : Nat)) = some (V.g (0 : Nat)) ∧ some (V.g (2 : Nat)) = some (V.g (2 : Nat)) ∧ some (V.g (4 : Nat)) = some (V.g (4 : Nat)) ∧ True) (∃ (x_1 : RX), (RXok (Int.toNat ((0 : Int) + ↑i) + (1 : Nat)) x_1 ∧ Int.toNat ((0 : Int) + ↑i) < (8 : Nat)) ∧ [AObj.box (1 : Nat) (RX.sd x_1), AObj.lst (List.map D.int (RX.zs x_1)), rO (RX.st x_1) (List.map encP (RX.ps x_1)) (RX.rd x_1) (RX.hi x_1) (fD (RX.f x_1)) (RX.rc x_1) (scD (RX.sp x_1)), AObj.iset (RX.ks x_1), hR (fD (RX.f x_1)) (RX.hi x_1) (RX.st x_1) (RX.rd x_1) (RX.sp x_1)] = [AObj.box (1 : Nat) sd', AObj.lst (List.map D.int zs'), rO (RX.st x) (List.map encP (RX.ps x)) (RX.rd x) (RX.hi x) (fD (RX.f x)) (RX.rc x) (scD (RX.sp x)), AObj.iset (RX.ks x), hR (fD (RX.f x)) (RX.hi x) (RX.st x) (RX.rd x) false] ∧ @List.nil (Option (List D)) = [] ∧ some (V.g (0 : Nat)) = some (V.g (0 : Nat)) ∧ some (V.g (2 : Nat)) =
some (V.g (2 : Nat)) ∧ some (V.g (4 : Nat)) = some (V.g (4 : Nat)) ∧ True)) ∧ (isLive (RX.st x) = true ∧ sp = false → k (V.d (D.bool false)) [AObj.box (1 : Nat) sd', AObj.lst (List.map D.int zs'), rO (RX.st x) [] (RX.rd x) (RX.hi x) (fD (RX.f x)) (RX.rc x) (D.int (3 : Int)), AObj.iset (RX.ks x), hR (fD (RX.f x)) (RX.hi x) (RX.st x) (RX.rd x) (RX.sp x)]))) (orB (List.any [S "recv", S "size_known"] fun (x_1 : Str) => x_1 == RX.st x) ([AObj.box (1 : Nat) sd', AObj.lst (List.map D.int zs'), rO (RX.st x) (List.map encP (RX.ps x)) (RX.rd x) (RX.hi x) (fD (RX.f x)) (RX.rc x) (scD (RX.sp x)), AObj.iset (RX.ks x), hR (fD (RX.f x)) (RX.hi x) (RX.st x) (RX.rd x) (RX.sp x)] = [AObj.box (1 : Nat) sd', AObj.lst (List.map D.int zs'), rO (RX.st x) (List.map encP (RX.ps x)) (RX.rd x) (RX.hi x) (fD (RX.f x)) (RX.rc x) (scD (RX.sp x)), AObj.iset (RX.ks x), hR (fD (RX.f x)) (RX.hi x) (RX.st x) (RX.rd x) (RX.sp x)] ∧ ∃ (sp : Bool), scD (RX.sp x) = scD sp ∧ (isLive (RX.st x) = false ∨ sp = true → k (V.d (D.bool false)) [AObj.box (1 : Nat) sd', AObj.lst (List.map D.int zs'), rO (RX.st x) (List.map encP (RX.ps x)) (RX.rd x) (RX.hi x) (fD (RX.f x)) (RX.rc x) (scD (RX.sp x)), AObj.iset (RX.ks x), hR (fD (RX.f x)) (RX.hi x) (RX.st x) (RX.rd x) (RX.sp x)]) ∧ (isLive (RX.st x) = true ∧ sp = false → orB (RX.sp x) (∃ (x_1 : RX), (RXok (Int.toNat ((0 : Int) + ↑i) + (1 : Nat)) x_1 ∧ Int.toNat ((0 : Int) + ↑i) < (8 : Nat)) ∧ [AObj.box (1 : Nat) (RX.sd x_1), AObj.lst (List.map D.int (RX.zs x_1)), rO (RX.st x_1) (List.map encP (RX.ps x_1)) (RX.rd x_1) (RX.hi x_1) (fD (RX.f x_1)) (RX.rc x_1) (scD (RX.sp x_1)), AObj.iset (RX.ks x_1), hR (fD (RX.f x_1)) (RX.hi x_1) (RX.st x_1) (RX.rd x_1) (RX.sp x_1)] = [AObj.box (1 : Nat) sd', AObj.lst (List.map D.int zs'), rO (RX.st x) [] (RX.rd x) (RX.hi x) (fD (RX.f x)) (RX.rc x) (D.int (3 : Int)), AObj.iset (RX.ks x), hR (fD (RX.f x)) (RX.hi x) (RX.st x) (RX.rd x) (RX.sp x)] ∧ @List.nil (Option (List D)) = [] ∧ some (V.g (0 : Nat)) = some (V.g (0 : Nat)) ∧ some (V.g (2 : Nat)) = some (V.g (2 : Nat)) ∧ some (V.g (4 : Nat)) = some (V.g (4 : Nat)) ∧ True) (∃ (x_1 : RX), (RXok (Int.toNat ((0 : Int) + ↑i) + (1 : Nat)) x_1 ∧ Int.toNat ((0 : Int) + ↑i) < (8 : Nat)) ∧ [AObj.box (1 : Nat) (RX.sd x_1), AObj.lst (List.map D.int (RX.zs x_1)), rO (RX.st x_1) (List.map encP (RX.ps x_1)) (RX.rd x_1) (RX.hi x_1) (fD (RX.f x_1)) (RX.rc x_1) (scD (RX.sp x_1)), AObj.iset (RX.ks x_1), hR (fD (RX.f x_1)) (RX.hi x_1) (RX.st x_1) (RX.rd x_1) (RX.sp x_1)] = [AObj.box (1 : Nat) sd', AObj.lst (List.map D.int zs'), rO (RX.st x) [] (RX.rd x) (RX.hi x) (fD (RX.f x)) (RX.rc x) (D.int (3 : Int)), AObj.iset (RX.ks x), hR (fD (RX.f x)) (RX.hi x) (RX.st x) (RX.rd x) true] ∧ @List.nil (Option (List D)) = [] ∧ some (V.g (0 : Nat)) = some (V.g (0 : Nat)) ∧ some (V.g (2 : Nat)) = some (V.g (2 : Nat)) ∧ some (V.g (4 : Nat)) = some (V.g (4 : Nat)) ∧ True))) ([AObj.box (1 : Nat) sd', AObj.lst (List.map D.int zs'), rO (RX.st x) (List.map encP (RX.ps x)) (RX.rd x) (RX.hi x) (fD (RX.f x))
(RX.rc x) (scD (RX.sp x)), AObj.iset (RX.ks x), hR (fD (RX.f x)) (RX.hi x) (RX.st x) (RX.rd x) (RX.sp x)] = [AObj.box (1 : Nat) sd', AObj.lst (List.map D.int zs'), rO (RX.st x) (List.map encP (RX.ps x)) (RX.rd x) (RX.hi x) (fD (RX.f x)) (RX.rc x) (scD (RX.sp x)), AObj.iset (RX.ks x), hR (fD (RX.f x)) (RX.hi x) (RX.st x) (RX.rd x) (RX.sp x)] ∧ ∃ (sp : Bool), scD (RX.sp x) = scD sp ∧ (isLive (RX.st x) = false ∨ sp = true → orB (RX.sp x) (∃ (x_1 : RX), (RXok (Int.toNat ((0 : Int) + ↑i) + (1 : Nat)) x_1 ∧ Int.toNat ((0 : Int) + ↑i) < (8 : Nat)) ∧ [AObj.box (1 : Nat) (RX.sd x_1), AObj.lst (List.map D.int (RX.zs x_1)), rO (RX.st x_1) (List.map encP (RX.ps x_1)) (RX.rd x_1) (RX.hi x_1) (fD (RX.f x_1)) (RX.rc x_1) (scD (RX.sp x_1)), AObj.iset (RX.ks x_1), hR (fD (RX.f x_1)) (RX.hi x_1) (RX.st x_1) (RX.rd x_1) (RX.sp x_1)] = [AObj.box (1 : Nat) sd', AObj.lst (List.map D.int zs'), rO (RX.st x) (List.map encP (RX.ps x)) (RX.rd x) (RX.hi x) (fD (RX.f x)) (RX.rc x) (scD (RX.sp x)), AObj.iset (RX.ks x), hR (fD (RX.f x)) (RX.hi x) (RX.st x) (RX.rd x) (RX.sp x)] ∧ @List.nil (Option (List D)) = [] ∧ some (V.g (0 : Nat)) = some (V.g (0 : Nat)) ∧ some (V.g (2 : Nat)) = some (V.g (2 : Nat)) ∧ some (V.g (4 : Nat)) = some (V.g (4 : Nat)) ∧ True) (∃ (x_1 : RX), (RXok (Int.toNat ((0 : Int) + ↑i) + (1 : Nat)) x_1 ∧ Int.toNat ((0 : Int) + ↑i) < (8 : Nat)) ∧ [AObj.box (1 : Nat) (RX.sd x_1), AObj.lst (List.map D.int (RX.zs x_1)), rO (RX.st x_1) (List.map encP (RX.ps x_1)) (RX.rd x_1) (RX.hi x_1) (fD (RX.f x_1)) (RX.rc x_1) (scD (RX.sp x_1)), AObj.iset (RX.ks x_1), hR (fD (RX.f x_1)) (RX.hi x_1) (RX.st x_1) (RX.rd x_1) (RX.sp x_1)] = [AObj.box (1 : Nat) sd', AObj.lst (List.map D.int zs'), rO (RX.st x) (List.map encP (RX.ps x)) (RX.rd x) (RX.hi x) (fD (RX.f x)) (RX.rc x) (scD (RX.sp x)), AObj.iset (RX.ks x), hR (fD (RX.f x)) (RX.hi x) (RX.st x) (RX.rd x) false] ∧ @List.nil (Option (List D)) = [] ∧ some (V.g (0 : Nat)) = some (V.g (0 : Nat)) ∧ some (V.g (2 : Nat)) = some (V.g (2 : Nat)) ∧ some (V.g (4 : Nat)) = some (V.g (4 : Nat)) ∧ True)) ∧ (isLive (RX.st x) = true ∧ sp = false → k (V.d (D.bool false)) [AObj.box (1 : Nat) sd', AObj.lst (List.map D.int zs'), rO (RX.st x) [] (RX.rd x) (RX.hi x) (fD (RX.f x)) (RX.rc x) (D.int (3 : Int)), AObj.iset (RX.ks x), hR (fD (RX.f x)) (RX.hi x) (RX.st x) (RX.rd x) (RX.sp x)])))) (orB (decide (r = (4 : Int))) (∃ (b : AObj), ∃ (l : AObj), ∃ (st : Str), ∃ (ps : Pcs), ∃ (rd : Int), ∃ (hi : Int), ∃ (f : Option Int), ∃ (rc : D), ∃ (sp : Bool), ∃ (ks : List Int), ([AObj.box (1 : Nat) sd', AObj.lst (List.map D.int zs'), rO (RX.st x) (List.map encP (RX.ps x)) (RX.rd x) (RX.hi x) (fD (RX.f x)) (RX.rc x) (scD (RX.sp x)), AObj.iset (RX.ks x), hR (fD (RX.f x)) (RX.hi x) (RX.st x) (RX.rd x) (RX.sp x)] = [b, l, rO st (List.map encP ps) rd hi (fD f) rc (scD sp), AObj.iset ks, hR (fD f) hi st rd sp] ∧ RI st rd hi f sp ps fun (x : Int) => x ∈ ks) ∧ ∀ (st' : Str) (ps' : Pcs) (rd' : Int), (RI st' rd' hi f sp ps' fun (x : Int) => x ∈ ks) → (isLive st' = true
→ st' = st) → ∃ (x : RX), (RXok (Int.toNat ((0 : Int) + ↑i) + (1 : Nat)) x ∧ Int.toNat ((0 : Int) + ↑i) < (8 : Nat)) ∧ [AObj.box (1 : Nat) (RX.sd x), AObj.lst (List.map D.int (RX.zs x)), rO (RX.st x) (List.map encP (RX.ps x)) (RX.rd x) (RX.hi x) (fD (RX.f x)) (RX.rc x) (scD (RX.sp x)), AObj.iset (RX.ks x), hR (fD (RX.f x)) (RX.hi x) (RX.st x) (RX.rd x) (RX.sp x)] = [b, l, rO st' (List.map encP ps') rd' hi (fD f) rc (scD sp), AObj.iset ks, hR (fD f) hi st' rd' sp] ∧ @List.nil (Option (List D)) = [] ∧ some (V.g (0 : Nat)) = some (V.g (0 : Nat)) ∧ some (V.g (2 : Nat)) = some (V.g (2 : Nat)) ∧ some (V.g (4 : Nat)) = some (V.g (4 : Nat)) ∧ True) (∃ (sd : Int), ∃ (zs : List Int), ∃ (st : Str), ∃ (ps : Pcs), ∃ (rd : Int), ∃ (hi : Int), ∃ (f : Option Int), ∃ (rc : D), ∃ (sp : Bool), ∃ (ks : List Int), (([AObj.box (1 : Nat) sd', AObj.lst (List.map D.int zs'), rO (RX.st x) (List.map encP (RX.ps x)) (RX.rd x) (RX.hi x) (fD (RX.f x)) (RX.rc x) (scD (RX.sp x)), AObj.iset (RX.ks x), hR (fD (RX.f x)) (RX.hi x) (RX.st x) (RX.rd x) (RX.sp x)] = [AObj.box (1 : Nat) sd, AObj.lst (List.map D.int zs), rO st (List.map encP ps) rd hi (fD f) rc (scD sp), AObj.iset ks, hR (fD f) hi st rd sp] ∧ 0 ≤ sd ∧ sd < (2147483647 : Int)) ∧ (RI st rd hi f sp ps fun (x : Int) => x ∈ ks) ∧ List.length ks ≤ (4000 : Nat) ∧ (isLive st = true → rc = D.none)) ∧ ∀ (sd' : Int) (zs' : List Int) (st' : Str) (ps' : Pcs) (hi' : Int) (f' : Option Int) (rc' : D) (ks' : List Int), 0 ≤ sd' ∧ sd' < (2147483647 : Int) → (RI st' rd hi' f' sp ps' fun (x : Int) => x ∈ ks') → List.length ks' ≤ List.length ks + (20 : Nat) → (isLive st' = true → rc' = D.none) → ∃ (x : RX), (RXok (Int.toNat ((0 : Int) + ↑i) + (1 : Nat)) x ∧ Int.toNat ((0 : Int) + ↑i) < (8 : Nat)) ∧ [AObj.box (1 : Nat) (RX.sd x), AObj.lst (List.map D.int (RX.zs x)), rO (RX.st x) (List.map encP (RX.ps x)) (RX.rd x) (RX.hi x) (fD (RX.f x)) (RX.rc x) (scD (RX.sp x)), AObj.iset (RX.ks x), hR (fD (RX.f x)) (RX.hi x) (RX.st x) (RX.rd x) (RX.sp x)] = [AObj.box (1 : Nat) sd', AObj.lst (List.map D.int zs'), rO st' (List.map encP ps') rd hi' (fD f') rc' (scD sp), AObj.iset ks', hR (fD f') hi' st' rd sp] ∧ @List.nil (Option (List D)) = [] ∧ some (V.g (0 : Nat)) = some (V.g (0 : Nat)) ∧ some (V.g (2 : Nat)) = some (V.g (2 : Nat)) ∧ some (V.g (4 : Nat)) = some (V.g (4 : Nat)) ∧ True)) ∧ ∀ (x : RX), RXok (Int.toNat ((0 : Int) + ↑i) + (1 : Nat)) x ∧ Int.toNat ((0 : Int) + ↑i) < (8 : Nat) → orB (RX.sp x) (orB (RX.sp x) (orB (!RX.st x == RX.st x) (k (V.d (D.bool false)) [AObj.box (1 : Nat) (RX.sd x), AObj.lst (List.map D.int (RX.zs x)), rO (RX.st x) (List.map encP (RX.ps x)) (RX.rd x) (RX.hi x) (fD (RX.f x)) (RX.rc x) (scD (RX.sp x)), AObj.iset (RX.ks x), hR (fD (RX.f x)) (RX.hi x) (RX.st x) (RX.rd x) (RX.sp x)]) ([AObj.box (1 : Nat) (RX.sd x), AObj.lst (List.map D.int (RX.zs x)), rO (RX.st x) (List.map encP (RX.ps x)) (RX.rd x) (RX.hi x) (fD (RX.f x)) (RX.rc x) (scD (RX.sp x)), AObj.iset (RX.ks x), hR (fD (RX.f x)) (RX.hi x) (RX.st x) (RX.rd
x) (RX.sp x)] = [AObj.box (1 : Nat) (RX.sd x), AObj.lst (List.map D.int (RX.zs x)), rO (RX.st x) (List.map encP (RX.ps x)) (RX.rd x) (RX.hi x) (fD (RX.f x)) (RX.rc x) (scD (RX.sp x)), AObj.iset (RX.ks x), hR (fD (RX.f x)) (RX.hi x) (RX.st x) (RX.rd x) (RX.sp x)] ∧ ∃ (sp : Bool), scD (RX.sp x) = scD sp ∧ orB (!decide ((if (sp || isRst (RX.st x)) = true then RX.hi x else RX.rd x) = RX.hi x)) (k (V.d (D.bool false)) [AObj.box (1 : Nat) (RX.sd x), AObj.lst (List.map D.int (RX.zs x)), rO (RX.st x) (List.map encP (RX.ps x)) (RX.rd x) (RX.hi x) (fD (RX.f x)) (RX.rc x) (scD (RX.sp x)), AObj.iset (RX.ks x), hR (fD (RX.f x)) (RX.hi x) (RX.st x) (RX.rd x) (RX.sp x)]) ([AObj.box (1 : Nat) (RX.sd x), AObj.lst (List.map D.int (RX.zs x)), rO (RX.st x) (List.map encP (RX.ps x)) (RX.rd x) (RX.hi x) (fD (RX.f x)) (RX.rc x) (scD (RX.sp x)), AObj.iset (RX.ks x), hR (fD (RX.f x)) (RX.hi x) (RX.st x) (RX.rd x) (RX.sp x)] = [AObj.box (1 : Nat) (RX.sd x), AObj.lst (List.map D.int (RX.zs x)), rO (RX.st x) (List.map encP (RX.ps x)) (RX.rd x) (RX.hi x) (fD (RX.f x)) (RX.rc x) (scD (RX.sp x)), AObj.iset (RX.ks x), hR (fD (RX.f x)) (RX.hi x) (RX.st x) (RX.rd x) (RX.sp x)] ∧ ∃ (sp : Bool), ∃ (f : Option Int), (scD (RX.sp x) = scD sp ∧ fD (RX.f x) = fD f) ∧ orB (List.any [S "data_read", S "reset_read"] fun (x_1 : Str) => x_1 == RX.st x) (orB (!(isEnd (RX.st x) || sp && Option.isSome f) == List.any [S "data_read", S "reset_read"] fun (x_1 : Str) => x_1 == RX.st x) (k (V.d (D.bool false)) [AObj.box (1 : Nat) (RX.sd x), AObj.lst (List.map D.int (RX.zs x)), rO (RX.st x) (List.map encP (RX.ps x)) (RX.rd x) (RX.hi x) (fD (RX.f x)) (RX.rc x) (scD (RX.sp x)), AObj.iset (RX.ks x), hR (fD (RX.f x)) (RX.hi x) (RX.st x) (RX.rd x) (RX.sp x)]) (∃ (x_1 : RX), (RXok (i + (1 : Nat)) x_1 ∧ i + (1 : Nat) ≤ (8 : Nat)) ∧ [AObj.box (1 : Nat) (RX.sd x_1), AObj.lst (List.map D.int (RX.zs x_1)), rO (RX.st x_1) (List.map encP (RX.ps x_1)) (RX.rd x_1) (RX.hi x_1) (fD (RX.f x_1)) (RX.rc x_1) (scD (RX.sp x_1)), AObj.iset (RX.ks x_1), hR (fD (RX.f x_1)) (RX.hi x_1) (RX.st x_1) (RX.rd x_1) (RX.sp x_1)] = [AObj.box (1 : Nat) (RX.sd x), AObj.lst (List.map D.int (RX.zs x)), rO (RX.st x) (List.map encP (RX.ps x)) (RX.rd x) (RX.hi x) (fD (RX.f x)) (RX.rc x) (scD (RX.sp x)), AObj.iset (RX.ks x), hR (fD (RX.f x)) (RX.hi x) (RX.st x) (RX.rd x) (RX.sp x)] ∧ @List.nil (Option (List D)) = [] ∧ some (V.g (0 : Nat)) = some (V.g (0 : Nat)) ∧ some (V.g (2 : Nat)) = some (V.g (2 : Nat)) ∧ some (V.g (4 : Nat)) = some (V.g (4 : Nat)) ∧ True)) (orB (RX.sp x) (orB (!(isEnd (RX.st x) || sp && Option.isSome f) == !isNoneD (fD (RX.f x))) (k (V.d (D.bool false)) [AObj.box (1 : Nat) (RX.sd x), AObj.lst (List.map D.int (RX.zs x)), rO (RX.st x) (List.map encP (RX.ps x)) (RX.rd x) (RX.hi x) (fD (RX.f x)) (RX.rc x) (scD (RX.sp x)), AObj.iset (RX.ks x), hR (fD (RX.f x)) (RX.hi x) (RX.st x) (RX.rd x) (RX.sp x)]) (∃ (x_1 : RX), (RXok (i + (1 : Nat)) x_1 ∧ i + (1 : Nat) ≤ (8 : Nat)) ∧ [AObj.box (1 : Nat) (RX.sd x_1), AObj.lst (List.map
D.int (RX.zs x_1)), rO (RX.st x_1) (List.map encP (RX.ps x_1)) (RX.rd x_1) (RX.hi x_1) (fD (RX.f x_1)) (RX.rc x_1) (scD (RX.sp x_1)), AObj.iset (RX.ks x_1), hR (fD (RX.f x_1)) (RX.hi x_1) (RX.st x_1) (RX.rd x_1) (RX.sp x_1)] = [AObj.box (1 : Nat) (RX.sd x), AObj.lst (List.map D.int (RX.zs x)), rO (RX.st x) (List.map encP (RX.ps x)) (RX.rd x) (RX.hi x) (fD (RX.f x)) (RX.rc x) (scD (RX.sp x)), AObj.iset (RX.ks x), hR (fD (RX.f x)) (RX.hi x) (RX.st x) (RX.rd x) (RX.sp x)] ∧ @List.nil (Option (List D)) = [] ∧ some (V.g (0 : Nat)) = some (V.g (0 : Nat)) ∧ some (V.g (2 : Nat)) = some (V.g (2 : Nat)) ∧ some (V.g (4 : Nat)) = some (V.g (4 : Nat)) ∧ True)) (orB (!(isEnd (RX.st x) || sp && Option.isSome f) == RX.sp x) (k (V.d (D.bool false)) [AObj.box (1 : Nat) (RX.sd x), AObj.lst (List.map D.int (RX.zs x)), rO (RX.st x) (List.map encP (RX.ps x)) (RX.rd x) (RX.hi x) (fD (RX.f x)) (RX.rc x) (scD (RX.sp x)), AObj.iset (RX.ks x), hR (fD (RX.f x)) (RX.hi x) (RX.st x) (RX.rd x) (RX.sp x)]) (∃ (x_1 : RX), (RXok (i + (1 : Nat)) x_1 ∧ i + (1 : Nat) ≤ (8 : Nat)) ∧ [AObj.box (1 : Nat) (RX.sd x_1), AObj.lst (List.map D.int (RX.zs x_1)), rO (RX.st x_1) (List.map encP (RX.ps x_1)) (RX.rd x_1) (RX.hi x_1) (fD (RX.f x_1)) (RX.rc x_1) (scD (RX.sp x_1)), AObj.iset (RX.ks x_1), hR (fD (RX.f x_1)) (RX.hi x_1) (RX.st x_1) (RX.rd x_1) (RX.sp x_1)] = [AObj.box (1 : Nat) (RX.sd x), AObj.lst (List.map D.int (RX.zs x)), rO (RX.st x) (List.map encP (RX.ps x)) (RX.rd x) (RX.hi x) (fD (RX.f x)) (RX.rc x) (scD (RX.sp x)), AObj.iset (RX.ks x), hR (fD (RX.f x)) (RX.hi x) (RX.st x) (RX.rd x) (RX.sp x)] ∧ @List.nil (Option (List D)) = [] ∧ some (V.g (0 : Nat)) = some (V.g (0 : Nat)) ∧ some (V.g (2 : Nat)) = some (V.g (2 : Nat)) ∧ some (V.g (4 : Nat)) = some (V.g (4 : Nat)) ∧ True)))))) (orB (!RX.st x == RX.st x) (k (V.d (D.bool false)) [AObj.box (1 : Nat) (RX.sd x), AObj.lst (List.map D.int (RX.zs x)), rO (RX.st x) (List.map encP (RX.ps x)) (RX.rd x) (RX.hi x) (fD (RX.f x)) (RX.rc x) (scD (RX.sp x)), AObj.iset (RX.ks x), hR (fD (RX.f x)) (RX.hi x) (RX.st x) (RX.rd x) (RX.sp x)]) ([AObj.box (1 : Nat) (RX.sd x), AObj.lst (List.map D.int (RX.zs x)), rO (RX.st x) (List.map encP (RX.ps x)) (RX.rd x) (RX.hi x) (fD (RX.f x)) (RX.rc x) (scD (RX.sp x)), AObj.iset (RX.ks x), hR (fD (RX.f x)) (RX.hi x) (RX.st x) (RX.rd x) (RX.sp x)] = [AObj.box (1 : Nat) (RX.sd x), AObj.lst (List.map D.int (RX.zs x)), rO (RX.st x) (List.map encP (RX.ps x)) (RX.rd x) (RX.hi x) (fD (RX.f x)) (RX.rc x) (scD (RX.sp x)), AObj.iset (RX.ks x), hR (fD (RX.f x)) (RX.hi x) (RX.st x) (RX.rd x) (RX.sp x)] ∧ ∃ (sp : Bool), scD (RX.sp x) = scD sp ∧ orB (!decide ((if (sp || isRst (RX.st x)) = true then RX.hi x else RX.rd x) = RX.rd x)) (k (V.d (D.bool false)) [AObj.box (1 : Nat) (RX.sd x), AObj.lst (List.map D.int (RX.zs x)), rO (RX.st x) (List.map encP (RX.ps x)) (RX.rd x) (RX.hi x) (fD (RX.f x)) (RX.rc x) (scD (RX.sp x)), AObj.iset (RX.ks x), hR (fD (RX.f x)) (RX.hi x) (RX.st x) (RX.rd x) (RX.sp x)]) ([AObj.box (1 : Nat) (RX.sd
x), AObj.lst (List.map D.int (RX.zs x)), rO (RX.st x) (List.map encP (RX.ps x)) (RX.rd x) (RX.hi x) (fD (RX.f x)) (RX.rc x) (scD (RX.sp x)), AObj.iset (RX.ks x), hR (fD (RX.f x)) (RX.hi x) (RX.st x) (RX.rd x) (RX.sp x)] = [AObj.box (1 : Nat) (RX.sd x), AObj.lst (List.map D.int (RX.zs x)), rO (RX.st x) (List.map encP (RX.ps x)) (RX.rd x) (RX.hi x) (fD (RX.f x)) (RX.rc x) (scD (RX.sp x)), AObj.iset (RX.ks x), hR (fD (RX.f x)) (RX.hi x) (RX.st x) (RX.rd x) (RX.sp x)] ∧ ∃ (sp : Bool), ∃ (f : Option Int), (scD (RX.sp x) = scD sp ∧ fD (RX.f x) = fD f) ∧ orB (List.any [S "data_read", S "reset_read"] fun (x_1 : Str) => x_1 == RX.st x) (orB (!(isEnd (RX.st x) || sp && Option.isSome f) == List.any [S "data_read", S "reset_read"] fun (x_1 : Str) => x_1 == RX.st x) (k (V.d (D.bool false)) [AObj.box (1 : Nat) (RX.sd x), AObj.lst (List.map D.int (RX.zs x)), rO (RX.st x) (List.map encP (RX.ps x)) (RX.rd x) (RX.hi x) (fD (RX.f x)) (RX.rc x) (scD (RX.sp x)), AObj.iset (RX.ks x), hR (fD (RX.f x)) (RX.hi x) (RX.st x) (RX.rd x) (RX.sp x)]) (∃ (x_1 : RX), (RXok (i + (1 : Nat)) x_1 ∧ i + (1 : Nat) ≤ (8 : Nat)) ∧ [AObj.box (1 : Nat) (RX.sd x_1), AObj.lst (List.map D.int (RX.zs x_1)), rO (RX.st x_1) (List.map encP (RX.ps x_1)) (RX.rd x_1) (RX.hi x_1) (fD (RX.f x_1)) (RX.rc x_1) (scD (RX.sp x_1)), AObj.iset (RX.ks x_1), hR (fD (RX.f x_1)) (RX.hi x_1) (RX.st x_1) (RX.rd x_1) (RX.sp x_1)] = [AObj.box (1 : Nat) (RX.sd x), AObj.lst (List.map D.int (RX.zs x)), rO (RX.st x) (List.map encP (RX.ps x)) (RX.rd x) (RX.hi x) (fD (RX.f x)) (RX.rc x) (scD (RX.sp x)), AObj.iset (RX.ks x), hR (fD (RX.f x)) (RX.hi x) (RX.st x) (RX.rd x) (RX.sp x)] ∧ @List.nil (Option (List D)) = [] ∧ some (V.g (0 : Nat)) = some (V.g (0 : Nat)) ∧ some (V.g (2 : Nat)) = some (V.g (2 : Nat)) ∧ some (V.g (4 : Nat)) = some (V.g (4 : Nat)) ∧ True)) (orB (RX.sp x) (orB (!(isEnd (RX.st x) || sp && Option.isSome f) == !isNoneD (fD (RX.f x))) (k (V.d (D.bool false)) [AObj.box (1 : Nat) (RX.sd x), AObj.lst (List.map D.int (RX.zs x)), rO (RX.st x) (List.map encP (RX.ps x)) (RX.rd x) (RX.hi x) (fD (RX.f x)) (RX.rc x) (scD (RX.sp x)), AObj.iset (RX.ks x), hR (fD (RX.f x)) (RX.hi x) (RX.st x) (RX.rd x) (RX.sp x)]) (∃ (x_1 : RX), (RXok (i + (1 : Nat)) x_1 ∧ i + (1 : Nat) ≤ (8 : Nat)) ∧ [AObj.box (1 : Nat) (RX.sd x_1), AObj.lst (List.map D.int (RX.zs x_1)), rO (RX.st x_1) (List.map encP (RX.ps x_1)) (RX.rd x_1) (RX.hi x_1) (fD (RX.f x_1)) (RX.rc x_1) (scD (RX.sp x_1)), AObj.iset (RX.ks x_1), hR (fD (RX.f x_1)) (RX.hi x_1) (RX.st x_1) (RX.rd x_1) (RX.sp x_1)] = [AObj.box (1 : Nat) (RX.sd x), AObj.lst (List.map D.int (RX.zs x)), rO (RX.st x) (List.map encP (RX.ps x)) (RX.rd x) (RX.hi x) (fD (RX.f x)) (RX.rc x) (scD (RX.sp x)), AObj.iset (RX.ks x), hR (fD (RX.f x)) (RX.hi x) (RX.st x) (RX.rd x) (RX.sp x)] ∧ @List.nil (Option (List D)) = [] ∧ some (V.g (0 : Nat)) = some (V.g (0 : Nat)) ∧ some (V.g (2 : Nat)) = some (V.g (2 : Nat)) ∧ some (V.g (4 : Nat)) = some (V.g (4 : Nat)) ∧ True)) (orB (!(isEnd (RX.st x) || sp &&
Option.isSome f) == RX.sp x) (k (V.d (D.bool false)) [AObj.box (1 : Nat) (RX.sd x), AObj.lst (List.map D.int (RX.zs x)), rO (RX.st x) (List.map encP (RX.ps x)) (RX.rd x) (RX.hi x) (fD (RX.f x)) (RX.rc x) (scD (RX.sp x)), AObj.iset (RX.ks x), hR (fD (RX.f x)) (RX.hi x) (RX.st x) (RX.rd x) (RX.sp x)]) (∃ (x_1 : RX), (RXok (i + (1 : Nat)) x_1 ∧ i + (1 : Nat) ≤ (8 : Nat)) ∧ [AObj.box (1 : Nat) (RX.sd x_1), AObj.lst (List.map D.int (RX.zs x_1)), rO (RX.st x_1) (List.map encP (RX.ps x_1)) (RX.rd x_1) (RX.hi x_1) (fD (RX.f x_1)) (RX.rc x_1) (scD (RX.sp x_1)), AObj.iset (RX.ks x_1), hR (fD (RX.f x_1)) (RX.hi x_1) (RX.st x_1) (RX.rd x_1) (RX.sp x_1)] = [AObj.box (1 : Nat) (RX.sd x), AObj.lst (List.map D.int (RX.zs x)), rO (RX.st x) (List.map encP (RX.ps x)) (RX.rd x) (RX.hi x) (fD (RX.f x)) (RX.rc x) (scD (RX.sp x)), AObj.iset (RX.ks x), hR (fD (RX.f x)) (RX.hi x) (RX.st x) (RX.rd x) (RX.sp x)] ∧ @List.nil (Option (List D)) = [] ∧ some (V.g (0 : Nat)) = some (V.g (0 : Nat)) ∧ some (V.g (2 : Nat)) = some (V.g (2 : Nat)) ∧ some (V.g (4 : Nat)) = some (V.g (4 : Nat)) ∧ True))))))) (orB (List.any [S "reset_recvd", S "reset_read"] fun (x_1 : Str) => x_1 == RX.st x) (orB (!RX.st x == RX.st x) (k (V.d (D.bool false)) [AObj.box (1 : Nat) (RX.sd x), AObj.lst (List.map D.int (RX.zs x)), rO (RX.st x) (List.map encP (RX.ps x)) (RX.rd x) (RX.hi x) (fD (RX.f x)) (RX.rc x) (scD (RX.sp x)), AObj.iset (RX.ks x), hR (fD (RX.f x)) (RX.hi x) (RX.st x) (RX.rd x) (RX.sp x)]) ([AObj.box (1 : Nat) (RX.sd x), AObj.lst (List.map D.int (RX.zs x)), rO (RX.st x) (List.map encP (RX.ps x)) (RX.rd x) (RX.hi x) (fD (RX.f x)) (RX.rc x) (scD (RX.sp x)), AObj.iset (RX.ks x), hR (fD (RX.f x)) (RX.hi x) (RX.st x) (RX.rd x) (RX.sp x)] = [AObj.box (1 : Nat) (RX.sd x), AObj.lst (List.map D.int (RX.zs x)), rO (RX.st x) (List.map encP (RX.ps x)) (RX.rd x) (RX.hi x) (fD (RX.f x)) (RX.rc x) (scD (RX.sp x)), AObj.iset (RX.ks x), hR (fD (RX.f x)) (RX.hi x) (RX.st x) (RX.rd x) (RX.sp x)] ∧ ∃ (sp : Bool), scD (RX.sp x) = scD sp ∧ orB (!decide ((if (sp || isRst (RX.st x)) = true then RX.hi x else RX.rd x) = RX.hi x)) (k (V.d (D.bool false)) [AObj.box (1 : Nat) (RX.sd x), AObj.lst (List.map D.int (RX.zs x)), rO (RX.st x) (List.map encP (RX.ps x)) (RX.rd x) (RX.hi x) (fD (RX.f x)) (RX.rc x) (scD (RX.sp x)), AObj.iset (RX.ks x), hR (fD (RX.f x)) (RX.hi x) (RX.st x) (RX.rd x) (RX.sp x)]) ([AObj.box (1 : Nat) (RX.sd x), AObj.lst (List.map D.int (RX.zs x)), rO (RX.st x) (List.map encP (RX.ps x)) (RX.rd x) (RX.hi x) (fD (RX.f x)) (RX.rc x) (scD (RX.sp x)), AObj.iset (RX.ks x), hR (fD (RX.f x)) (RX.hi x) (RX.st x) (RX.rd x) (RX.sp x)] = [AObj.box (1 : Nat) (RX.sd x), AObj.lst (List.map D.int (RX.zs x)), rO (RX.st x) (List.map encP (RX.ps x)) (RX.rd x) (RX.hi x) (fD (RX.f x)) (RX.rc x) (scD (RX.sp x)), AObj.iset (RX.ks x), hR (fD (RX.f x)) (RX.hi x) (RX.st x) (RX.rd x) (RX.sp x)] ∧ ∃ (sp : Bool), ∃ (f : Option Int), (scD (RX.sp x) = scD sp ∧ fD (RX.f x) = fD f) ∧ orB (List.any [S "data_read", S "reset_read"] fun
(x_1 : Str) => x_1 == RX.st x) (orB (!(isEnd (RX.st x) || sp && Option.isSome f) == List.any [S "data_read", S "reset_read"] fun (x_1 : Str) => x_1 == RX.st x) (k (V.d (D.bool false)) [AObj.box (1 : Nat) (RX.sd x), AObj.lst (List.map D.int (RX.zs x)), rO (RX.st x) (List.map encP (RX.ps x)) (RX.rd x) (RX.hi x) (fD (RX.f x)) (RX.rc x) (scD (RX.sp x)), AObj.iset (RX.ks x), hR (fD (RX.f x)) (RX.hi x) (RX.st x) (RX.rd x) (RX.sp x)]) (∃ (x_1 : RX), (RXok (i + (1 : Nat)) x_1 ∧ i + (1 : Nat) ≤ (8 : Nat)) ∧ [AObj.box (1 : Nat) (RX.sd x_1), AObj.lst (List.map D.int (RX.zs x_1)), rO (RX.st x_1) (List.map encP (RX.ps x_1)) (RX.rd x_1) (RX.hi x_1) (fD (RX.f x_1)) (RX.rc x_1) (scD (RX.sp x_1)), AObj.iset (RX.ks x_1), hR (fD (RX.f x_1)) (RX.hi x_1) (RX.st x_1) (RX.rd x_1) (RX.sp x_1)] = [AObj.box (1 : Nat) (RX.sd x), AObj.lst (List.map D.int (RX.zs x)), rO (RX.st x) (List.map encP (RX.ps x)) (RX.rd x) (RX.hi x) (fD (RX.f x)) (RX.rc x) (scD (RX.sp x)), AObj.iset (RX.ks x), hR (fD (RX.f x)) (RX.hi x) (RX.st x) (RX.rd x) (RX.sp x)] ∧ @List.nil (Option (List D)) = [] ∧ some (V.g (0 : Nat)) = some (V.g (0 : Nat)) ∧ some (V.g (2 : Nat)) = some (V.g (2 : Nat)) ∧ some (V.g (4 : Nat)) = some (V.g (4 : Nat)) ∧ True)) (orB (RX.sp x) (orB (!(isEnd (RX.st x) || sp && Option.isSome f) == !isNoneD (fD (RX.f x))) (k (V.d (D.bool false)) [AObj.box (1 : Nat) (RX.sd x), AObj.lst (List.map D.int (RX.zs x)), rO (RX.st x) (List.map encP (RX.ps x)) (RX.rd x) (RX.hi x) (fD (RX.f x)) (RX.rc x) (scD (RX.sp x)), AObj.iset (RX.ks x), hR (fD (RX.f x)) (RX.hi x) (RX.st x) (RX.rd x) (RX.sp x)]) (∃ (x_1 : RX), (RXok (i + (1 : Nat)) x_1 ∧ i + (1 : Nat) ≤ (8 : Nat)) ∧ [AObj.box (1 : Nat) (RX.sd x_1), AObj.lst (List.map D.int (RX.zs x_1)), rO (RX.st x_1) (List.map encP (RX.ps x_1)) (RX.rd x_1) (RX.hi x_1) (fD (RX.f x_1)) (RX.rc x_1) (scD (RX.sp x_1)), AObj.iset (RX.ks x_1), hR (fD (RX.f x_1)) (RX.hi x_1) (RX.st x_1) (RX.rd x_1) (RX.sp x_1)] = [AObj.box (1 : Nat) (RX.sd x), AObj.lst (List.map D.int (RX.zs x)), rO (RX.st x) (List.map encP (RX.ps x)) (RX.rd x) (RX.hi x) (fD (RX.f x)) (RX.rc x) (scD (RX.sp x)), AObj.iset (RX.ks x), hR (fD (RX.f x)) (RX.hi x) (RX.st x) (RX.rd x) (RX.sp x)] ∧ @List.nil (Option (List D)) = [] ∧ some (V.g (0 : Nat)) = some (V.g (0 : Nat)) ∧ some (V.g (2 : Nat)) = some (V.g (2 : Nat)) ∧ some (V.g (4 : Nat)) = some (V.g (4 : Nat)) ∧ True)) (orB (!(isEnd (RX.st x) || sp && Option.isSome f) == RX.sp x) (k (V.d (D.bool false)) [AObj.box (1 : Nat) (RX.sd x), AObj.lst (List.map D.int (RX.zs x)), rO (RX.st x) (List.map encP (RX.ps x)) (RX.rd x) (RX.hi x) (fD (RX.f x)) (RX.rc x) (scD (RX.sp x)), AObj.iset (RX.ks x), hR (fD (RX.f x)) (RX.hi x) (RX.st x) (RX.rd x) (RX.sp x)]) (∃ (x_1 : RX), (RXok (i + (1 : Nat)) x_1 ∧ i + (1 : Nat) ≤ (8 : Nat)) ∧ [AObj.box (1 : Nat) (RX.sd x_1), AObj.lst (List.map D.int (RX.zs x_1)), rO (RX.st x_1) (List.map encP (RX.ps x_1)) (RX.rd x_1) (RX.hi x_1) (fD (RX.f x_1)) (RX.rc x_1) (scD (RX.sp x_1)), AObj.iset (RX.ks x_1), hR (fD (RX.f x_1)) (RX.hi
x_1) (RX.st x_1) (RX.rd x_1) (RX.sp x_1)] = [AObj.box (1 : Nat) (RX.sd x), AObj.lst (List.map D.int (RX.zs x)), rO (RX.st x) (List.map encP (RX.ps x)) (RX.rd x) (RX.hi x) (fD (RX.f x)) (RX.rc x) (scD (RX.sp x)), AObj.iset (RX.ks x), hR (fD (RX.f x)) (RX.hi x) (RX.st x) (RX.rd x) (RX.sp x)] ∧ @List.nil (Option (List D)) = [] ∧ some (V.g (0 : Nat)) = some (V.g (0 : Nat)) ∧ some (V.g (2 : Nat)) = some (V.g (2 : Nat)) ∧ some (V.g (4 : Nat)) = some (V.g (4 : Nat)) ∧ True)))))) (orB (!RX.st x == RX.st x) (k (V.d (D.bool false)) [AObj.box (1 : Nat) (RX.sd x), AObj.lst (List.map D.int (RX.zs x)), rO (RX.st x) (List.map encP (RX.ps x)) (RX.rd x) (RX.hi x) (fD (RX.f x)) (RX.rc x) (scD (RX.sp x)), AObj.iset (RX.ks x), hR (fD (RX.f x)) (RX.hi x) (RX.st x) (RX.rd x) (RX.sp x)]) ([AObj.box (1 : Nat) (RX.sd x), AObj.lst (List.map D.int (RX.zs x)), rO (RX.st x) (List.map encP (RX.ps x)) (RX.rd x) (RX.hi x) (fD (RX.f x)) (RX.rc x) (scD (RX.sp x)), AObj.iset (RX.ks x), hR (fD (RX.f x)) (RX.hi x) (RX.st x) (RX.rd x) (RX.sp x)] = [AObj.box (1 : Nat) (RX.sd x), AObj.lst (List.map D.int (RX.zs x)), rO (RX.st x) (List.map encP (RX.ps x)) (RX.rd x) (RX.hi x) (fD (RX.f x)) (RX.rc x) (scD (RX.sp x)), AObj.iset (RX.ks x), hR (fD (RX.f x)) (RX.hi x) (RX.st x) (RX.rd x) (RX.sp x)] ∧ ∃ (sp : Bool), scD (RX.sp x) = scD sp ∧ orB (!decide ((if (sp || isRst (RX.st x)) = true then RX.hi x else RX.rd x) = RX.rd x)) (k (V.d (D.bool false)) [AObj.box (1 : Nat) (RX.sd x), AObj.lst (List.map D.int (RX.zs x)), rO (RX.st x) (List.map encP (RX.ps x)) (RX.rd x) (RX.hi x) (fD (RX.f x)) (RX.rc x) (scD (RX.sp x)), AObj.iset (RX.ks x), hR (fD (RX.f x)) (RX.hi x) (RX.st x) (RX.rd x) (RX.sp x)]) ([AObj.box (1 : Nat) (RX.sd x), AObj.lst (List.map D.int (RX.zs x)), rO (RX.st x) (List.map encP (RX.ps x)) (RX.rd x) (RX.hi x) (fD (RX.f x)) (RX.rc x) (scD (RX.sp x)), AObj.iset (RX.ks x), hR (fD (RX.f x)) (RX.hi x) (RX.st x) (RX.rd x) (RX.sp x)] = [AObj.box (1 : Nat) (RX.sd x), AObj.lst (List.map D.int (RX.zs x)), rO (RX.st x) (List.map encP (RX.ps x)) (RX.rd x) (RX.hi x) (fD (RX.f x)) (RX.rc x) (scD (RX.sp x)), AObj.iset (RX.ks x), hR (fD (RX.f x)) (RX.hi x) (RX.st x) (RX.rd x) (RX.sp x)] ∧ ∃ (sp : Bool), ∃ (f : Option Int), (scD (RX.sp x) = scD sp ∧ fD (RX.f x) = fD f) ∧ orB (List.any [S "data_read", S "reset_read"] fun (x_1 : Str) => x_1 == RX.st x) (orB (!(isEnd (RX.st x) || sp && Option.isSome f) == List.any [S "data_read", S "reset_read"] fun (x_1 : Str) => x_1 == RX.st x) (k (V.d (D.bool false)) [AObj.box (1 : Nat) (RX.sd x), AObj.lst (List.map D.int (RX.zs x)), rO (RX.st x) (List.map encP (RX.ps x)) (RX.rd x) (RX.hi x) (fD (RX.f x)) (RX.rc x) (scD (RX.sp x)), AObj.iset (RX.ks x), hR (fD (RX.f x)) (RX.hi x) (RX.st x) (RX.rd x) (RX.sp x)]) (∃ (x_1 : RX), (RXok (i + (1 : Nat)) x_1 ∧ i + (1 : Nat) ≤ (8 : Nat)) ∧ [AObj.box (1 : Nat) (RX.sd x_1), AObj.lst (List.map D.int (RX.zs x_1)), rO (RX.st x_1) (List.map encP (RX.ps x_1)) (RX.rd x_1) (RX.hi x_1) (fD (RX.f x_1)) (RX.rc x_1) (scD (RX.sp x_1)),
AObj.iset (RX.ks x_1), hR (fD (RX.f x_1)) (RX.hi x_1) (RX.st x_1) (RX.rd x_1) (RX.sp x_1)] = [AObj.box (1 : Nat) (RX.sd x), AObj.lst (List.map D.int (RX.zs x)), rO (RX.st x) (List.map encP (RX.ps x)) (RX.rd x) (RX.hi x) (fD (RX.f x)) (RX.rc x) (scD (RX.sp x)), AObj.iset (RX.ks x), hR (fD (RX.f x)) (RX.hi x) (RX.st x) (RX.rd x) (RX.sp x)] ∧ @List.nil (Option (List D)) = [] ∧ some (V.g (0 : Nat)) = some (V.g (0 : Nat)) ∧ some (V.g (2 : Nat)) = some (V.g (2 : Nat)) ∧ some (V.g (4 : Nat)) = some (V.g (4 : Nat)) ∧ True)) (orB (RX.sp x) (orB (!(isEnd (RX.st x) || sp && Option.isSome f) == !isNoneD (fD (RX.f x))) (k (V.d (D.bool false)) [AObj.box (1 : Nat) (RX.sd x), AObj.lst (List.map D.int (RX.zs x)), rO (RX.st x) (List.map encP (RX.ps x)) (RX.rd x) (RX.hi x) (fD (RX.f x)) (RX.rc x) (scD (RX.sp x)), AObj.iset (RX.ks x), hR (fD (RX.f x)) (RX.hi x) (RX.st x) (RX.rd x) (RX.sp x)]) (∃ (x_1 : RX), (RXok (i + (1 : Nat)) x_1 ∧ i + (1 : Nat) ≤ (8 : Nat)) ∧ [AObj.box (1 : Nat) (RX.sd x_1), AObj.lst (List.map D.int (RX.zs x_1)), rO (RX.st x_1) (List.map encP (RX.ps x_1)) (RX.rd x_1) (RX.hi x_1) (fD (RX.f x_1)) (RX.rc x_1) (scD (RX.sp x_1)), AObj.iset (RX.ks x_1), hR (fD (RX.f x_1)) (RX.hi x_1) (RX.st x_1) (RX.rd x_1) (RX.sp x_1)] = [AObj.box (1 : Nat) (RX.sd x), AObj.lst (List.map D.int (RX.zs x)), rO (RX.st x) (List.map encP (RX.ps x)) (RX.rd x) (RX.hi x) (fD (RX.f x)) (RX.rc x) (scD (RX.sp x)), AObj.iset (RX.ks x), hR (fD (RX.f x)) (RX.hi x) (RX.st x) (RX.rd x) (RX.sp x)] ∧ @List.nil (Option (List D)) = [] ∧ some (V.g (0 : Nat)) = some (V.g (0 : Nat)) ∧ some (V.g (2 : Nat)) = some (V.g (2 : Nat)) ∧ some (V.g (4 : Nat)) = some (V.g (4 : Nat)) ∧ True)) (orB (!(isEnd (RX.st x) || sp && Option.isSome f) == RX.sp x) (k (V.d (D.bool false)) [AObj.box (1 : Nat) (RX.sd x), AObj.lst (List.map D.int (RX.zs x)), rO (RX.st x) (List.map encP (RX.ps x)) (RX.rd x) (RX.hi x) (fD (RX.f x)) (RX.rc x) (scD (RX.sp x)), AObj.iset (RX.ks x), hR (fD (RX.f x)) (RX.hi x) (RX.st x) (RX.rd x) (RX.sp x)]) (∃ (x_1 : RX), (RXok (i + (1 : Nat)) x_1 ∧ i + (1 : Nat) ≤ (8 : Nat)) ∧ [AObj.box (1 : Nat) (RX.sd x_1), AObj.lst (List.map D.int (RX.zs x_1)), rO (RX.st x_1) (List.map encP (RX.ps x_1)) (RX.rd x_1) (RX.hi x_1) (fD (RX.f x_1)) (RX.rc x_1) (scD (RX.sp x_1)), AObj.iset (RX.ks x_1), hR (fD (RX.f x_1)) (RX.hi x_1) (RX.st x_1) (RX.rd x_1) (RX.sp x_1)] = [AObj.box (1 : Nat) (RX.sd x), AObj.lst (List.map D.int (RX.zs x)), rO (RX.st x) (List.map encP (RX.ps x)) (RX.rd x) (RX.hi x) (fD (RX.f x)) (RX.rc x) (scD (RX.sp x)), AObj.iset (RX.ks x), hR (fD (RX.f x)) (RX.hi x) (RX.st x) (RX.rd x) (RX.sp x)] ∧ @List.nil (Option (List D)) = [] ∧ some (V.g (0 : Nat)) = some (V.g (0 : Nat)) ∧ some (V.g (2 : Nat)) = some (V.g (2 : Nat)) ∧ some (V.g (4 : Nat)) = some (V.g (4 : Nat)) ∧ True)))))))) ∧ ∀ (x : RX), RXok (Int.toNat ((8 : Int) - (0 : Int))) x ∧ Int.toNat ((8 : Int) - (0 : Int)) ≤ (8 : Nat) → k (V.d (D.bool true)) [AObj.box (1 : Nat) (RX.sd x), AObj.lst (List.map D.int (RX.zs x)), rO (RX.st x)
(List.map encP (RX.ps x)) (RX.rd x) (RX.hi x) (fD (RX.f x)) (RX.rc x) (scD (RX.sp x)), AObj.iset (RX.ks x), hR (fD (RX.f x)) (RX.hi x) (RX.st x) (RX.rd x) (RX.sp x)]) := by kernel_rfl
theorem vc367 (sd : Int) (zs : List Int) (k : V → List AObj → Prop) : (vcFS r367 false (calls367 ++ [(360, T360)]) inv367 noWInv [.g 0] [.box 1 sd, iD zs] k) = (noL [V.d (D.int (100 : Int))] = true ∧ V.d D.none = V.d D.none ∧ ((-4096 : Int) ≤ (0 : Int) ∧ (0 : Int) ≤ (4096 : Int) ∧ (-4096 : Int) ≤ (10 : Int) ∧ (10 : Int) ≤ (4096 : Int)) ∧ (∃ (x : SX), ((0 ≤ SX.sd x ∧ SX.sd x < (2147483647 : Int)) ∧ SH (0 : Nat) (SX.st x) (SX.wr x) (SX.sn x) (SX.kk x) (SX.ac x) (SX.fin x) (SX.oe x) (SX.ea x) (SX.rc x) (SX.fly x) ∧ (0 : Nat) ≤ (10 : Nat)) ∧ [AObj.box (1 : Nat) (SX.sd x), AObj.lst (List.map D.int (SX.zs x)), sO (SX.st x) (SX.wr x) (SX.sn x) (SX.ac x) [] (SX.fin x) (SX.oe x) (SX.ea x) (SX.rc x) false, AObj.lst (flyD (SX.kk x) (SX.fly x)), hS (SX.st x) (SX.wr x) (SX.fin x) (SX.sn x)] = [AObj.box (1 : Nat) sd, AObj.lst (List.map D.int zs), sO (S "ready") (0 : Int) (0 : Int) [] [] false false false D.none false, AObj.lst [], hS (S "ready") (0 : Int) false (0 : Int)] ∧ @List.cons (Option (List D)) none [] = [none] ∧ some (V.g (0 : Nat)) = some (V.g (0 : Nat)) ∧ some (V.g (2 : Nat)) = some (V.g (2 : Nat)) ∧ some (V.g (4 : Nat)) = some (V.g (4 : Nat)) ∧ True) ∧ (∀ (i : Nat) (x : SX), (0 : Int) + ↑i < (10 : Int) ∧ (0 ≤ SX.sd x ∧ SX.sd x < (2147483647 : Int)) ∧ SH i (SX.st x) (SX.wr x) (SX.sn x) (SX.kk x) (SX.ac x) (SX.fin x) (SX.oe x) (SX.ea x) (SX.rc x) (SX.fly x) ∧ i ≤ (10 : Nat) → ∃ (sd : Int), ∃ (zs : List Int), ∃ (i_1 : Nat), ∃ (st : Str), ∃ (wr : Int), ∃ (sn : Int), ∃ (kk : Int), ∃ (ac : List D), ∃ (fin : Bool), ∃ (oe : Bool), ∃ (ea : Bool), ∃ (rc : D), ∃ (fly : List (Int × Bool)), (([AObj.box (1 : Nat) (SX.sd x), AObj.lst (List.map D.int (SX.zs x)), sO (SX.st x) (SX.wr x) (SX.sn x) (SX.ac x) [] (SX.fin x) (SX.oe x) (SX.ea x) (SX.rc x) false, AObj.lst (flyD (SX.kk x) (SX.fly x)), hS (SX.st x) (SX.wr x) (SX.fin x) (SX.sn x)] = [AObj.box (1 : Nat) sd, AObj.lst (List.map D.int zs), sO st wr sn ac [] fin oe ea rc false, AObj.lst (flyD kk fly), hS st wr fin sn] ∧ 0 ≤ sd ∧ sd < (2147483647 : Int)) ∧ SH i_1 st wr sn kk ac fin oe ea rc fly ∧ i_1 ≤ (20 : Nat)) ∧ ∀ (sd' : Int) (zs' : List Int) (st' : Str) (wr' sn' kk' : Int) (ac' : List D) (fin' oe' ea' : Bool) (rc' : D) (fly' : List (Int × Bool)), 0 ≤ sd' ∧ sd' < (2147483647 : Int) → SH (i_1 + (1 : Nat)) st' wr' sn' kk' ac' fin' oe' ea' rc' fly' → orB (!st' == st') (k (V.d (D.bool false)) [AObj.box (1 : Nat) sd', AObj.lst (List.map D.int zs'), sO st' wr' sn' ac' [] fin' oe' ea' rc' false, AObj.lst (flyD kk' fly'), hS st' wr' fin' sn']) ([AObj.box (1 : Nat) sd', AObj.lst (List.map D.int zs'), sO st' wr' sn' ac' [] fin' oe' ea' rc' false, AObj.lst (flyD kk' fly'), hS st' wr' fin' sn'] = [AObj.box (1 : Nat) sd', AObj.lst (List.map D.int zs'), sO st' wr' sn' ac' [] fin' oe' ea' rc' false, AObj.lst (flyD kk' fly'), hS st' wr' fin' sn'] ∧ orB (!isDone st' == List.any [S "data_recvd", S "reset_recvd"] fun (x : Str) => x == st') (k (V.d (D.bool false)) [AObj.box (1 : Nat) sd', AObj.lst
(List.map D.int zs'), sO st' wr' sn' ac' [] fin' oe' ea' rc' false, AObj.lst (flyD kk' fly'), hS st' wr' fin' sn']) (∃ (x : SX), ((0 ≤ SX.sd x ∧ SX.sd x < (2147483647 : Int)) ∧ SH (i + (1 : Nat)) (SX.st x) (SX.wr x) (SX.sn x) (SX.kk x) (SX.ac x) (SX.fin x) (SX.oe x) (SX.ea x) (SX.rc x) (SX.fly x) ∧ i + (1 : Nat) ≤ (10 : Nat)) ∧ [AObj.box (1 : Nat) (SX.sd x), AObj.lst (List.map D.int (SX.zs x)), sO (SX.st x) (SX.wr x) (SX.sn x) (SX.ac x) [] (SX.fin x) (SX.oe x) (SX.ea x) (SX.rc x) false, AObj.lst (flyD (SX.kk x) (SX.fly x)), hS (SX.st x) (SX.wr x) (SX.fin x) (SX.sn x)] = [AObj.box (1 : Nat) sd', AObj.lst (List.map D.int zs'), sO st' wr' sn' ac' [] fin' oe' ea' rc' false, AObj.lst (flyD kk' fly'), hS st' wr' fin' sn'] ∧ @List.cons (Option (List D)) none [] = [none] ∧ some (V.g (0 : Nat)) = some (V.g (0 : Nat)) ∧ some (V.g (2 : Nat)) = some (V.g (2 : Nat)) ∧ some (V.g (4 : Nat)) = some (V.g (4 : Nat)) ∧ True))) ∧ ∀ (x : SX), (0 ≤ SX.sd x ∧ SX.sd x < (2147483647 : Int)) ∧ SH (Int.toNat ((10 : Int) - (0 : Int))) (SX.st x) (SX.wr x) (SX.sn x) (SX.kk x) (SX.ac x) (SX.fin x) (SX.oe x) (SX.ea x) (SX.rc x) (SX.fly x) ∧ Int.toNat ((10 : Int) - (0 : Int)) ≤ (10 : Nat) → k (V.d (D.bool true)) [AObj.box (1 : Nat) (SX.sd x), AObj.lst (List.map D.int (SX.zs x)), sO (SX.st x) (SX.wr x) (SX.sn x) (SX.ac x) [] (SX.fin x) (SX.oe x) (SX.ea x) (SX.rc x) false, AObj.lst (flyD (SX.kk x) (SX.fly x)), hS (SX.st x) (SX.wr x) (SX.fin x) (SX.sn x)]) := by kernel_rfl
theorem vc360n (sd : Int) (zs : List Int) (st : Str) (wr sn kk : Int) (ac : List D) (fin oe ea : Bool) (rc : D) (k : V → List AObj → Prop) : (vcFS r360 false (calls360 ++ [(353, T353)]) noInv noWInv [.g 0, .g 2, .g 4] (WS (.box 1 sd) (iD zs) st wr sn kk ac fin oe ea rc []) k) = (∃ (zs_1 : List Int), (List.map D.int zs = List.map D.int zs_1 ∧ (0 : Int) < (7 : Int) ∧ 0 ≤ sd ∧ sd < (2147483647 : Int)) ∧ ∀ (r sd' : Int) (zs' : List Int), (0 ≤ r ∧ r < (7 : Int)) ∧ 0 ≤ sd' ∧ sd' < (2147483647 : Int) → orB (decide (r < (2 : Int))) (orB (List.any [S "ready", S "send"] fun (x : Str) => x == st) (orB (decide (r = (1 : Int))) (orB (decide (r = (1 : Int))) ([AObj.box (1 : Nat) sd', AObj.lst (List.map D.int zs'), sO st wr sn ac [] fin oe ea rc false, AObj.lst [], hS st wr fin sn] = [AObj.box (1 : Nat) sd', AObj.lst (List.map D.int zs'), sO st wr sn ac [] fin oe ea rc false, AObj.lst [], hS st wr fin sn] ∧ wr ≤ (1000 : Int) ∧ (r = (0 : Int) → (isOpen st = false ∨ fin = true → k (V.d (D.bool false)) [AObj.box (1 : Nat) sd', AObj.lst (List.map D.int zs'), sO st wr sn ac [] fin oe ea rc false, AObj.lst [], hS st wr fin sn]) ∧ (isOpen st = true ∧ fin = false → (((-65536 : Int) ≤ bif decide (r = (0 : Int)) then (1 : Int) else (0 : Int)) ∧ (bif decide (r = (0 : Int)) then (1 : Int) else (0 : Int)) ≤ (65536 : Int)) ∧ orB fin (k (V.d (D.bool true)) [AObj.box (1 : Nat) sd', AObj.lst (List.map D.int zs'), sO st (wr + (2 : Int)) sn ac [] fin oe ea rc false, AObj.lst [], hS st (wr + (2 : Int) * bif decide (r = (0 : Int)) then (1 : Int) else (0 : Int)) fin sn]) (k (V.d (D.bool true)) [AObj.box (1 : Nat) sd', AObj.lst (List.map D.int zs'), sO st (wr + (2 : Int)) sn ac [] fin oe ea rc false, AObj.lst [], hS st (wr + (2 : Int) * bif decide (r = (0 : Int)) then (1 : Int) else (0 : Int)) (decide (r = (1 : Int))) sn]))) ∧ (r ≠ (0 : Int) → (isOpen st = false → k (V.d (D.bool false)) [AObj.box (1 : Nat) sd', AObj.lst (List.map D.int zs'), sO st wr sn ac [] fin oe ea rc false, AObj.lst [], hS st wr fin sn]) ∧ (isOpen st = true → (((-65536 : Int) ≤ bif decide (r = (0 : Int)) then (1 : Int) else (0 : Int)) ∧ (bif decide (r = (0 : Int)) then (1 : Int) else (0 : Int)) ≤ (65536 : Int)) ∧ orB fin (k (V.d (D.bool true)) [AObj.box (1 : Nat) sd', AObj.lst (List.map D.int zs'), sO st wr sn ac [] true (if fin = true then oe else true) ea rc false, AObj.lst [], hS st (wr + (2 : Int) * bif decide (r = (0 : Int)) then (1 : Int) else (0 : Int)) fin sn]) (k (V.d (D.bool true)) [AObj.box (1 : Nat) sd', AObj.lst (List.map D.int zs'), sO st wr sn ac [] true (if fin = true then oe else true) ea rc false, AObj.lst [], hS st (wr + (2 : Int) * bif decide (r = (0 : Int)) then (1 : Int) else (0 : Int)) (decide (r = (1 : Int))) sn])))) ([AObj.box (1 : Nat) sd', AObj.lst (List.map D.int zs'), sO st wr sn ac [] fin oe ea rc false, AObj.lst [], hS st wr fin sn] = [AObj.box (1 : Nat) sd', AObj.lst (List.map D.int zs'), sO st wr sn ac [] fin oe ea rc false, AObj.lst [], hS st wr fin sn] ∧
wr ≤ (1000 : Int) ∧ (r = (0 : Int) → (isOpen st = false ∨ fin = true → (((-65536 : Int) ≤ bif false then (1 : Int) else (0 : Int)) ∧ (bif false then (1 : Int) else (0 : Int)) ≤ (65536 : Int)) ∧ orB fin (k (V.d (D.bool true)) [AObj.box (1 : Nat) sd', AObj.lst (List.map D.int zs'), sO st wr sn ac [] fin oe ea rc false, AObj.lst [], hS st (wr + (2 : Int) * bif false then (1 : Int) else (0 : Int)) fin sn]) (k (V.d (D.bool true)) [AObj.box (1 : Nat) sd', AObj.lst (List.map D.int zs'), sO st wr sn ac [] fin oe ea rc false, AObj.lst [], hS st (wr + (2 : Int) * bif false then (1 : Int) else (0 : Int)) false sn])) ∧ (isOpen st = true ∧ fin = false → k (V.d (D.bool false)) [AObj.box (1 : Nat) sd', AObj.lst (List.map D.int zs'), sO st (wr + (2 : Int)) sn ac [] fin oe ea rc false, AObj.lst [], hS st wr fin sn])) ∧ (r ≠ (0 : Int) → (isOpen st = false → (((-65536 : Int) ≤ bif false then (1 : Int) else (0 : Int)) ∧ (bif false then (1 : Int) else (0 : Int)) ≤ (65536 : Int)) ∧ orB fin (k (V.d (D.bool true)) [AObj.box (1 : Nat) sd', AObj.lst (List.map D.int zs'), sO st wr sn ac [] fin oe ea rc false, AObj.lst [], hS st (wr + (2 : Int) * bif false then (1 : Int) else (0 : Int)) fin sn]) (k (V.d (D.bool true)) [AObj.box (1 : Nat) sd', AObj.lst (List.map D.int zs'), sO st wr sn ac [] fin oe ea rc false, AObj.lst [], hS st (wr + (2 : Int) * bif false then (1 : Int) else (0 : Int)) false sn])) ∧ (isOpen st = true → k (V.d (D.bool false)) [AObj.box (1 : Nat) sd', AObj.lst (List.map D.int zs'), sO st wr sn ac [] true (if fin = true then oe else true) ea rc false, AObj.lst [], hS st wr fin sn])))) (orB (!fin) ([AObj.box (1 : Nat) sd', AObj.lst (List.map D.int zs'), sO st wr sn ac [] fin oe ea rc false, AObj.lst [], hS st wr fin sn] = [AObj.box (1 : Nat) sd', AObj.lst (List.map D.int zs'), sO st wr sn ac [] fin oe ea rc false, AObj.lst [], hS st wr fin sn] ∧ wr ≤ (1000 : Int) ∧ (r = (0 : Int) → (isOpen st = false ∨ fin = true → k (V.d (D.bool false)) [AObj.box (1 : Nat) sd', AObj.lst (List.map D.int zs'), sO st wr sn ac [] fin oe ea rc false, AObj.lst [], hS st wr fin sn]) ∧ (isOpen st = true ∧ fin = false → (((-65536 : Int) ≤ bif decide (r = (0 : Int)) then (1 : Int) else (0 : Int)) ∧ (bif decide (r = (0 : Int)) then (1 : Int) else (0 : Int)) ≤ (65536 : Int)) ∧ orB fin (k (V.d (D.bool true)) [AObj.box (1 : Nat) sd', AObj.lst (List.map D.int zs'), sO st (wr + (2 : Int)) sn ac [] fin oe ea rc false, AObj.lst [], hS st (wr + (2 : Int) * bif decide (r = (0 : Int)) then (1 : Int) else (0 : Int)) fin sn]) (k (V.d (D.bool true)) [AObj.box (1 : Nat) sd', AObj.lst (List.map D.int zs'), sO st (wr + (2 : Int)) sn ac [] fin oe ea rc false, AObj.lst [], hS st (wr + (2 : Int) * bif decide (r = (0 : Int)) then (1 : Int) else (0 : Int)) (decide (r = (1 : Int))) sn]))) ∧ (r ≠ (0 : Int) → (isOpen st = false → k (V.d (D.bool false)) [AObj.box (1 : Nat) sd', AObj.lst (List.map D.int zs'), sO st wr sn ac [] fin oe ea rc false, AObj.lst [], hS st wr fin sn]) ∧ (isOpen st = true → (((-65536 :
Int) ≤ bif decide (r = (0 : Int)) then (1 : Int) else (0 : Int)) ∧ (bif decide (r = (0 : Int)) then (1 : Int) else (0 : Int)) ≤ (65536 : Int)) ∧ orB fin (k (V.d (D.bool true)) [AObj.box (1 : Nat) sd', AObj.lst (List.map D.int zs'), sO st wr sn ac [] true (if fin = true then oe else true) ea rc false, AObj.lst [], hS st (wr + (2 : Int) * bif decide (r = (0 : Int)) then (1 : Int) else (0 : Int)) fin sn]) (k (V.d (D.bool true)) [AObj.box (1 : Nat) sd', AObj.lst (List.map D.int zs'), sO st wr sn ac [] true (if fin = true then oe else true) ea rc false, AObj.lst [], hS st (wr + (2 : Int) * bif decide (r = (0 : Int)) then (1 : Int) else (0 : Int)) (decide (r = (1 : Int))) sn])))) ([AObj.box (1 : Nat) sd', AObj.lst (List.map D.int zs'), sO st wr sn ac [] fin oe ea rc false, AObj.lst [], hS st wr fin sn] = [AObj.box (1 : Nat) sd', AObj.lst (List.map D.int zs'), sO st wr sn ac [] fin oe ea rc false, AObj.lst [], hS st wr fin sn] ∧ wr ≤ (1000 : Int) ∧ (r = (0 : Int) → (isOpen st = false ∨ fin = true → (((-65536 : Int) ≤ bif false then (1 : Int) else (0 : Int)) ∧ (bif false then (1 : Int) else (0 : Int)) ≤ (65536 : Int)) ∧ orB fin (k (V.d (D.bool true)) [AObj.box (1 : Nat) sd', AObj.lst (List.map D.int zs'), sO st wr sn ac [] fin oe ea rc false, AObj.lst [], hS st (wr + (2 : Int) * bif false then (1 : Int) else (0 : Int)) fin sn]) (k (V.d (D.bool true)) [AObj.box (1 : Nat) sd', AObj.lst (List.map D.int zs'), sO st wr sn ac [] fin oe ea rc false, AObj.lst [], hS st (wr + (2 : Int) * bif false then (1 : Int) else (0 : Int)) false sn])) ∧ (isOpen st = true ∧ fin = false → k (V.d (D.bool false)) [AObj.box (1 : Nat) sd', AObj.lst (List.map D.int zs'), sO st (wr + (2 : Int)) sn ac [] fin oe ea rc false, AObj.lst [], hS st wr fin sn])) ∧ (r ≠ (0 : Int) → (isOpen st = false → (((-65536 : Int) ≤ bif false then (1 : Int) else (0 : Int)) ∧ (bif false then (1 : Int) else (0 : Int)) ≤ (65536 : Int)) ∧ orB fin (k (V.d (D.bool true)) [AObj.box (1 : Nat) sd', AObj.lst (List.map D.int zs'), sO st wr sn ac [] fin oe ea rc false, AObj.lst [], hS st (wr + (2 : Int) * bif false then (1 : Int) else (0 : Int)) fin sn]) (k (V.d (D.bool true)) [AObj.box (1 : Nat) sd', AObj.lst (List.map D.int zs'), sO st wr sn ac [] fin oe ea rc false, AObj.lst [], hS st (wr + (2 : Int) * bif false then (1 : Int) else (0 : Int)) false sn])) ∧ (isOpen st = true → k (V.d (D.bool false)) [AObj.box (1 : Nat) sd', AObj.lst (List.map D.int zs'), sO st wr sn ac [] true (if fin = true then oe else true) ea rc false, AObj.lst [], hS st wr fin sn]))))) (orB (List.any [S "ready", S "send"] fun (x : Str) => x == st) ([AObj.box (1 : Nat) sd', AObj.lst (List.map D.int zs'), sO st wr sn ac [] fin oe ea rc false, AObj.lst [], hS st wr fin sn] = [AObj.box (1 : Nat) sd', AObj.lst (List.map D.int zs'), sO st wr sn ac [] fin oe ea rc false, AObj.lst [], hS st wr fin sn] ∧ wr ≤ (1000 : Int) ∧ (r = (0 : Int) → (isOpen st = false ∨ fin = true → k (V.d (D.bool false)) [AObj.box (1 : Nat) sd', AObj.lst (List.map D.int
zs'), sO st wr sn ac [] fin oe ea rc false, AObj.lst [], hS st wr fin sn]) ∧ (isOpen st = true ∧ fin = false → (((-65536 : Int) ≤ bif decide (r = (0 : Int)) then (1 : Int) else (0 : Int)) ∧ (bif decide (r = (0 : Int)) then (1 : Int) else (0 : Int)) ≤ (65536 : Int)) ∧ orB fin (k (V.d (D.bool true)) [AObj.box (1 : Nat) sd', AObj.lst (List.map D.int zs'), sO st (wr + (2 : Int)) sn ac [] fin oe ea rc false, AObj.lst [], hS st (wr + (2 : Int) * bif decide (r = (0 : Int)) then (1 : Int) else (0 : Int)) fin sn]) (k (V.d (D.bool true)) [AObj.box (1 : Nat) sd', AObj.lst (List.map D.int zs'), sO st (wr + (2 : Int)) sn ac [] fin oe ea rc false, AObj.lst [], hS st (wr + (2 : Int) * bif decide (r = (0 : Int)) then (1 : Int) else (0 : Int)) (decide (r = (1 : Int))) sn]))) ∧ (r ≠ (0 : Int) → (isOpen st = false → k (V.d (D.bool false)) [AObj.box (1 : Nat) sd', AObj.lst (List.map D.int zs'), sO st wr sn ac [] fin oe ea rc false, AObj.lst [], hS st wr fin sn]) ∧ (isOpen st = true → (((-65536 : Int) ≤ bif decide (r = (0 : Int)) then (1 : Int) else (0 : Int)) ∧ (bif decide (r = (0 : Int)) then (1 : Int) else (0 : Int)) ≤ (65536 : Int)) ∧ orB fin (k (V.d (D.bool true)) [AObj.box (1 : Nat) sd', AObj.lst (List.map D.int zs'), sO st wr sn ac [] true (if fin = true then oe else true) ea rc false, AObj.lst [], hS st (wr + (2 : Int) * bif decide (r = (0 : Int)) then (1 : Int) else (0 : Int)) fin sn]) (k (V.d (D.bool true)) [AObj.box (1 : Nat) sd', AObj.lst (List.map D.int zs'), sO st wr sn ac [] true (if fin = true then oe else true) ea rc false, AObj.lst [], hS st (wr + (2 : Int) * bif decide (r = (0 : Int)) then (1 : Int) else (0 : Int)) (decide (r = (1 : Int))) sn])))) ([AObj.box (1 : Nat) sd', AObj.lst (List.map D.int zs'), sO st wr sn ac [] fin oe ea rc false, AObj.lst [], hS st wr fin sn] = [AObj.box (1 : Nat) sd', AObj.lst (List.map D.int zs'), sO st wr sn ac [] fin oe ea rc false, AObj.lst [], hS st wr fin sn] ∧ wr ≤ (1000 : Int) ∧ (r = (0 : Int) → (isOpen st = false ∨ fin = true → (((-65536 : Int) ≤ bif false then (1 : Int) else (0 : Int)) ∧ (bif false then (1 : Int) else (0 : Int)) ≤ (65536 : Int)) ∧ orB fin (k (V.d (D.bool true)) [AObj.box (1 : Nat) sd', AObj.lst (List.map D.int zs'), sO st wr sn ac [] fin oe ea rc false, AObj.lst [], hS st (wr + (2 : Int) * bif false then (1 : Int) else (0 : Int)) fin sn]) (k (V.d (D.bool true)) [AObj.box (1 : Nat) sd', AObj.lst (List.map D.int zs'), sO st wr sn ac [] fin oe ea rc false, AObj.lst [], hS st (wr + (2 : Int) * bif false then (1 : Int) else (0 : Int)) false sn])) ∧ (isOpen st = true ∧ fin = false → k (V.d (D.bool false)) [AObj.box (1 : Nat) sd', AObj.lst (List.map D.int zs'), sO st (wr + (2 : Int)) sn ac [] fin oe ea rc false, AObj.lst [], hS st wr fin sn])) ∧ (r ≠ (0 : Int) → (isOpen st = false → (((-65536 : Int) ≤ bif false then (1 : Int) else (0 : Int)) ∧ (bif false then (1 : Int) else (0 : Int)) ≤ (65536 : Int)) ∧ orB fin (k (V.d (D.bool true)) [AObj.box (1 : Nat) sd', AObj.lst (List.map D.int zs'), sO st wr sn
ac [] fin oe ea rc false, AObj.lst [], hS st (wr + (2 : Int) * bif false then (1 : Int) else (0 : Int)) fin sn]) (k (V.d (D.bool true)) [AObj.box (1 : Nat) sd', AObj.lst (List.map D.int zs'), sO st wr sn ac [] fin oe ea rc false, AObj.lst [], hS st (wr + (2 : Int) * bif false then (1 : Int) else (0 : Int)) false sn])) ∧ (isOpen st = true → k (V.d (D.bool false)) [AObj.box (1 : Nat) sd', AObj.lst (List.map D.int zs'), sO st wr sn ac [] true (if fin = true then oe else true) ea rc false, AObj.lst [], hS st wr fin sn]))))) (orB (decide (r = (2 : Int))) ([AObj.box (1 : Nat) sd', AObj.lst (List.map D.int zs'), sO st wr sn ac [] fin oe ea rc false, AObj.lst [], hS st wr fin sn] = [AObj.box (1 : Nat) sd', AObj.lst (List.map D.int zs'), sO st wr sn ac [] fin oe ea rc false, AObj.lst [], hS st wr fin sn] ∧ @List.nil D = [] ∧ (isOpen st = false → (oe = false ∧ (st = S "data_sent" → fin = true)) ∧ k (V.d (D.bool true)) [AObj.box (1 : Nat) sd', AObj.lst (List.map D.int zs'), sO st wr sn ac [] fin oe ea rc false, AObj.lst [], hS st wr fin sn]) ∧ (isOpen st = true → (oe = fin ∧ 0 ≤ sn ∧ sn ≤ wr ∧ wr ≤ (100 : Int)) ∧ k (V.d (D.bool true)) [AObj.box (1 : Nat) sd', AObj.lst (List.map D.int zs'), sO st wr sn ac [] fin oe ea rc false, AObj.lst [], hS st wr fin sn] ∧ ∀ (c : Int) (ie : Bool) (st' : Str) (oe' : Bool), NextRel wr sn fin oe c ie st' (sn + c) oe' → orB ie (↑(List.length (flyD kk [])) + (1 : Int) ≤ (4096 : Int) ∧ k (V.d (D.bool (List.any [S "ready", S "send", S "data_sent"] fun (x : Str) => x == st))) [AObj.box (1 : Nat) sd', AObj.lst (List.map D.int zs'), sO st' wr (sn + c) ac [] fin oe' ea rc false, AObj.lst [D.tup [D.int sn, D.int c, D.bool ie]], hS (S "data_sent") wr fin (max sn (sn + c))]) (orB (st == S "data_sent") (↑(List.length (flyD kk [])) + (1 : Int) ≤ (4096 : Int) ∧ k (V.d (D.bool (List.any [S "ready", S "send", S "data_sent"] fun (x : Str) => x == st))) [AObj.box (1 : Nat) sd', AObj.lst (List.map D.int zs'), sO st' wr (sn + c) ac [] fin oe' ea rc false, AObj.lst [D.tup [D.int sn, D.int c, D.bool ie]], hS (S "data_sent") wr fin (max sn (sn + c))]) (↑(List.length (flyD kk [])) + (1 : Int) ≤ (4096 : Int) ∧ k (V.d (D.bool (List.any [S "ready", S "send", S "data_sent"] fun (x : Str) => x == st))) [AObj.box (1 : Nat) sd', AObj.lst (List.map D.int zs'), sO st' wr (sn + c) ac [] fin oe' ea rc false, AObj.lst [D.tup [D.int sn, D.int c, D.bool ie]], hS (S "send") wr fin (max sn (sn + c))])))) (orB (decide (r = (3 : Int))) (orB (List.any [S "ready", S "send", S "data_sent"] fun (x : Str) => x == st) (∃ (zs : List Int), (List.map D.int zs' = List.map D.int zs ∧ (0 : Int) < (2 : Int) ∧ 0 ≤ sd' ∧ sd' < (2147483647 : Int)) ∧ ∀ (r sd' : Int) (zs' : List Int), (0 ≤ r ∧ r < (2 : Int)) ∧ 0 ≤ sd' ∧ sd' < (2147483647 : Int) → orB (decide (r = (0 : Int))) ([AObj.box (1 : Nat) sd', AObj.lst (List.map D.int zs'), sO st wr sn ac [] fin oe ea rc false, AObj.lst [], hS st wr fin sn] = [AObj.box (1 : Nat) sd', AObj.lst (List.map D.int
zs'), sO st wr sn ac [] fin oe ea rc false, AObj.lst [], hS st wr fin sn] ∧ (isOpen st = false ∧ (st == S "data_sent") = false → k (V.d (D.bool (false == true))) [AObj.box (1 : Nat) sd', AObj.lst (List.map D.int zs'), sO st wr sn ac [] fin oe ea rc false, AObj.lst [], hS (S "reset_sent") wr fin sn]) ∧ (isOpen st = true ∨ st = S "data_sent" → [AObj.box (1 : Nat) sd', AObj.lst (List.map D.int zs'), sO (S "reset_sent") wr sn ac [] fin false ea (D.int (9 : Int)) true, AObj.lst [], hS (S "reset_sent") wr fin sn] = [AObj.box (1 : Nat) sd', AObj.lst (List.map D.int zs'), sO (S "reset_sent") wr sn ac [] fin false ea (D.int (9 : Int)) true, AObj.lst [], hS (S "reset_sent") wr fin sn] ∧ (true = false → k (V.d (D.bool false)) [AObj.box (1 : Nat) sd', AObj.lst (List.map D.int zs'), sO (S "reset_sent") wr sn ac [] fin false ea (D.int (9 : Int)) true, AObj.lst [], hS (S "reset_sent") wr fin sn]) ∧ (true = true → ∃ (c : Int), D.int 9 = D.int c ∧ orB (decide (c = (9 : Int)) && decide (sn = sn)) ([AObj.box (1 : Nat) sd', AObj.lst (List.map D.int zs'), sO (S "reset_sent") wr sn ac [] fin false ea (D.int (9 : Int)) false, AObj.lst [], hS (S "reset_sent") wr fin sn] = [AObj.box (1 : Nat) sd', AObj.lst (List.map D.int zs'), sO (S "reset_sent") wr sn ac [] fin false ea (D.int (9 : Int)) false, AObj.lst [], hS (S "reset_sent") wr fin sn] ∧ (false = false → k (V.d (D.bool (isNoneD D.none))) [AObj.box (1 : Nat) sd', AObj.lst (List.map D.int zs'), sO (S "reset_sent") wr sn ac [] fin false ea (D.int (9 : Int)) false, AObj.lst [], hS (S "reset_sent") wr fin sn]) ∧ (false = true → ∃ (c : Int), D.int 9 = D.int c ∧ k (V.d (D.bool (isNoneD (D.tup [D.int c, D.int sn])))) [AObj.box (1 : Nat) sd', AObj.lst (List.map D.int zs'), sO (S "reset_sent") wr sn ac [] fin false ea (D.int (9 : Int)) false, AObj.lst [], hS (S "reset_sent") wr fin sn])) (k (V.d (D.bool (decide (c = (9 : Int)) && decide (sn = sn)))) [AObj.box (1 : Nat) sd', AObj.lst (List.map D.int zs'), sO (S "reset_sent") wr sn ac [] fin false ea (D.int (9 : Int)) false, AObj.lst [], hS (S "reset_sent") wr fin sn])))) ([AObj.box (1 : Nat) sd', AObj.lst (List.map D.int zs'), sO st wr sn ac [] fin oe ea rc false, AObj.lst [], hS st wr fin sn] = [AObj.box (1 : Nat) sd', AObj.lst (List.map D.int zs'), sO st wr sn ac [] fin oe ea rc false, AObj.lst [], hS st wr fin sn] ∧ (isOpen st = false ∧ (st == S "data_sent") = false → k (V.d (D.bool (false == true))) [AObj.box (1 : Nat) sd', AObj.lst (List.map D.int zs'), sO st wr sn ac [] fin oe ea rc false, AObj.lst [], hS (S "reset_sent") wr fin sn]) ∧ (isOpen st = true ∨ st = S "data_sent" → [AObj.box (1 : Nat) sd', AObj.lst (List.map D.int zs'), sO (S "reset_sent") wr sn ac [] fin false ea (D.int (9 : Int)) true, AObj.lst [], hS (S "reset_sent") wr fin sn] = [AObj.box (1 : Nat) sd', AObj.lst (List.map D.int zs'), sO (S "reset_sent") wr sn ac [] fin false ea (D.int (9 : Int)) true, AObj.lst [], hS (S "reset_sent") wr fin sn] ∧ (true = false → k (V.d (D.bool false))
[AObj.box (1 : Nat) sd', AObj.lst (List.map D.int zs'), sO (S "reset_sent") wr sn ac [] fin false ea (D.int (9 : Int)) true, AObj.lst [], hS (S "reset_sent") wr fin sn]) ∧ (true = true → ∃ (c : Int), D.int 9 = D.int c ∧ orB (decide (c = (9 : Int)) && decide (sn = sn)) ([AObj.box (1 : Nat) sd', AObj.lst (List.map D.int zs'), sO (S "reset_sent") wr sn ac [] fin false ea (D.int (9 : Int)) false, AObj.lst [], hS (S "reset_sent") wr fin sn] = [AObj.box (1 : Nat) sd', AObj.lst (List.map D.int zs'), sO (S "reset_sent") wr sn ac [] fin false ea (D.int (9 : Int)) false, AObj.lst [], hS (S "reset_sent") wr fin sn] ∧ (false = false → k (V.d (D.bool (isNoneD D.none))) [AObj.box (1 : Nat) sd', AObj.lst (List.map D.int zs'), sO (S "reset_sent") wr sn ac [] fin false ea (D.int (9 : Int)) false, AObj.lst [], hS (S "reset_sent") wr fin sn]) ∧ (false = true → ∃ (c : Int), D.int 9 = D.int c ∧ k (V.d (D.bool (isNoneD (D.tup [D.int c, D.int sn])))) [AObj.box (1 : Nat) sd', AObj.lst (List.map D.int zs'), sO (S "reset_sent") wr sn ac [] fin false ea (D.int (9 : Int)) false, AObj.lst [], hS (S "reset_sent") wr fin sn])) (k (V.d (D.bool (decide (c = (9 : Int)) && decide (sn = sn)))) [AObj.box (1 : Nat) sd', AObj.lst (List.map D.int zs'), sO (S "reset_sent") wr sn ac [] fin false ea (D.int (9 : Int)) false, AObj.lst [], hS (S "reset_sent") wr fin sn]))))) (∃ (zs : List Int), (List.map D.int zs' = List.map D.int zs ∧ (0 : Int) < (2 : Int) ∧ 0 ≤ sd' ∧ sd' < (2147483647 : Int)) ∧ ∀ (r sd' : Int) (zs' : List Int), (0 ≤ r ∧ r < (2 : Int)) ∧ 0 ≤ sd' ∧ sd' < (2147483647 : Int) → orB (decide (r = (0 : Int))) ([AObj.box (1 : Nat) sd', AObj.lst (List.map D.int zs'), sO st wr sn ac [] fin oe ea rc false, AObj.lst [], hS st wr fin sn] = [AObj.box (1 : Nat) sd', AObj.lst (List.map D.int zs'), sO st wr sn ac [] fin oe ea rc false, AObj.lst [], hS st wr fin sn] ∧ (isOpen st = false ∧ (st == S "data_sent") = false → [AObj.box (1 : Nat) sd', AObj.lst (List.map D.int zs'), sO st wr sn ac [] fin oe ea rc false, AObj.lst [], hS st wr fin sn] = [AObj.box (1 : Nat) sd', AObj.lst (List.map D.int zs'), sO st wr sn ac [] fin oe ea rc false, AObj.lst [], hS st wr fin sn] ∧ (false = false → [AObj.box (1 : Nat) sd', AObj.lst (List.map D.int zs'), sO st wr sn ac [] fin oe ea rc false, AObj.lst [], hS st wr fin sn] = [AObj.box (1 : Nat) sd', AObj.lst (List.map D.int zs'), sO st wr sn ac [] fin oe ea rc false, AObj.lst [], hS st wr fin sn] ∧ (false = false → k (V.d (D.bool (isNoneD D.none))) [AObj.box (1 : Nat) sd', AObj.lst (List.map D.int zs'), sO st wr sn ac [] fin oe ea rc false, AObj.lst [], hS st wr fin sn]) ∧ (false = true → ∃ (c : Int), rc = D.int c ∧ k (V.d (D.bool (isNoneD (D.tup [D.int c, D.int sn])))) [AObj.box (1 : Nat) sd', AObj.lst (List.map D.int zs'), sO st wr sn ac [] fin oe ea rc false, AObj.lst [], hS st wr fin sn])) ∧ (false = true → ∃ (c : Int), rc = D.int c ∧ k (V.d (D.bool false)) [AObj.box (1 : Nat) sd', AObj.lst (List.map D.int zs'), sO
st wr sn ac [] fin oe ea rc false, AObj.lst [], hS st wr fin sn])) ∧ (isOpen st = true ∨ st = S "data_sent" → k (V.d (D.bool (true == false))) [AObj.box (1 : Nat) sd', AObj.lst (List.map D.int zs'), sO (S "reset_sent") wr sn ac [] fin false ea (D.int (9 : Int)) true, AObj.lst [], hS st wr fin sn])) ([AObj.box (1 : Nat) sd', AObj.lst (List.map D.int zs'), sO st wr sn ac [] fin oe ea rc false, AObj.lst [], hS st wr fin sn] = [AObj.box (1 : Nat) sd', AObj.lst (List.map D.int zs'), sO st wr sn ac [] fin oe ea rc false, AObj.lst [], hS st wr fin sn] ∧ (isOpen st = false ∧ (st == S "data_sent") = false → [AObj.box (1 : Nat) sd', AObj.lst (List.map D.int zs'), sO st wr sn ac [] fin oe ea rc false, AObj.lst [], hS st wr fin sn] = [AObj.box (1 : Nat) sd', AObj.lst (List.map D.int zs'), sO st wr sn ac [] fin oe ea rc false, AObj.lst [], hS st wr fin sn] ∧ (false = false → [AObj.box (1 : Nat) sd', AObj.lst (List.map D.int zs'), sO st wr sn ac [] fin oe ea rc false, AObj.lst [], hS st wr fin sn] = [AObj.box (1 : Nat) sd', AObj.lst (List.map D.int zs'), sO st wr sn ac [] fin oe ea rc false, AObj.lst [], hS st wr fin sn] ∧ (false = false → k (V.d (D.bool (isNoneD D.none))) [AObj.box (1 : Nat) sd', AObj.lst (List.map D.int zs'), sO st wr sn ac [] fin oe ea rc false, AObj.lst [], hS st wr fin sn]) ∧ (false = true → ∃ (c : Int), rc = D.int c ∧ k (V.d (D.bool (isNoneD (D.tup [D.int c, D.int sn])))) [AObj.box (1 : Nat) sd', AObj.lst (List.map D.int zs'), sO st wr sn ac [] fin oe ea rc false, AObj.lst [], hS st wr fin sn])) ∧ (false = true → ∃ (c : Int), rc = D.int c ∧ k (V.d (D.bool false)) [AObj.box (1 : Nat) sd', AObj.lst (List.map D.int zs'), sO st wr sn ac [] fin oe ea rc false, AObj.lst [], hS st wr fin sn])) ∧ (isOpen st = true ∨ st = S "data_sent" → k (V.d (D.bool (true == false))) [AObj.box (1 : Nat) sd', AObj.lst (List.map D.int zs'), sO (S "reset_sent") wr sn ac [] fin false ea (D.int (9 : Int)) true, AObj.lst [], hS st wr fin sn])))) (orB (decide (r = (4 : Int))) (orB (st == S "reset_sent") ([AObj.box (1 : Nat) sd', AObj.lst (List.map D.int zs'), sO st wr sn ac [] fin oe ea rc false, AObj.lst [], hS st wr fin sn] = [AObj.box (1 : Nat) sd', AObj.lst (List.map D.int zs'), sO st wr sn ac [] fin oe ea rc false, AObj.lst [], hS st wr fin sn] ∧ (st = S "reset_sent" → [AObj.box (1 : Nat) sd', AObj.lst (List.map D.int zs'), sO st wr sn ac [] fin oe ea rc true, AObj.lst [], hS st wr fin sn] = [AObj.box (1 : Nat) sd', AObj.lst (List.map D.int zs'), sO st wr sn ac [] fin oe ea rc true, AObj.lst [], hS st wr fin sn] ∧ (true = false → False) ∧ (true = true → ∃ (c : Int), rc = D.int c ∧ orB (!(decide (c = (9 : Int)) && decide (sn = sn))) (k (V.d (D.bool false)) [AObj.box (1 : Nat) sd', AObj.lst (List.map D.int zs'), sO st wr sn ac [] fin oe ea rc false, AObj.lst [], hS st wr fin sn]) ([AObj.box (1 : Nat) sd', AObj.lst (List.map D.int zs'), sO st wr sn ac [] fin oe ea rc false, AObj.lst [], hS st wr fin sn] = [AObj.box (1 : Nat) sd', AObj.lst (List.map D.int zs'), sO
st wr sn ac [] fin oe ea rc false, AObj.lst [], hS st wr fin sn] ∧ (st = S "reset_sent" → k (V.d (D.bool true)) [AObj.box (1 : Nat) sd', AObj.lst (List.map D.int zs'), sO (S "reset_recvd") wr sn ac [] fin oe ea rc false, AObj.lst [], hS (S "reset_recvd") wr fin sn]) ∧ (st ≠ S "reset_sent" → k (V.d (D.bool true)) [AObj.box (1 : Nat) sd', AObj.lst (List.map D.int zs'), sO st wr sn ac [] fin oe ea rc false, AObj.lst [], hS (S "reset_recvd") wr fin sn])))) ∧ (st ≠ S "reset_sent" → [AObj.box (1 : Nat) sd', AObj.lst (List.map D.int zs'), sO st wr sn ac [] fin oe ea rc false, AObj.lst [], hS st wr fin sn] = [AObj.box (1 : Nat) sd', AObj.lst (List.map D.int zs'), sO st wr sn ac [] fin oe ea rc false, AObj.lst [], hS st wr fin sn] ∧ (false = false → False) ∧ (false = true → ∃ (c : Int), rc = D.int c ∧ orB (!(decide (c = (9 : Int)) && decide (sn = sn))) (k (V.d (D.bool false)) [AObj.box (1 : Nat) sd', AObj.lst (List.map D.int zs'), sO st wr sn ac [] fin oe ea rc false, AObj.lst [], hS st wr fin sn]) ([AObj.box (1 : Nat) sd', AObj.lst (List.map D.int zs'), sO st wr sn ac [] fin oe ea rc false, AObj.lst [], hS st wr fin sn] = [AObj.box (1 : Nat) sd', AObj.lst (List.map D.int zs'), sO st wr sn ac [] fin oe ea rc false, AObj.lst [], hS st wr fin sn] ∧ (st = S "reset_sent" → k (V.d (D.bool true)) [AObj.box (1 : Nat) sd', AObj.lst (List.map D.int zs'), sO (S "reset_recvd") wr sn ac [] fin oe ea rc false, AObj.lst [], hS (S "reset_recvd") wr fin sn]) ∧ (st ≠ S "reset_sent" → k (V.d (D.bool true)) [AObj.box (1 : Nat) sd', AObj.lst (List.map D.int zs'), sO st wr sn ac [] fin oe ea rc false, AObj.lst [], hS (S "reset_recvd") wr fin sn]))))) (k (V.d (D.bool true)) [AObj.box (1 : Nat) sd', AObj.lst (List.map D.int zs'), sO st wr sn ac [] fin oe ea rc false, AObj.lst [], hS st wr fin sn])) (k (V.d (D.bool true)) [AObj.box (1 : Nat) sd', AObj.lst (List.map D.int zs'), sO st wr sn ac [] fin oe ea rc false, AObj.lst [], hS st wr fin sn]))))) := by kernel_rfl
theorem vc360c (sd : Int) (zs : List Int) (st : Str) (wr sn kk : Int) (ac : List D) (fin oe ea : Bool) (rc : D) (z : Int) (e : Bool) (fl : List D) (k : V → List AObj → Prop) : (vcFS r360 false (calls360 ++ [(353, T353)]) noInv noWInv [.g 0, .g 2, .g 4] [.box 1 sd, iD zs, sO st wr sn ac [] fin oe ea rc false, .lst (.tup [.int kk, .int z, .bool e] :: fl), hS st wr fin sn] k) = (∃ (zs_1 : List Int), (List.map D.int zs = List.map D.int zs_1 ∧ (0 : Int) < (7 : Int) ∧ 0 ≤ sd ∧ sd < (2147483647 : Int)) ∧ ∀ (r sd' : Int) (zs' : List Int), (0 ≤ r ∧ r < (7 : Int)) ∧ 0 ≤ sd' ∧ sd' < (2147483647 : Int) → orB (decide (r < (2 : Int))) (orB (List.any [S "ready", S "send"] fun (x : Str) => x == st) (orB (decide (r = (1 : Int))) (orB (decide (r = (1 : Int))) ([AObj.box (1 : Nat) sd', AObj.lst (List.map D.int zs'), sO st wr sn ac [] fin oe ea rc false, AObj.lst (D.tup [D.int kk, D.int z, D.bool e] :: fl), hS st wr fin sn] = [AObj.box (1 : Nat) sd', AObj.lst (List.map D.int zs'), sO st wr sn ac [] fin oe ea rc false, AObj.lst (D.tup [D.int kk, D.int z, D.bool e] :: fl), hS st wr fin sn] ∧ wr ≤ (1000 : Int) ∧ (r = (0 : Int) → (isOpen st = false ∨ fin = true → k (V.d (D.bool false)) [AObj.box (1 : Nat) sd', AObj.lst (List.map D.int zs'), sO st wr sn ac [] fin oe ea rc false, AObj.lst (D.tup [D.int kk, D.int z, D.bool e] :: fl), hS st wr fin sn]) ∧ (isOpen st = true ∧ fin = false → (((-65536 : Int) ≤ bif decide (r = (0 : Int)) then (1 : Int) else (0 : Int)) ∧ (bif decide (r = (0 : Int)) then (1 : Int) else (0 : Int)) ≤ (65536 : Int)) ∧ orB fin (k (V.d (D.bool true)) [AObj.box (1 : Nat) sd', AObj.lst (List.map D.int zs'), sO st (wr + (2 : Int)) sn ac [] fin oe ea rc false, AObj.lst (D.tup [D.int kk, D.int z, D.bool e] :: fl), hS st (wr + (2 : Int) * bif decide (r = (0 : Int)) then (1 : Int) else (0 : Int)) fin sn]) (k (V.d (D.bool true)) [AObj.box (1 : Nat) sd', AObj.lst (List.map D.int zs'), sO st (wr + (2 : Int)) sn ac [] fin oe ea rc false, AObj.lst (D.tup [D.int kk, D.int z, D.bool e] :: fl), hS st (wr + (2 : Int) * bif decide (r = (0 : Int)) then (1 : Int) else (0 : Int)) (decide (r = (1 : Int))) sn]))) ∧ (r ≠ (0 : Int) → (isOpen st = false → k (V.d (D.bool false)) [AObj.box (1 : Nat) sd', AObj.lst (List.map D.int zs'), sO st wr sn ac [] fin oe ea rc false, AObj.lst (D.tup [D.int kk, D.int z, D.bool e] :: fl), hS st wr fin sn]) ∧ (isOpen st = true → (((-65536 : Int) ≤ bif decide (r = (0 : Int)) then (1 : Int) else (0 : Int)) ∧ (bif decide (r = (0 : Int)) then (1 : Int) else (0 : Int)) ≤ (65536 : Int)) ∧ orB fin (k (V.d (D.bool true)) [AObj.box (1 : Nat) sd', AObj.lst (List.map D.int zs'), sO st wr sn ac [] true (if fin = true then oe else true) ea rc false, AObj.lst (D.tup [D.int kk, D.int z, D.bool e] :: fl), hS st (wr + (2 : Int) * bif decide (r = (0 : Int)) then (1 : Int) else (0 : Int)) fin sn]) (k (V.d (D.bool true)) [AObj.box (1 : Nat) sd', AObj.lst (List.map D.int zs'), sO st wr sn ac [] true (if fin = true then oe else true) ea rc
false, AObj.lst (D.tup [D.int kk, D.int z, D.bool e] :: fl), hS st (wr + (2 : Int) * bif decide (r = (0 : Int)) then (1 : Int) else (0 : Int)) (decide (r = (1 : Int))) sn])))) ([AObj.box (1 : Nat) sd', AObj.lst (List.map D.int zs'), sO st wr sn ac [] fin oe ea rc false, AObj.lst (D.tup [D.int kk, D.int z, D.bool e] :: fl), hS st wr fin sn] = [AObj.box (1 : Nat) sd', AObj.lst (List.map D.int zs'), sO st wr sn ac [] fin oe ea rc false, AObj.lst (D.tup [D.int kk, D.int z, D.bool e] :: fl), hS st wr fin sn] ∧ wr ≤ (1000 : Int) ∧ (r = (0 : Int) → (isOpen st = false ∨ fin = true → (((-65536 : Int) ≤ bif false then (1 : Int) else (0 : Int)) ∧ (bif false then (1 : Int) else (0 : Int)) ≤ (65536 : Int)) ∧ orB fin (k (V.d (D.bool true)) [AObj.box (1 : Nat) sd', AObj.lst (List.map D.int zs'), sO st wr sn ac [] fin oe ea rc false, AObj.lst (D.tup [D.int kk, D.int z, D.bool e] :: fl), hS st (wr + (2 : Int) * bif false then (1 : Int) else (0 : Int)) fin sn]) (k (V.d (D.bool true)) [AObj.box (1 : Nat) sd', AObj.lst (List.map D.int zs'), sO st wr sn ac [] fin oe ea rc false, AObj.lst (D.tup [D.int kk, D.int z, D.bool e] :: fl), hS st (wr + (2 : Int) * bif false then (1 : Int) else (0 : Int)) false sn])) ∧ (isOpen st = true ∧ fin = false → k (V.d (D.bool false)) [AObj.box (1 : Nat) sd', AObj.lst (List.map D.int zs'), sO st (wr + (2 : Int)) sn ac [] fin oe ea rc false, AObj.lst (D.tup [D.int kk, D.int z, D.bool e] :: fl), hS st wr fin sn])) ∧ (r ≠ (0 : Int) → (isOpen st = false → (((-65536 : Int) ≤ bif false then (1 : Int) else (0 : Int)) ∧ (bif false then (1 : Int) else (0 : Int)) ≤ (65536 : Int)) ∧ orB fin (k (V.d (D.bool true)) [AObj.box (1 : Nat) sd', AObj.lst (List.map D.int zs'), sO st wr sn ac [] fin oe ea rc false, AObj.lst (D.tup [D.int kk, D.int z, D.bool e] :: fl), hS st (wr + (2 : Int) * bif false then (1 : Int) else (0 : Int)) fin sn]) (k (V.d (D.bool true)) [AObj.box (1 : Nat) sd', AObj.lst (List.map D.int zs'), sO st wr sn ac [] fin oe ea rc false, AObj.lst (D.tup [D.int kk, D.int z, D.bool e] :: fl), hS st (wr + (2 : Int) * bif false then (1 : Int) else (0 : Int)) false sn])) ∧ (isOpen st = true → k (V.d (D.bool false)) [AObj.box (1 : Nat) sd', AObj.lst (List.map D.int zs'), sO st wr sn ac [] true (if fin = true then oe else true) ea rc false, AObj.lst (D.tup [D.int kk, D.int z, D.bool e] :: fl), hS st wr fin sn])))) (orB (!fin) ([AObj.box (1 : Nat) sd', AObj.lst (List.map D.int zs'), sO st wr sn ac [] fin oe ea rc false, AObj.lst (D.tup [D.int kk, D.int z, D.bool e] :: fl), hS st wr fin sn] = [AObj.box (1 : Nat) sd', AObj.lst (List.map D.int zs'), sO st wr sn ac [] fin oe ea rc false, AObj.lst (D.tup [D.int kk, D.int z, D.bool e] :: fl), hS st wr fin sn] ∧ wr ≤ (1000 : Int) ∧ (r = (0 : Int) → (isOpen st = false ∨ fin = true → k (V.d (D.bool false)) [AObj.box (1 : Nat) sd', AObj.lst (List.map D.int zs'), sO st wr sn ac [] fin oe ea rc false, AObj.lst (D.tup [D.int kk, D.int z, D.bool e] :: fl), hS st wr fin sn]) ∧ (isOpen st = true ∧ fin = false →
(((-65536 : Int) ≤ bif decide (r = (0 : Int)) then (1 : Int) else (0 : Int)) ∧ (bif decide (r = (0 : Int)) then (1 : Int) else (0 : Int)) ≤ (65536 : Int)) ∧ orB fin (k (V.d (D.bool true)) [AObj.box (1 : Nat) sd', AObj.lst (List.map D.int zs'), sO st (wr + (2 : Int)) sn ac [] fin oe ea rc false, AObj.lst (D.tup [D.int kk, D.int z, D.bool e] :: fl), hS st (wr + (2 : Int) * bif decide (r = (0 : Int)) then (1 : Int) else (0 : Int)) fin sn]) (k (V.d (D.bool true)) [AObj.box (1 : Nat) sd', AObj.lst (List.map D.int zs'), sO st (wr + (2 : Int)) sn ac [] fin oe ea rc false, AObj.lst (D.tup [D.int kk, D.int z, D.bool e] :: fl), hS st (wr + (2 : Int) * bif decide (r = (0 : Int)) then (1 : Int) else (0 : Int)) (decide (r = (1 : Int))) sn]))) ∧ (r ≠ (0 : Int) → (isOpen st = false → k (V.d (D.bool false)) [AObj.box (1 : Nat) sd', AObj.lst (List.map D.int zs'), sO st wr sn ac [] fin oe ea rc false, AObj.lst (D.tup [D.int kk, D.int z, D.bool e] :: fl), hS st wr fin sn]) ∧ (isOpen st = true → (((-65536 : Int) ≤ bif decide (r = (0 : Int)) then (1 : Int) else (0 : Int)) ∧ (bif decide (r = (0 : Int)) then (1 : Int) else (0 : Int)) ≤ (65536 : Int)) ∧ orB fin (k (V.d (D.bool true)) [AObj.box (1 : Nat) sd', AObj.lst (List.map D.int zs'), sO st wr sn ac [] true (if fin = true then oe else true) ea rc false, AObj.lst (D.tup [D.int kk, D.int z, D.bool e] :: fl), hS st (wr + (2 : Int) * bif decide (r = (0 : Int)) then (1 : Int) else (0 : Int)) fin sn]) (k (V.d (D.bool true)) [AObj.box (1 : Nat) sd', AObj.lst (List.map D.int zs'), sO st wr sn ac [] true (if fin = true then oe else true) ea rc false, AObj.lst (D.tup [D.int kk, D.int z, D.bool e] :: fl), hS st (wr + (2 : Int) * bif decide (r = (0 : Int)) then (1 : Int) else (0 : Int)) (decide (r = (1 : Int))) sn])))) ([AObj.box (1 : Nat) sd', AObj.lst (List.map D.int zs'), sO st wr sn ac [] fin oe ea rc false, AObj.lst (D.tup [D.int kk, D.int z, D.bool e] :: fl), hS st wr fin sn] = [AObj.box (1 : Nat) sd', AObj.lst (List.map D.int zs'), sO st wr sn ac [] fin oe ea rc false, AObj.lst (D.tup [D.int kk, D.int z, D.bool e] :: fl), hS st wr fin sn] ∧ wr ≤ (1000 : Int) ∧ (r = (0 : Int) → (isOpen st = false ∨ fin = true → (((-65536 : Int) ≤ bif false then (1 : Int) else (0 : Int)) ∧ (bif false then (1 : Int) else (0 : Int)) ≤ (65536 : Int)) ∧ orB fin (k (V.d (D.bool true)) [AObj.box (1 : Nat) sd', AObj.lst (List.map D.int zs'), sO st wr sn ac [] fin oe ea rc false, AObj.lst (D.tup [D.int kk, D.int z, D.bool e] :: fl), hS st (wr + (2 : Int) * bif false then (1 : Int) else (0 : Int)) fin sn]) (k (V.d (D.bool true)) [AObj.box (1 : Nat) sd', AObj.lst (List.map D.int zs'), sO st wr sn ac [] fin oe ea rc false, AObj.lst (D.tup [D.int kk, D.int z, D.bool e] :: fl), hS st (wr + (2 : Int) * bif false then (1 : Int) else (0 : Int)) false sn])) ∧ (isOpen st = true ∧ fin = false → k (V.d (D.bool false)) [AObj.box (1 : Nat) sd', AObj.lst (List.map D.int zs'), sO st (wr + (2 : Int)) sn ac [] fin oe ea rc false, AObj.lst (D.tup [D.int kk, D.int z,
D.bool e] :: fl), hS st wr fin sn])) ∧ (r ≠ (0 : Int) → (isOpen st = false → (((-65536 : Int) ≤ bif false then (1 : Int) else (0 : Int)) ∧ (bif false then (1 : Int) else (0 : Int)) ≤ (65536 : Int)) ∧ orB fin (k (V.d (D.bool true)) [AObj.box (1 : Nat) sd', AObj.lst (List.map D.int zs'), sO st wr sn ac [] fin oe ea rc false, AObj.lst (D.tup [D.int kk, D.int z, D.bool e] :: fl), hS st (wr + (2 : Int) * bif false then (1 : Int) else (0 : Int)) fin sn]) (k (V.d (D.bool true)) [AObj.box (1 : Nat) sd', AObj.lst (List.map D.int zs'), sO st wr sn ac [] fin oe ea rc false, AObj.lst (D.tup [D.int kk, D.int z, D.bool e] :: fl), hS st (wr + (2 : Int) * bif false then (1 : Int) else (0 : Int)) false sn])) ∧ (isOpen st = true → k (V.d (D.bool false)) [AObj.box (1 : Nat) sd', AObj.lst (List.map D.int zs'), sO st wr sn ac [] true (if fin = true then oe else true) ea rc false, AObj.lst (D.tup [D.int kk, D.int z, D.bool e] :: fl), hS st wr fin sn]))))) (orB (List.any [S "ready", S "send"] fun (x : Str) => x == st) ([AObj.box (1 : Nat) sd', AObj.lst (List.map D.int zs'), sO st wr sn ac [] fin oe ea rc false, AObj.lst (D.tup [D.int kk, D.int z, D.bool e] :: fl), hS st wr fin sn] = [AObj.box (1 : Nat) sd', AObj.lst (List.map D.int zs'), sO st wr sn ac [] fin oe ea rc false, AObj.lst (D.tup [D.int kk, D.int z, D.bool e] :: fl), hS st wr fin sn] ∧ wr ≤ (1000 : Int) ∧ (r = (0 : Int) → (isOpen st = false ∨ fin = true → k (V.d (D.bool false)) [AObj.box (1 : Nat) sd', AObj.lst (List.map D.int zs'), sO st wr sn ac [] fin oe ea rc false, AObj.lst (D.tup [D.int kk, D.int z, D.bool e] :: fl), hS st wr fin sn]) ∧ (isOpen st = true ∧ fin = false → (((-65536 : Int) ≤ bif decide (r = (0 : Int)) then (1 : Int) else (0 : Int)) ∧ (bif decide (r = (0 : Int)) then (1 : Int) else (0 : Int)) ≤ (65536 : Int)) ∧ orB fin (k (V.d (D.bool true)) [AObj.box (1 : Nat) sd', AObj.lst (List.map D.int zs'), sO st (wr + (2 : Int)) sn ac [] fin oe ea rc false, AObj.lst (D.tup [D.int kk, D.int z, D.bool e] :: fl), hS st (wr + (2 : Int) * bif decide (r = (0 : Int)) then (1 : Int) else (0 : Int)) fin sn]) (k (V.d (D.bool true)) [AObj.box (1 : Nat) sd', AObj.lst (List.map D.int zs'), sO st (wr + (2 : Int)) sn ac [] fin oe ea rc false, AObj.lst (D.tup [D.int kk, D.int z, D.bool e] :: fl), hS st (wr + (2 : Int) * bif decide (r = (0 : Int)) then (1 : Int) else (0 : Int)) (decide (r = (1 : Int))) sn]))) ∧ (r ≠ (0 : Int) → (isOpen st = false → k (V.d (D.bool false)) [AObj.box (1 : Nat) sd', AObj.lst (List.map D.int zs'), sO st wr sn ac [] fin oe ea rc false, AObj.lst (D.tup [D.int kk, D.int z, D.bool e] :: fl), hS st wr fin sn]) ∧ (isOpen st = true → (((-65536 : Int) ≤ bif decide (r = (0 : Int)) then (1 : Int) else (0 : Int)) ∧ (bif decide (r = (0 : Int)) then (1 : Int) else (0 : Int)) ≤ (65536 : Int)) ∧ orB fin (k (V.d (D.bool true)) [AObj.box (1 : Nat) sd', AObj.lst (List.map D.int zs'), sO st wr sn ac [] true (if fin = true then oe else true) ea rc false, AObj.lst (D.tup [D.int kk, D.int z, D.bool e] :: fl),
hS st (wr + (2 : Int) * bif decide (r = (0 : Int)) then (1 : Int) else (0 : Int)) fin sn]) (k (V.d (D.bool true)) [AObj.box (1 : Nat) sd', AObj.lst (List.map D.int zs'), sO st wr sn ac [] true (if fin = true then oe else true) ea rc false, AObj.lst (D.tup [D.int kk, D.int z, D.bool e] :: fl), hS st (wr + (2 : Int) * bif decide (r = (0 : Int)) then (1 : Int) else (0 : Int)) (decide (r = (1 : Int))) sn])))) ([AObj.box (1 : Nat) sd', AObj.lst (List.map D.int zs'), sO st wr sn ac [] fin oe ea rc false, AObj.lst (D.tup [D.int kk, D.int z, D.bool e] :: fl), hS st wr fin sn] = [AObj.box (1 : Nat) sd', AObj.lst (List.map D.int zs'), sO st wr sn ac [] fin oe ea rc false, AObj.lst (D.tup [D.int kk, D.int z, D.bool e] :: fl), hS st wr fin sn] ∧ wr ≤ (1000 : Int) ∧ (r = (0 : Int) → (isOpen st = false ∨ fin = true → (((-65536 : Int) ≤ bif false then (1 : Int) else (0 : Int)) ∧ (bif false then (1 : Int) else (0 : Int)) ≤ (65536 : Int)) ∧ orB fin (k (V.d (D.bool true)) [AObj.box (1 : Nat) sd', AObj.lst (List.map D.int zs'), sO st wr sn ac [] fin oe ea rc false, AObj.lst (D.tup [D.int kk, D.int z, D.bool e] :: fl), hS st (wr + (2 : Int) * bif false then (1 : Int) else (0 : Int)) fin sn]) (k (V.d (D.bool true)) [AObj.box (1 : Nat) sd', AObj.lst (List.map D.int zs'), sO st wr sn ac [] fin oe ea rc false, AObj.lst (D.tup [D.int kk, D.int z, D.bool e] :: fl), hS st (wr + (2 : Int) * bif false then (1 : Int) else (0 : Int)) false sn])) ∧ (isOpen st = true ∧ fin = false → k (V.d (D.bool false)) [AObj.box (1 : Nat) sd', AObj.lst (List.map D.int zs'), sO st (wr + (2 : Int)) sn ac [] fin oe ea rc false, AObj.lst (D.tup [D.int kk, D.int z, D.bool e] :: fl), hS st wr fin sn])) ∧ (r ≠ (0 : Int) → (isOpen st = false → (((-65536 : Int) ≤ bif false then (1 : Int) else (0 : Int)) ∧ (bif false then (1 : Int) else (0 : Int)) ≤ (65536 : Int)) ∧ orB fin (k (V.d (D.bool true)) [AObj.box (1 : Nat) sd', AObj.lst (List.map D.int zs'), sO st wr sn ac [] fin oe ea rc false, AObj.lst (D.tup [D.int kk, D.int z, D.bool e] :: fl), hS st (wr + (2 : Int) * bif false then (1 : Int) else (0 : Int)) fin sn]) (k (V.d (D.bool true)) [AObj.box (1 : Nat) sd', AObj.lst (List.map D.int zs'), sO st wr sn ac [] fin oe ea rc false, AObj.lst (D.tup [D.int kk, D.int z, D.bool e] :: fl), hS st (wr + (2 : Int) * bif false then (1 : Int) else (0 : Int)) false sn])) ∧ (isOpen st = true → k (V.d (D.bool false)) [AObj.box (1 : Nat) sd', AObj.lst (List.map D.int zs'), sO st wr sn ac [] true (if fin = true then oe else true) ea rc false, AObj.lst (D.tup [D.int kk, D.int z, D.bool e] :: fl), hS st wr fin sn]))))) (orB (decide (r = (2 : Int))) ([AObj.box (1 : Nat) sd', AObj.lst (List.map D.int zs'), sO st wr sn ac [] fin oe ea rc false, AObj.lst (D.tup [D.int kk, D.int z, D.bool e] :: fl), hS st wr fin sn] = [AObj.box (1 : Nat) sd', AObj.lst (List.map D.int zs'), sO st wr sn ac [] fin oe ea rc false, AObj.lst (D.tup [D.int kk, D.int z, D.bool e] :: fl), hS st wr fin sn] ∧ @List.nil D = [] ∧ (isOpen st = false → (oe =
false ∧ (st = S "data_sent" → fin = true)) ∧ k (V.d (D.bool true)) [AObj.box (1 : Nat) sd', AObj.lst (List.map D.int zs'), sO st wr sn ac [] fin oe ea rc false, AObj.lst (D.tup [D.int kk, D.int z, D.bool e] :: fl), hS st wr fin sn]) ∧ (isOpen st = true → (oe = fin ∧ 0 ≤ sn ∧ sn ≤ wr ∧ wr ≤ (100 : Int)) ∧ k (V.d (D.bool true)) [AObj.box (1 : Nat) sd', AObj.lst (List.map D.int zs'), sO st wr sn ac [] fin oe ea rc false, AObj.lst (D.tup [D.int kk, D.int z, D.bool e] :: fl), hS st wr fin sn] ∧ ∀ (c : Int) (ie : Bool) (st' : Str) (oe' : Bool), NextRel wr sn fin oe c ie st' (sn + c) oe' → orB ie (↑(List.length (D.tup [D.int kk, D.int z, D.bool e] :: fl)) + (1 : Int) ≤ (4096 : Int) ∧ k (V.d (D.bool (List.any [S "ready", S "send", S "data_sent"] fun (x : Str) => x == st))) [AObj.box (1 : Nat) sd', AObj.lst (List.map D.int zs'), sO st' wr (sn + c) ac [] fin oe' ea rc false, AObj.lst (D.tup [D.int kk, D.int z, D.bool e] :: (fl ++ [D.tup [D.int sn, D.int c, D.bool ie]])), hS (S "data_sent") wr fin (max sn (sn + c))]) (orB (st == S "data_sent") (↑(List.length (D.tup [D.int kk, D.int z, D.bool e] :: fl)) + (1 : Int) ≤ (4096 : Int) ∧ k (V.d (D.bool (List.any [S "ready", S "send", S "data_sent"] fun (x : Str) => x == st))) [AObj.box (1 : Nat) sd', AObj.lst (List.map D.int zs'), sO st' wr (sn + c) ac [] fin oe' ea rc false, AObj.lst (D.tup [D.int kk, D.int z, D.bool e] :: (fl ++ [D.tup [D.int sn, D.int c, D.bool ie]])), hS (S "data_sent") wr fin (max sn (sn + c))]) (↑(List.length (D.tup [D.int kk, D.int z, D.bool e] :: fl)) + (1 : Int) ≤ (4096 : Int) ∧ k (V.d (D.bool (List.any [S "ready", S "send", S "data_sent"] fun (x : Str) => x == st))) [AObj.box (1 : Nat) sd', AObj.lst (List.map D.int zs'), sO st' wr (sn + c) ac [] fin oe' ea rc false, AObj.lst (D.tup [D.int kk, D.int z, D.bool e] :: (fl ++ [D.tup [D.int sn, D.int c, D.bool ie]])), hS (S "send") wr fin (max sn (sn + c))])))) (orB (decide (r = (3 : Int))) (orB (List.any [S "ready", S "send", S "data_sent"] fun (x : Str) => x == st) (∃ (zs : List Int), (List.map D.int zs' = List.map D.int zs ∧ (0 : Int) < (2 : Int) ∧ 0 ≤ sd' ∧ sd' < (2147483647 : Int)) ∧ ∀ (r sd' : Int) (zs' : List Int), (0 ≤ r ∧ r < (2 : Int)) ∧ 0 ≤ sd' ∧ sd' < (2147483647 : Int) → orB (decide (r = (0 : Int))) ([AObj.box (1 : Nat) sd', AObj.lst (List.map D.int zs'), sO st wr sn ac [] fin oe ea rc false, AObj.lst (D.tup [D.int kk, D.int z, D.bool e] :: fl), hS st wr fin sn] = [AObj.box (1 : Nat) sd', AObj.lst (List.map D.int zs'), sO st wr sn ac [] fin oe ea rc false, AObj.lst (D.tup [D.int kk, D.int z, D.bool e] :: fl), hS st wr fin sn] ∧ (isOpen st = false ∧ (st == S "data_sent") = false → k (V.d (D.bool (false == true))) [AObj.box (1 : Nat) sd', AObj.lst (List.map D.int zs'), sO st wr sn ac [] fin oe ea rc false, AObj.lst (D.tup [D.int kk, D.int z, D.bool e] :: fl), hS (S "reset_sent") wr fin sn]) ∧ (isOpen st = true ∨ st = S "data_sent" → [AObj.box (1 : Nat) sd', AObj.lst (List.map D.int zs'), sO (S
"reset_sent") wr sn ac [] fin false ea (D.int (9 : Int)) true, AObj.lst (D.tup [D.int kk, D.int z, D.bool e] :: fl), hS (S "reset_sent") wr fin sn] = [AObj.box (1 : Nat) sd', AObj.lst (List.map D.int zs'), sO (S "reset_sent") wr sn ac [] fin false ea (D.int (9 : Int)) true, AObj.lst (D.tup [D.int kk, D.int z, D.bool e] :: fl), hS (S "reset_sent") wr fin sn] ∧ (true = false → k (V.d (D.bool false)) [AObj.box (1 : Nat) sd', AObj.lst (List.map D.int zs'), sO (S "reset_sent") wr sn ac [] fin false ea (D.int (9 : Int)) true, AObj.lst (D.tup [D.int kk, D.int z, D.bool e] :: fl), hS (S "reset_sent") wr fin sn]) ∧ (true = true → ∃ (c : Int), D.int 9 = D.int c ∧ orB (decide (c = (9 : Int)) && decide (sn = sn)) ([AObj.box (1 : Nat) sd', AObj.lst (List.map D.int zs'), sO (S "reset_sent") wr sn ac [] fin false ea (D.int (9 : Int)) false, AObj.lst (D.tup [D.int kk, D.int z, D.bool e] :: fl), hS (S "reset_sent") wr fin sn] = [AObj.box (1 : Nat) sd', AObj.lst (List.map D.int zs'), sO (S "reset_sent") wr sn ac [] fin false ea (D.int (9 : Int)) false, AObj.lst (D.tup [D.int kk, D.int z, D.bool e] :: fl), hS (S "reset_sent") wr fin sn] ∧ (false = false → k (V.d (D.bool (isNoneD D.none))) [AObj.box (1 : Nat) sd', AObj.lst (List.map D.int zs'), sO (S "reset_sent") wr sn ac [] fin false ea (D.int (9 : Int)) false, AObj.lst (D.tup [D.int kk, D.int z, D.bool e] :: fl), hS (S "reset_sent") wr fin sn]) ∧ (false = true → ∃ (c : Int), D.int 9 = D.int c ∧ k (V.d (D.bool (isNoneD (D.tup [D.int c, D.int sn])))) [AObj.box (1 : Nat) sd', AObj.lst (List.map D.int zs'), sO (S "reset_sent") wr sn ac [] fin false ea (D.int (9 : Int)) false, AObj.lst (D.tup [D.int kk, D.int z, D.bool e] :: fl), hS (S "reset_sent") wr fin sn])) (k (V.d (D.bool (decide (c = (9 : Int)) && decide (sn = sn)))) [AObj.box (1 : Nat) sd', AObj.lst (List.map D.int zs'), sO (S "reset_sent") wr sn ac [] fin false ea (D.int (9 : Int)) false, AObj.lst (D.tup [D.int kk, D.int z, D.bool e] :: fl), hS (S "reset_sent") wr fin sn])))) ([AObj.box (1 : Nat) sd', AObj.lst (List.map D.int zs'), sO st wr sn ac [] fin oe ea rc false, AObj.lst (D.tup [D.int kk, D.int z, D.bool e] :: fl), hS st wr fin sn] = [AObj.box (1 : Nat) sd', AObj.lst (List.map D.int zs'), sO st wr sn ac [] fin oe ea rc false, AObj.lst (D.tup [D.int kk, D.int z, D.bool e] :: fl), hS st wr fin sn] ∧ (isOpen st = false ∧ (st == S "data_sent") = false → k (V.d (D.bool (false == true))) [AObj.box (1 : Nat) sd', AObj.lst (List.map D.int zs'), sO st wr sn ac [] fin oe ea rc false, AObj.lst (D.tup [D.int kk, D.int z, D.bool e] :: fl), hS (S "reset_sent") wr fin sn]) ∧ (isOpen st = true ∨ st = S "data_sent" → [AObj.box (1 : Nat) sd', AObj.lst (List.map D.int zs'), sO (S "reset_sent") wr sn ac [] fin false ea (D.int (9 : Int)) true, AObj.lst (D.tup [D.int kk, D.int z, D.bool e] :: fl), hS (S "reset_sent") wr fin sn] = [AObj.box (1 : Nat) sd', AObj.lst (List.map D.int zs'), sO (S "reset_sent") wr sn ac [] fin false ea (D.int (9 : Int)) true,
AObj.lst (D.tup [D.int kk, D.int z, D.bool e] :: fl), hS (S "reset_sent") wr fin sn] ∧ (true = false → k (V.d (D.bool false)) [AObj.box (1 : Nat) sd', AObj.lst (List.map D.int zs'), sO (S "reset_sent") wr sn ac [] fin false ea (D.int (9 : Int)) true, AObj.lst (D.tup [D.int kk, D.int z, D.bool e] :: fl), hS (S "reset_sent") wr fin sn]) ∧ (true = true → ∃ (c : Int), D.int 9 = D.int c ∧ orB (decide (c = (9 : Int)) && decide (sn = sn)) ([AObj.box (1 : Nat) sd', AObj.lst (List.map D.int zs'), sO (S "reset_sent") wr sn ac [] fin false ea (D.int (9 : Int)) false, AObj.lst (D.tup [D.int kk, D.int z, D.bool e] :: fl), hS (S "reset_sent") wr fin sn] = [AObj.box (1 : Nat) sd', AObj.lst (List.map D.int zs'), sO (S "reset_sent") wr sn ac [] fin false ea (D.int (9 : Int)) false, AObj.lst (D.tup [D.int kk, D.int z, D.bool e] :: fl), hS (S "reset_sent") wr fin sn] ∧ (false = false → k (V.d (D.bool (isNoneD D.none))) [AObj.box (1 : Nat) sd', AObj.lst (List.map D.int zs'), sO (S "reset_sent") wr sn ac [] fin false ea (D.int (9 : Int)) false, AObj.lst (D.tup [D.int kk, D.int z, D.bool e] :: fl), hS (S "reset_sent") wr fin sn]) ∧ (false = true → ∃ (c : Int), D.int 9 = D.int c ∧ k (V.d (D.bool (isNoneD (D.tup [D.int c, D.int sn])))) [AObj.box (1 : Nat) sd', AObj.lst (List.map D.int zs'), sO (S "reset_sent") wr sn ac [] fin false ea (D.int (9 : Int)) false, AObj.lst (D.tup [D.int kk, D.int z, D.bool e] :: fl), hS (S "reset_sent") wr fin sn])) (k (V.d (D.bool (decide (c = (9 : Int)) && decide (sn = sn)))) [AObj.box (1 : Nat) sd', AObj.lst (List.map D.int zs'), sO (S "reset_sent") wr sn ac [] fin false ea (D.int (9 : Int)) false, AObj.lst (D.tup [D.int kk, D.int z, D.bool e] :: fl), hS (S "reset_sent") wr fin sn]))))) (∃ (zs : List Int), (List.map D.int zs' = List.map D.int zs ∧ (0 : Int) < (2 : Int) ∧ 0 ≤ sd' ∧ sd' < (2147483647 : Int)) ∧ ∀ (r sd' : Int) (zs' : List Int), (0 ≤ r ∧ r < (2 : Int)) ∧ 0 ≤ sd' ∧ sd' < (2147483647 : Int) → orB (decide (r = (0 : Int))) ([AObj.box (1 : Nat) sd', AObj.lst (List.map D.int zs'), sO st wr sn ac [] fin oe ea rc false, AObj.lst (D.tup [D.int kk, D.int z, D.bool e] :: fl), hS st wr fin sn] = [AObj.box (1 : Nat) sd', AObj.lst (List.map D.int zs'), sO st wr sn ac [] fin oe ea rc false, AObj.lst (D.tup [D.int kk, D.int z, D.bool e] :: fl), hS st wr fin sn] ∧ (isOpen st = false ∧ (st == S "data_sent") = false → [AObj.box (1 : Nat) sd', AObj.lst (List.map D.int zs'), sO st wr sn ac [] fin oe ea rc false, AObj.lst (D.tup [D.int kk, D.int z, D.bool e] :: fl), hS st wr fin sn] = [AObj.box (1 : Nat) sd', AObj.lst (List.map D.int zs'), sO st wr sn ac [] fin oe ea rc false, AObj.lst (D.tup [D.int kk, D.int z, D.bool e] :: fl), hS st wr fin sn] ∧ (false = false → [AObj.box (1 : Nat) sd', AObj.lst (List.map D.int zs'), sO st wr sn ac [] fin oe ea rc false, AObj.lst (D.tup [D.int kk, D.int z, D.bool e] :: fl), hS st wr fin sn] = [AObj.box (1 : Nat) sd', AObj.lst (List.map D.int zs'), sO st wr sn ac [] fin oe
ea rc false, AObj.lst (D.tup [D.int kk, D.int z, D.bool e] :: fl), hS st wr fin sn] ∧ (false = false → k (V.d (D.bool (isNoneD D.none))) [AObj.box (1 : Nat) sd', AObj.lst (List.map D.int zs'), sO st wr sn ac [] fin oe ea rc false, AObj.lst (D.tup [D.int kk, D.int z, D.bool e] :: fl), hS st wr fin sn]) ∧ (false = true → ∃ (c : Int), rc = D.int c ∧ k (V.d (D.bool (isNoneD (D.tup [D.int c, D.int sn])))) [AObj.box (1 : Nat) sd', AObj.lst (List.map D.int zs'), sO st wr sn ac [] fin oe ea rc false, AObj.lst (D.tup [D.int kk, D.int z, D.bool e] :: fl), hS st wr fin sn])) ∧ (false = true → ∃ (c : Int), rc = D.int c ∧ k (V.d (D.bool false)) [AObj.box (1 : Nat) sd', AObj.lst (List.map D.int zs'), sO st wr sn ac [] fin oe ea rc false, AObj.lst (D.tup [D.int kk, D.int z, D.bool e] :: fl), hS st wr fin sn])) ∧ (isOpen st = true ∨ st = S "data_sent" → k (V.d (D.bool (true == false))) [AObj.box (1 : Nat) sd', AObj.lst (List.map D.int zs'), sO (S "reset_sent") wr sn ac [] fin false ea (D.int (9 : Int)) true, AObj.lst (D.tup [D.int kk, D.int z, D.bool e] :: fl), hS st wr fin sn])) ([AObj.box (1 : Nat) sd', AObj.lst (List.map D.int zs'), sO st wr sn ac [] fin oe ea rc false, AObj.lst (D.tup [D.int kk, D.int z, D.bool e] :: fl), hS st wr fin sn] = [AObj.box (1 : Nat) sd', AObj.lst (List.map D.int zs'), sO st wr sn ac [] fin oe ea rc false, AObj.lst (D.tup [D.int kk, D.int z, D.bool e] :: fl), hS st wr fin sn] ∧ (isOpen st = false ∧ (st == S "data_sent") = false → [AObj.box (1 : Nat) sd', AObj.lst (List.map D.int zs'), sO st wr sn ac [] fin oe ea rc false, AObj.lst (D.tup [D.int kk, D.int z, D.bool e] :: fl), hS st wr fin sn] = [AObj.box (1 : Nat) sd', AObj.lst (List.map D.int zs'), sO st wr sn ac [] fin oe ea rc false, AObj.lst (D.tup [D.int kk, D.int z, D.bool e] :: fl), hS st wr fin sn] ∧ (false = false → [AObj.box (1 : Nat) sd', AObj.lst (List.map D.int zs'), sO st wr sn ac [] fin oe ea rc false, AObj.lst (D.tup [D.int kk, D.int z, D.bool e] :: fl), hS st wr fin sn] = [AObj.box (1 : Nat) sd', AObj.lst (List.map D.int zs'), sO st wr sn ac [] fin oe ea rc false, AObj.lst (D.tup [D.int kk, D.int z, D.bool e] :: fl), hS st wr fin sn] ∧ (false = false → k (V.d (D.bool (isNoneD D.none))) [AObj.box (1 : Nat) sd', AObj.lst (List.map D.int zs'), sO st wr sn ac [] fin oe ea rc false, AObj.lst (D.tup [D.int kk, D.int z, D.bool e] :: fl), hS st wr fin sn]) ∧ (false = true → ∃ (c : Int), rc = D.int c ∧ k (V.d (D.bool (isNoneD (D.tup [D.int c, D.int sn])))) [AObj.box (1 : Nat) sd', AObj.lst (List.map D.int zs'), sO st wr sn ac [] fin oe ea rc false, AObj.lst (D.tup [D.int kk, D.int z, D.bool e] :: fl), hS st wr fin sn])) ∧ (false = true → ∃ (c : Int), rc = D.int c ∧ k (V.d (D.bool false)) [AObj.box (1 : Nat) sd', AObj.lst (List.map D.int zs'), sO st wr sn ac [] fin oe ea rc false, AObj.lst (D.tup [D.int kk, D.int z, D.bool e] :: fl), hS st wr fin sn])) ∧ (isOpen st = true ∨ st = S "data_sent" → k (V.d (D.bool (true == false))) [AObj.box (1 : Nat) sd', AObj.lst (List.map D.int
zs'), sO (S "reset_sent") wr sn ac [] fin false ea (D.int (9 : Int)) true, AObj.lst (D.tup [D.int kk, D.int z, D.bool e] :: fl), hS st wr fin sn])))) (orB (decide (r = (4 : Int))) (orB (st == S "reset_sent") ([AObj.box (1 : Nat) sd', AObj.lst (List.map D.int zs'), sO st wr sn ac [] fin oe ea rc false, AObj.lst (D.tup [D.int kk, D.int z, D.bool e] :: fl), hS st wr fin sn] = [AObj.box (1 : Nat) sd', AObj.lst (List.map D.int zs'), sO st wr sn ac [] fin oe ea rc false, AObj.lst (D.tup [D.int kk, D.int z, D.bool e] :: fl), hS st wr fin sn] ∧ (st = S "reset_sent" → [AObj.box (1 : Nat) sd', AObj.lst (List.map D.int zs'), sO st wr sn ac [] fin oe ea rc true, AObj.lst (D.tup [D.int kk, D.int z, D.bool e] :: fl), hS st wr fin sn] = [AObj.box (1 : Nat) sd', AObj.lst (List.map D.int zs'), sO st wr sn ac [] fin oe ea rc true, AObj.lst (D.tup [D.int kk, D.int z, D.bool e] :: fl), hS st wr fin sn] ∧ (true = false → False) ∧ (true = true → ∃ (c : Int), rc = D.int c ∧ orB (!(decide (c = (9 : Int)) && decide (sn = sn))) (k (V.d (D.bool false)) [AObj.box (1 : Nat) sd', AObj.lst (List.map D.int zs'), sO st wr sn ac [] fin oe ea rc false, AObj.lst (D.tup [D.int kk, D.int z, D.bool e] :: fl), hS st wr fin sn]) ([AObj.box (1 : Nat) sd', AObj.lst (List.map D.int zs'), sO st wr sn ac [] fin oe ea rc false, AObj.lst (D.tup [D.int kk, D.int z, D.bool e] :: fl), hS st wr fin sn] = [AObj.box (1 : Nat) sd', AObj.lst (List.map D.int zs'), sO st wr sn ac [] fin oe ea rc false, AObj.lst (D.tup [D.int kk, D.int z, D.bool e] :: fl), hS st wr fin sn] ∧ (st = S "reset_sent" → k (V.d (D.bool true)) [AObj.box (1 : Nat) sd', AObj.lst (List.map D.int zs'), sO (S "reset_recvd") wr sn ac [] fin oe ea rc false, AObj.lst (D.tup [D.int kk, D.int z, D.bool e] :: fl), hS (S "reset_recvd") wr fin sn]) ∧ (st ≠ S "reset_sent" → k (V.d (D.bool true)) [AObj.box (1 : Nat) sd', AObj.lst (List.map D.int zs'), sO st wr sn ac [] fin oe ea rc false, AObj.lst (D.tup [D.int kk, D.int z, D.bool e] :: fl), hS (S "reset_recvd") wr fin sn])))) ∧ (st ≠ S "reset_sent" → [AObj.box (1 : Nat) sd', AObj.lst (List.map D.int zs'), sO st wr sn ac [] fin oe ea rc false, AObj.lst (D.tup [D.int kk, D.int z, D.bool e] :: fl), hS st wr fin sn] = [AObj.box (1 : Nat) sd', AObj.lst (List.map D.int zs'), sO st wr sn ac [] fin oe ea rc false, AObj.lst (D.tup [D.int kk, D.int z, D.bool e] :: fl), hS st wr fin sn] ∧ (false = false → False) ∧ (false = true → ∃ (c : Int), rc = D.int c ∧ orB (!(decide (c = (9 : Int)) && decide (sn = sn))) (k (V.d (D.bool false)) [AObj.box (1 : Nat) sd', AObj.lst (List.map D.int zs'), sO st wr sn ac [] fin oe ea rc false, AObj.lst (D.tup [D.int kk, D.int z, D.bool e] :: fl), hS st wr fin sn]) ([AObj.box (1 : Nat) sd', AObj.lst (List.map D.int zs'), sO st wr sn ac [] fin oe ea rc false, AObj.lst (D.tup [D.int kk, D.int z, D.bool e] :: fl), hS st wr fin sn] = [AObj.box (1 : Nat) sd', AObj.lst (List.map D.int zs'), sO st wr sn ac [] fin oe ea rc false, AObj.lst (D.tup [D.int kk, D.int z, D.bool e] ::
fl), hS st wr fin sn] ∧ (st = S "reset_sent" → k (V.d (D.bool true)) [AObj.box (1 : Nat) sd', AObj.lst (List.map D.int zs'), sO (S "reset_recvd") wr sn ac [] fin oe ea rc false, AObj.lst (D.tup [D.int kk, D.int z, D.bool e] :: fl), hS (S "reset_recvd") wr fin sn]) ∧ (st ≠ S "reset_sent" → k (V.d (D.bool true)) [AObj.box (1 : Nat) sd', AObj.lst (List.map D.int zs'), sO st wr sn ac [] fin oe ea rc false, AObj.lst (D.tup [D.int kk, D.int z, D.bool e] :: fl), hS (S "reset_recvd") wr fin sn]))))) ((0 : Int) = (0 : Int) ∧ orB e ([AObj.box (1 : Nat) sd', AObj.lst (List.map D.int zs'), sO st wr sn ac [] fin oe ea rc false, AObj.lst fl, hS st wr fin sn] = [AObj.box (1 : Nat) sd', AObj.lst (List.map D.int zs'), sO st wr sn ac [] fin oe ea rc false, AObj.lst fl, hS st wr fin sn] ∧ (@List.nil D = [] ∧ AkD ac kk ∧ 0 ≤ z) ∧ ∀ (ac' : List D) (st' : Str) (ea' oe' : Bool), AkD ac' (kk + z) → AckRel wr (kk + z) st true ea oe st' ea' oe' → orB (st == S "data_sent") (orB (isNil fl) (k (V.d (D.bool true)) [AObj.box (1 : Nat) sd', AObj.lst (List.map D.int zs'), sO st' wr sn ac' [] fin oe' ea' rc false, AObj.lst fl, hS (S "data_recvd") wr fin sn]) (k (V.d (D.bool true)) [AObj.box (1 : Nat) sd', AObj.lst (List.map D.int zs'), sO st' wr sn ac' [] fin oe' ea' rc false, AObj.lst fl, hS st wr fin sn])) (k (V.d (D.bool true)) [AObj.box (1 : Nat) sd', AObj.lst (List.map D.int zs'), sO st' wr sn ac' [] fin oe' ea' rc false, AObj.lst fl, hS st wr fin sn])) ([AObj.box (1 : Nat) sd', AObj.lst (List.map D.int zs'), sO st wr sn ac [] fin oe ea rc false, AObj.lst fl, hS st wr fin sn] = [AObj.box (1 : Nat) sd', AObj.lst (List.map D.int zs'), sO st wr sn ac [] fin oe ea rc false, AObj.lst fl, hS st wr fin sn] ∧ (@List.nil D = [] ∧ AkD ac kk ∧ 0 ≤ z) ∧ ∀ (ac' : List D) (st' : Str) (ea' oe' : Bool), AkD ac' (kk + z) → AckRel wr (kk + z) st false ea oe st' ea' oe' → orB (st == S "data_sent") (orB (isNil fl) (k (V.d (D.bool true)) [AObj.box (1 : Nat) sd', AObj.lst (List.map D.int zs'), sO st' wr sn ac' [] fin oe' ea' rc false, AObj.lst fl, hS (S "data_recvd") wr fin sn]) (k (V.d (D.bool true)) [AObj.box (1 : Nat) sd', AObj.lst (List.map D.int zs'), sO st' wr sn ac' [] fin oe' ea' rc false, AObj.lst fl, hS st wr fin sn])) (k (V.d (D.bool true)) [AObj.box (1 : Nat) sd', AObj.lst (List.map D.int zs'), sO st' wr sn ac' [] fin oe' ea' rc false, AObj.lst fl, hS st wr fin sn])))) ((0 : Int) = (0 : Int) ∧ orB e ([AObj.box (1 : Nat) sd', AObj.lst (List.map D.int zs'), sO st wr sn ac [] fin oe ea rc false, AObj.lst fl, hS st wr fin sn] = [AObj.box (1 : Nat) sd', AObj.lst (List.map D.int zs'), sO st wr sn ac [] fin oe ea rc false, AObj.lst fl, hS st wr fin sn] ∧ (@List.nil D = [] ∧ AkD ac kk ∧ 0 ≤ z) ∧ ∀ (ac' : List D) (st' : Str) (ea' oe' : Bool), AkD ac' (kk + z) → AckRel wr (kk + z) st true ea oe st' ea' oe' → orB (st == S "data_sent") (orB (isNil fl) (k (V.d (D.bool true)) [AObj.box (1 : Nat) sd', AObj.lst (List.map D.int zs'), sO st' wr sn ac' [] fin oe' ea' rc false,
AObj.lst fl, hS (S "data_recvd") wr fin sn]) (k (V.d (D.bool true)) [AObj.box (1 : Nat) sd', AObj.lst (List.map D.int zs'), sO st' wr sn ac' [] fin oe' ea' rc false, AObj.lst fl, hS st wr fin sn])) (k (V.d (D.bool true)) [AObj.box (1 : Nat) sd', AObj.lst (List.map D.int zs'), sO st' wr sn ac' [] fin oe' ea' rc false, AObj.lst fl, hS st wr fin sn])) ([AObj.box (1 : Nat) sd', AObj.lst (List.map D.int zs'), sO st wr sn ac [] fin oe ea rc false, AObj.lst fl, hS st wr fin sn] = [AObj.box (1 : Nat) sd', AObj.lst (List.map D.int zs'), sO st wr sn ac [] fin oe ea rc false, AObj.lst fl, hS st wr fin sn] ∧ (@List.nil D = [] ∧ AkD ac kk ∧ 0 ≤ z) ∧ ∀ (ac' : List D) (st' : Str) (ea' oe' : Bool), AkD ac' (kk + z) → AckRel wr (kk + z) st false ea oe st' ea' oe' → orB (st == S "data_sent") (orB (isNil fl) (k (V.d (D.bool true)) [AObj.box (1 : Nat) sd', AObj.lst (List.map D.int zs'), sO st' wr sn ac' [] fin oe' ea' rc false, AObj.lst fl, hS (S "data_recvd") wr fin sn]) (k (V.d (D.bool true)) [AObj.box (1 : Nat) sd', AObj.lst (List.map D.int zs'), sO st' wr sn ac' [] fin oe' ea' rc false, AObj.lst fl, hS st wr fin sn])) (k (V.d (D.bool true)) [AObj.box (1 : Nat) sd', AObj.lst (List.map D.int zs'), sO st' wr sn ac' [] fin oe' ea' rc false, AObj.lst fl, hS st wr fin sn]))))))) := by kernel_rfl
end
noncomputable section
theorem RI.init : RI (S "recv") 0 0 none false [] (· ∈ ([] : List Int)) :=
  ⟨Int.le_refl _, by decide, Int.le_refl _, fun _ h => (nomatch h), fun _ h => (nomatch h), fun h => Bool.noConfusion h, fun _ _ x => ⟨fun h => (InP_nil h).elim, fun h => (nomatch h.1)⟩, fun h => absurd h (by decide), fun h => absurd h (by decide), SepP.nil, .inl rfl⟩
theorem RI.halt {st : Str} {rd hi : Int} {f : Option Int} {sp : Bool} {ps : Pcs} {S : Int → Prop} (I : RI st rd hi f sp ps S) (hl : isLive st = true) : RI st rd hi f true [] S := by
  obtain ⟨_, l2, l3⟩ := live_rst hl
  exact ⟨I.rd0, I.hi12, I.rdhi, I.lt, I.fin, fun _ => ⟨rfl, l2, l3⟩, fun h => Bool.noConfusion h, fun h => absurd h l2, fun h => absurd h l3, SepP.nil, I.nm⟩
theorem neB {b c : Bool} {P Q : Prop} (e : b = c) (h : Q) : orB (!(b == c)) P Q := by
  subst e
  rw [beq_self_eq_true]
  exact h
theorem neS {s : Str} {P Q : Prop} (h : Q) : orB (!(s == s)) P Q := by
  rw [beq_self_eq_true]
  exact h
theorem orB_f {P Q : Prop} (h : Q) : orB false P Q := h
theorem orB_t {P Q : Prop} (h : P) : orB true P Q := h
theorem f346 : FnOkS 346 T346 5 := fnS_ok r346 (row_at 35 rfl) 4 40 false calls346 [(332, T332)] (by kernel_rfl) (by decide +kernel) (fun L' => .inl (by kernel_rfl)) (bind1 rfl fun _ => by kernel_rfl) (fun p hp => by
    simp only [List.mem_cons, List.not_mem_nil, or_false] at hp
    rcases hp with rfl | rfl | rfl | rfl | rfl | rfl
    · exact fun c h1 h2 => f320 c h1 (by lia)
    · exact fun c h1 h2 => f175 c h1 (by lia)
    · exact fun c h1 h2 => f151 c h1 (by lia)
    · exact fun c h1 h2 => f165 c h1 (by lia)
    · exact fun c h1 h2 => f172 c h1 (by lia)
    · exact fun c h1 h2 => f339 c h1 (by lia)) (fun p hp => by
    rw [List.mem_singleton] at hp
    rw [hp]; exact f332) fun Vs W k ex h0 => by
  refine A1_go h0 fun e1 h => ?_
  clear h0
  subst e1
  · obtain ⟨sd, zs, ⟨rfl, h1⟩, hk⟩ := h
    refine ⟨rfl, inv346, noWInv, (vc346 ..).mpr ⟨rfl, rfl, by decide, ⟨⟨sd, zs, S "recv", [], 0, 0, none, .none, false, []⟩, ⟨⟨h1, RI.init, Nat.le_refl _, fun _ => rfl⟩, by decide⟩, rfl, rfl, rfl, rfl, rfl, trivial⟩, fun i x ⟨hi, hx, hi8⟩ => ?_, fun x ⟨hx, _⟩ => hk _ _ _ _ _ hx.sd⟩⟩
    refine ⟨x.zs, ⟨rfl, by decide, hx.sd⟩, fun r sd' zs' ⟨hr, hb⟩ => ?_⟩
    have e : Int.toNat ((0 : Int) + (i : Int)) = i := by lia
    rw [e]
    have hks := hx.ks
    refine ⟨orD (fun e5 => ?_) fun e5 => orD (fun e4 => ?_) fun e4 => ?_, fun x hx => ?_⟩
    · obtain ⟨sd0, zs0, st, ps, rd, hi0, f, rc, sp, ks⟩ := x
      have stay : RXok (i + 1) ⟨sd', zs', st, ps, rd, hi0, f, rc, sp, ks⟩ := ⟨hb, hx.ri, by show ks.length ≤ _; exact Nat.le_trans hks (by lia), hx.rc⟩
      have halt : isLive st = true → RXok (i + 1) ⟨sd', zs', st, [], rd, hi0, f, rc, true, ks⟩ := fun l => ⟨hb, hx.ri.halt l, by show ks.length ≤ _; exact Nat.le_trans hks (by lia), hx.rc⟩
      have hi9 : i < 8 := by lia
      cases sp with
      | false =>
        refine orB_i (fun l => ⟨rfl, false, rfl, fun q => ?_, fun _ => ⟨⟨sd', zs', st, [], rd, hi0, f, rc, true, ks⟩, ⟨halt l, hi9⟩, rfl, rfl, rfl, rfl, rfl, trivial⟩⟩) fun l => orB_i (fun l2 => Bool.noConfusion (l.symm.trans l2)) fun _ => ⟨rfl, false, rfl, fun q => ⟨⟨sd', zs', st, ps, rd, hi0, f, rc, false, ks⟩, ⟨stay, hi9⟩, rfl, rfl, rfl, rfl, rfl, trivial⟩, fun q => Bool.noConfusion ((show isLive st = false from l).symm.trans q.1)⟩
        rcases q with q | q
        · exact Bool.noConfusion ((show isLive st = true from l).symm.trans q)
        · cases q
      | true =>
        refine orB_i (fun l => ⟨rfl, true, rfl, fun q => ⟨⟨sd', zs', st, ps, rd, hi0, f, rc, true, ks⟩, ⟨stay, hi9⟩, rfl, rfl, rfl, rfl, rfl, trivial⟩, fun q => Bool.noConfusion q.2⟩) fun l => orB_i (fun l2 => Bool.noConfusion (l.symm.trans l2)) fun _ => ⟨rfl, true, rfl, fun q => ⟨⟨sd', zs', st, ps, rd, hi0, f, rc, true, ks⟩, ⟨stay, hi9⟩, rfl, rfl, rfl, rfl, rfl, trivial⟩, fun q => Bool.noConfusion q.2⟩
    · exact ⟨_, _, x.st, x.ps, x.rd, x.hi, x.f, x.rc, x.sp, x.ks, ⟨rfl, hx.ri⟩, fun st' ps' rd' I hl => ⟨⟨sd', zs', st', ps', rd', x.hi, x.f, x.rc, x.sp, x.ks⟩, ⟨⟨hb, I, by show x.ks.length ≤ _; lia, fun q => hx.rc (by rw [← hl q]; exact q)⟩, by lia⟩, rfl, rfl, rfl, rfl, rfl, trivial⟩⟩
    · exact ⟨sd', zs', x.st, x.ps, x.rd, x.hi, x.f, x.rc, x.sp, x.ks, ⟨⟨rfl, hb⟩, hx.ri, by lia, hx.rc⟩, fun sd2 zs2 st' ps' hi' f' rc' ks' hb2 I hl hrc => ⟨⟨sd2, zs2, st', ps', x.rd, hi', f', rc', x.sp, ks'⟩, ⟨⟨hb2, I, by show ks'.length ≤ _; lia, hrc⟩, by lia⟩, rfl, rfl, rfl, rfl, rfl, trivial⟩⟩
    · obtain ⟨hx, hlt⟩ := hx
      obtain ⟨sd0, zs0, st, ps, rd, hi0, f, rc, sp, ks⟩ := x
      cases sp with
      | true =>
        refine neS ⟨rfl, true, rfl, orND (fun q => absurd rfl q) fun _ => ⟨rfl, true, f, ⟨rfl, rfl⟩, orB_i (fun e => neB ?_ ⟨_, ⟨hx, by lia⟩, rfl, rfl, rfl, rfl, rfl, trivial⟩) fun e => neB ?_ ⟨_, ⟨hx, by lia⟩, rfl, rfl, rfl, rfl, rfl, trivial⟩⟩⟩
        · show (isEnd st || (true && f.isSome)) = isEnd st
          rw [show isEnd st = true from e]; rfl
        · show (isEnd st || (true && f.isSome)) = !isNoneD (fD f)
          rw [show isEnd st = false from e]; cases f <;> rfl
      | false =>
        refine orB_f ?_
        refine orB_i (fun e0 => neS ⟨rfl, false, rfl, orND (fun q => absurd ?_ q) fun _ => ⟨rfl, false, f, ⟨rfl, rfl⟩, orB_i (fun e => neB ?_ ⟨_, ⟨hx, by lia⟩, rfl, rfl, rfl, rfl, rfl, trivial⟩) fun e => neB ?_ ⟨_, ⟨hx, by lia⟩, rfl, rfl, rfl, rfl, rfl, trivial⟩⟩⟩) fun e0 => neS ⟨rfl, false, rfl, orND (fun q => absurd ?_ q) fun _ => ⟨rfl, false, f, ⟨rfl, rfl⟩, orB_i (fun e => neB ?_ ⟨_, ⟨hx, by lia⟩, rfl, rfl, rfl, rfl, rfl, trivial⟩) fun e => neB ?_ ⟨_, ⟨hx, by lia⟩, rfl, rfl, rfl, rfl, rfl, trivial⟩⟩⟩
        · show (if (false || isRst st) = true then hi0 else rd) = hi0
          rw [show isRst st = true from e0]; rfl
        · show (isEnd st || (false && f.isSome)) = isEnd st
          rw [show isEnd st = true from e]; rfl
        · show (isEnd st || (false && f.isSome)) = false
          rw [show isEnd st = false from e]; rfl
        · show (if (false || isRst st) = true then hi0 else rd) = rd
          rw [show isRst st = false from e0]; rfl
        · show (isEnd st || (false && f.isSome)) = isEnd st
          rw [show isEnd st = true from e]; rfl
        · show (isEnd st || (false && f.isSome)) = false
          rw [show isEnd st = false from e]; rfl
end
noncomputable section
theorem SH.init : SH 0 (S "ready") 0 0 0 [] false false false .none [] :=
  ⟨.inl ⟨rfl, rfl⟩, Int.le_refl _, Int.le_refl _, fun _ h => (nomatch h), rfl, ⟨Int.le_refl _, by decide⟩, Nat.le_refl _, .inl ⟨by decide, rfl, rfl, fun _ h => (nomatch h)⟩⟩
theorem f367_of (f360 : FnOkS 360 T360 4) : FnOkS 367 T367 5 := fnS_ok r367 (row_at 38 rfl) 4 40 false calls367 [(360, T360)] (by kernel_rfl) (by decide +kernel) (fun L' => .inl (by kernel_rfl)) (bind1 rfl fun _ => by kernel_rfl) (fun p hp => by
    simp only [List.mem_cons, List.not_mem_nil, or_false] at hp
    rcases hp with rfl | rfl
    · exact fun c h1 h2 => f302 c h1 (by omega)
    · exact fun c h1 h2 => f299 c h1 (by omega)) (fun p hp => by
    rw [List.mem_singleton] at hp
    rw [hp]; exact f360) fun Vs W k ex h0 => by
  refine A1_go h0 fun e1 h => ?_
  clear h0
  subst e1
  · obtain ⟨sd, zs, ⟨rfl, h1⟩, hk⟩ := h
    refine ⟨rfl, inv367, noWInv, (vc367 ..).mpr ⟨rfl, rfl, by decide, ⟨⟨sd, zs, S "ready", 0, 0, 0, [], false, false, false, .none, []⟩, ⟨h1, SH.init, by decide⟩, rfl, rfl, rfl, rfl, rfl, trivial⟩, fun i x ⟨hi, hb, hx, hi8⟩ => ?_, fun x ⟨hb, _⟩ => hk _ _ _ _ _ hb⟩⟩
    exact ⟨x.sd, x.zs, i, x.st, x.wr, x.sn, x.kk, x.ac, x.fin, x.oe, x.ea, x.rc, x.fly, ⟨⟨rfl, hb⟩, hx, by omega⟩, fun sd' zs' st' wr' sn' kk' ac' fin' oe' ea' rc' fly' hb' hx' => neS ⟨rfl, neB rfl ⟨⟨sd', zs', st', wr', sn', kk', ac', fin', oe', ea', rc', fly'⟩, ⟨hb', hx', by omega⟩, rfl, rfl, rfl, rfl, rfl, trivial⟩⟩⟩
end
noncomputable section
section
variable {i : Nat} {st : Str} {wr sn k : Int} {ac : List D} {fin oe ea : Bool} {rc : D} {fly : List (Int × Bool)}
theorem SH.stay (h : SH i st wr sn k ac fin oe ea rc fly) : SH (i + 1) st wr sn k ac fin oe ea rc fly :=
  ⟨h.ak, h.k0, h.snw, h.all, h.fend, ⟨h.wr0.1, by have := h.wr0.2; omega⟩, Nat.le_succ_of_le h.len, h.ph⟩
theorem Ph.open_ {len : Int} (h : Ph st len sn fin oe ea rc fly) (ho : isOpen st = true) : ea = false ∧ oe = fin ∧ ∀ f ∈ fly, f.2 = false := by
  rcases h with ⟨_, h⟩ | ⟨rfl, _⟩ | ⟨rfl, _⟩ | ⟨rfl, _⟩ | ⟨rfl, _⟩
  · exact h
  all_goals exact absurd ho (by decide)
theorem SH.write (h : SH i st wr sn k ac false oe ea rc fly) (ho : isOpen st = true) : SH (i + 1) st (wr + 2) sn k ac false oe ea rc fly := by
  obtain ⟨h1, h2, h3⟩ := h.ph.open_ ho
  have := h.wr0
  have := h.snw
  exact ⟨h.ak, h.k0, by omega, h.all, h.fend, ⟨by omega, by omega⟩, Nat.le_succ_of_le h.len, .inl ⟨ho, h1, h2, h3⟩⟩
theorem SH.finish (h : SH i st wr sn k ac fin oe ea rc fly) (ho : isOpen st = true) : SH (i + 1) st wr sn k ac true (if fin = true then oe else true) ea rc fly := by
  obtain ⟨h1, h2, h3⟩ := h.ph.open_ ho
  have := h.stay
  refine ⟨this.ak, this.k0, this.snw, this.all, this.fend, this.wr0, this.len, .inl ⟨ho, h1, ?_, h3⟩⟩
  split
  · rename_i e; rw [h2, e]
  · rfl
theorem flyEnd_app {f : Int × Bool} : ∀ {fly : List (Int × Bool)} {k : Int}, flyEnd k (fly ++ [f]) = flyEnd k fly + f.1
  | [], _ => rfl
  | _ :: r, k => flyEnd_app (fly := r)
theorem flyD_app {f : Int × Bool} : ∀ {fly : List (Int × Bool)} {k : Int}, flyD k (fly ++ [f]) = flyD k fly ++ [.tup [.int (flyEnd k fly), .int f.1, .bool f.2]]
  | [], _ => rfl
  | g :: r, k => congrArg (_ :: ·) (flyD_app (fly := r))
theorem SH.chunk {c : Int} {ie oe' : Bool} {st' : Str} (h : SH i st wr sn k ac fin oe ea rc fly) (ho : isOpen st = true) (R : NextRel wr sn fin oe c ie st' (sn + c) oe') : SH (i + 1) st' wr (sn + c) k ac fin oe' ea rc (fly ++ [(c, ie)]) := by
  obtain ⟨h1, h2, h3⟩ := h.ph.open_ ho
  subst h1
  have := h.stay
  refine ⟨this.ak, this.k0, by have := R.2.2.1; omega, fun f hf => ?_, by rw [flyEnd_app, h.fend], this.wr0, by rw [List.length_append]; exact Nat.succ_le_succ h.len, Ph.chunk R h2 h3⟩
  rcases List.mem_append.mp hf with hf | hf
  · exact h.all f hf
  · rw [List.mem_singleton.mp hf]; exact R.1
theorem SH.ack {z : Int} {e oe' ea' : Bool} {st' : Str} {q : List (Int × Bool)} {ac' : List D} (h : SH i st wr sn k ac fin oe ea rc ((z, e) :: q)) (hA : AkD ac' (k + z)) (R : AckRel wr (k + z) st e ea oe st' ea' oe') :
    SH (i + 1) st' wr sn (k + z) ac' fin oe' ea' rc q ∧ (st = S "data_sent" → q = [] → st' = S "data_recvd") ∧ ((st == S "data_sent") = false ∨ q ≠ [] → st' = st) := by
  have hz := h.all (z, e) (.head _)
  obtain ⟨p, r1, r2⟩ := Ph.ack h.ph (fun hq => by subst hq; exact h.fend) R
  exact ⟨⟨hA, by have := h.k0; dsimp only at hz; omega, h.snw, fun f hf => h.all f (.tail _ hf), h.fend, h.stay.wr0, by have := h.len; rw [List.length_cons] at this; omega, p⟩, r1, r2⟩
theorem SH.reset (h : SH i st wr sn k ac fin oe ea rc fly) : SH (i + 1) (S "reset_sent") wr sn k ac fin false ea (.int 9) fly := by
  have := h.stay
  exact ⟨this.ak, this.k0, this.snw, this.all, this.fend, this.wr0, this.len, .inr (.inr (.inr (.inl ⟨rfl, rfl, rfl⟩)))⟩
theorem SH.gone (h : SH i (S "reset_sent") wr sn k ac fin oe ea rc fly) : SH (i + 1) (S "reset_recvd") wr sn k ac fin oe ea rc fly ∧ rc = .int 9 := by
  have := h.stay
  have hp : oe = false ∧ rc = .int 9 := by
    rcases h.ph with ⟨ho, _⟩ | ⟨e, _⟩ | ⟨e, _⟩ | ⟨_, h1, h2⟩ | ⟨e, _⟩
    · exact absurd ho (by decide)
    · exact absurd e (by decide)
    · exact absurd e (by decide)
    · exact ⟨h1, h2⟩
    · exact absurd e (by decide)
  exact ⟨⟨this.ak, this.k0, this.snw, this.all, this.fend, this.wr0, this.len, .inr (.inr (.inr (.inr ⟨rfl, hp.1⟩)))⟩, hp.2⟩
theorem SH.dead (h : SH i st wr sn k ac fin oe ea rc fly) (ho : isOpen st = false) : oe = false ∧ (st = S "data_sent" → fin = true) := by
  rcases h.ph with ⟨h1, _⟩ | ⟨_, h1, h2, _⟩ | ⟨e, h1, _⟩ | ⟨e, h1, _⟩ | ⟨e, h1⟩
  · rw [ho] at h1; cases h1
  · exact ⟨h2, fun _ => h1⟩
  all_goals exact ⟨h1, fun q => absurd (e.symm.trans q) (by decide)⟩
end
end
noncomputable section
theorem flyD_len : ∀ {fly : List (Int × Bool)} {k : Int}, (flyD k fly).length = fly.length
  | [], _ => rfl
  | _ :: r, _ => congrArg (· + 1) (flyD_len (fly := r))
theorem flyD_nil : ∀ {fly : List (Int × Bool)} {k : Int}, isNil (flyD k fly) = true → fly = []
  | [], _, _ => rfl
  | _ :: _, _, h => by cases h
theorem flyD_nnil : ∀ {fly : List (Int × Bool)} {k : Int}, isNil (flyD k fly) = false → fly ≠ []
  | [], _, h => by cases h
  | _ :: _, _, _ => fun h => by cases h
theorem flyEnd_ge : ∀ {fly : List (Int × Bool)} {k : Int}, (∀ f ∈ fly, 0 ≤ f.1) → k ≤ flyEnd k fly
  | [], _, _ => Int.le_refl _
  | f :: r, k, h => by
    have h1 := h f (.head _)
    have h2 := flyEnd_ge (fly := r) (k := k + f.1) fun g hg => h g (.tail _ hg)
    show k ≤ flyEnd (k + f.1) r
    lia
section
variable {i : Nat} {st : Str} {wr sn kk r : Int} {ac : List D} {fin oe ea : Bool} {rc : D} {fly : List (Int × Bool)} {b l : AObj} {k : V → List AObj → Prop} {E : Prop}
theorem stepX {P0 Pa Pb Pc Pd Pz : Prop} (hE : E) (hw : wr ≤ 1000) (ho : isOpen st = true) (hr : 0 ≤ r ∧ r < 2) (hl : r = 1 ∨ fin = false) (hb : r = 0 → fin = false → Pb) (hc : r = 1 → fin = true → Pc) (hd : r = 1 → fin = false → Pd) :
    E ∧ (wr ≤ 1000 ∧ ((r = 0 → (isOpen st = false ∨ fin = true → P0) ∧ (isOpen st = true ∧ fin = false → ((-65536 : Int) ≤ (bif decide (r = 0) then 1 else 0) ∧ (bif decide (r = 0) then (1 : Int) else 0) ≤ 65536) ∧ orB fin Pa Pb)) ∧
      (r ≠ 0 → (isOpen st = false → Pz) ∧ (isOpen st = true → ((-65536 : Int) ≤ (bif decide (r = 0) then 1 else 0) ∧ (bif decide (r = 0) then (1 : Int) else 0) ≤ 65536) ∧ orB fin Pc Pd)))) := by
  have hbd : (-65536 : Int) ≤ (bif decide (r = 0) then 1 else 0) ∧ (bif decide (r = 0) then (1 : Int) else 0) ≤ 65536 := by
    cases decide (r = 0) <;> exact ⟨by decide, by decide⟩
  refine ⟨hE, hw, fun r0 => ⟨fun q => absurd q ?_, fun q => ⟨hbd, orB_i (fun e => Bool.noConfusion (e.symm.trans q.2)) fun e => hb r0 e⟩⟩, fun r0 => ⟨fun q => Bool.noConfusion (ho.symm.trans q), fun _ => ⟨hbd, orB_i (hc (by lia)) (hd (by lia))⟩⟩⟩
  rintro (q | q)
  · exact Bool.noConfusion (ho.symm.trans q)
  · rcases hl with h | h
    · lia
    · exact Bool.noConfusion (h.symm.trans q)
theorem stepY {P0 Pa Pb Pc Pd Pz : Prop} (hE : E) (hw : wr ≤ 1000) (hl : isOpen st = true → r = 0 ∧ fin = true) (ha : fin = true → Pa) (hb : fin = false → Pb) (hc : fin = true → Pc) (hd : fin = false → Pd) :
    E ∧ (wr ≤ 1000 ∧ ((r = 0 → (isOpen st = false ∨ fin = true → ((-65536 : Int) ≤ (bif false then 1 else 0) ∧ (bif false then (1 : Int) else 0) ≤ 65536) ∧ orB fin Pa Pb) ∧ (isOpen st = true ∧ fin = false → P0)) ∧
      (r ≠ 0 → (isOpen st = false → ((-65536 : Int) ≤ (bif false then 1 else 0) ∧ (bif false then (1 : Int) else 0) ≤ 65536) ∧ orB fin Pc Pd) ∧ (isOpen st = true → Pz)))) :=
  ⟨hE, hw, fun _ => ⟨fun _ => ⟨⟨by decide, by decide⟩, orB_i ha hb⟩, fun q => Bool.noConfusion (q.2.symm.trans (hl q.1).2)⟩, fun r0 => ⟨fun _ => ⟨⟨by decide, by decide⟩, orB_i hc hd⟩, fun q => absurd (hl q).1 r0⟩⟩
noncomputable abbrev HkT (i : Nat) (b l : AObj) (k : V → List AObj → Prop) : Prop := ∀ (st' : Str) (wr' sn' kk' : Int) (ac' : List D) (fin' oe' ea' : Bool) (rc' : D) (fly' : List (Int × Bool)), SH (i + 1) st' wr' sn' kk' ac' fin' oe' ea' rc' fly' → k (.d (.bool true)) (WS b l st' wr' sn' kk' ac' fin' oe' ea' rc' fly')
theorem add_no : wr + 2 * (bif false then (1 : Int) else 0) = wr := Int.add_zero wr
theorem open3 (h : isOpen st = true ∨ st = S "data_sent") : (List.any [S "ready", S "send", S "data_sent"] fun x => x == st) = true := by
  rcases h with h | rfl
  · rcases isOpen_iff.mp h with rfl | rfl <;> decide
  · decide
theorem open3_no (h : (List.any [S "ready", S "send", S "data_sent"] fun x => x == st) = false) : isOpen st = false ∧ (st == S "data_sent") = false := by
  constructor
  · cases e : isOpen st with
    | false => rfl
    | true => rw [open3 (.inl e)] at h; cases h
  · rw [beq_eq_false_iff_ne]
    intro e
    rw [open3 (.inr e)] at h; cases h
theorem stepC (hE : E) (h : SH i st wr sn kk ac fin oe ea rc fly) (h20 : i ≤ 20) (hk : HkT i b l k) :
    E ∧ (@List.nil D = [] ∧ ((isOpen st = false → (oe = false ∧ (st = S "data_sent" → fin = true)) ∧ k (.d (.bool true)) (WS b l st wr sn kk ac fin oe ea rc fly)) ∧
      (isOpen st = true → (oe = fin ∧ (0 ≤ sn ∧ (sn ≤ wr ∧ wr ≤ 100))) ∧ (k (.d (.bool true)) (WS b l st wr sn kk ac fin oe ea rc fly) ∧ ∀ (c : Int) (ie : Bool) (st' : Str) (oe' : Bool), NextRel wr sn fin oe c ie st' (sn + c) oe' →
        orB ie (((flyD kk fly).length : Int) + 1 ≤ 4096 ∧ k (.d (.bool (List.any [S "ready", S "send", S "data_sent"] fun x => x == st))) [b, l, sO st' wr (sn + c) ac [] fin oe' ea rc false, .lst (flyD kk fly ++ [.tup [.int sn, .int c, .bool ie]]), hS (S "data_sent") wr fin (max sn (sn + c))])
          (orB (st == S "data_sent") (((flyD kk fly).length : Int) + 1 ≤ 4096 ∧ k (.d (.bool (List.any [S "ready", S "send", S "data_sent"] fun x => x == st))) [b, l, sO st' wr (sn + c) ac [] fin oe' ea rc false, .lst (flyD kk fly ++ [.tup [.int sn, .int c, .bool ie]]), hS (S "data_sent") wr fin (max sn (sn + c))])
            (((flyD kk fly).length : Int) + 1 ≤ 4096 ∧ k (.d (.bool (List.any [S "ready", S "send", S "data_sent"] fun x => x == st))) [b, l, sO st' wr (sn + c) ac [] fin oe' ea rc false, .lst (flyD kk fly ++ [.tup [.int sn, .int c, .bool ie]]), hS (S "send") wr fin (max sn (sn + c))])))))) := by
  have stay := hk _ _ _ _ _ _ _ _ _ _ h.stay
  refine ⟨hE, rfl, fun q => ⟨h.dead q, stay⟩, fun q => ⟨⟨(h.ph.open_ q).2.1, ?_, h.snw, by have := h.wr0; lia⟩, stay, fun c ie st' oe' R => ?_⟩⟩
  · have := flyEnd_ge h.all (k := kk); have := h.k0; have := h.fend; lia
  have hz : ((flyD kk fly).length : Int) + 1 ≤ 4096 := by rw [flyD_len]; have := h.len; lia
  have go := hk _ _ _ _ _ _ _ _ _ _ (h.chunk q R)
  unfold WS at go
  rw [flyD_app, h.fend] at go
  rw [open3 (.inl q), open_ds q, Int.max_eq_right (by have := R.1; lia)]
  refine orB_i (fun e => ⟨hz, ?_⟩) fun e => ⟨hz, ?_⟩
  · rw [R.yes e] at go ⊢; exact go
  · rw [R.no e] at go ⊢; exact go
theorem stepR (hE : E) {E2 E3 P1 P2 P3 : Prop} {P4 : Int → Prop} (hE2 : E2) (hE3 : E3) (ho : isOpen st = true ∨ st = S "data_sent") (h : SH i st wr sn kk ac fin oe ea rc fly) (hk : HkT i b l k) :
    E ∧ ((isOpen st = false ∧ (st == S "data_sent") = false → P1) ∧ (isOpen st = true ∨ st = S "data_sent" → E2 ∧ ((true = false → P2) ∧ (true = true → ∃ c : Int, D.int 9 = D.int c ∧ orB (decide (c = 9) && decide (sn = sn))
      (E3 ∧ ((false = false → k (.d (.bool (isNoneD D.none))) (WS b l (S "reset_sent") wr sn kk ac fin false ea (.int 9) fly)) ∧ (false = true → P3))) (P4 c))))) := by
  refine ⟨hE, fun q => ?_, fun _ => ⟨hE2, fun q => Bool.noConfusion q, fun _ => ⟨9, rfl, ?_⟩⟩⟩
  · rcases ho with e | e
    · exact Bool.noConfusion (e.symm.trans q.1)
    · rw [e] at q; exact absurd q.2 (by decide)
  · rw [decide_eq_true (rfl : sn = sn)]
    exact ⟨hE3, fun _ => hk _ _ _ _ _ _ _ _ _ _ h.reset, fun q => Bool.noConfusion q⟩
theorem stepN (hE : E) {E2 E3 P1 P2 P3 P4 : Prop} (hE2 : E2) (hE3 : E3) (ho : isOpen st = false ∧ (st == S "data_sent") = false) (hP : P1) :
    E ∧ ((isOpen st = false ∧ (st == S "data_sent") = false → E2 ∧ ((false = false → E3 ∧ ((false = false → P1) ∧ (false = true → P2))) ∧ (false = true → P3))) ∧ (isOpen st = true ∨ st = S "data_sent" → P4)) := by
  refine ⟨hE, fun _ => ⟨hE2, fun _ => ⟨hE3, fun _ => hP, fun q => Bool.noConfusion q⟩, fun q => Bool.noConfusion q⟩, fun q => ?_⟩
  rcases q with e | e
  · exact Bool.noConfusion (e.symm.trans ho.1)
  · rw [e] at ho; exact absurd ho.2 (by decide)
theorem stepL (hE : E) {E2 E3 P1 P2 P3 P4 : Prop} (hE2 : E2) (hE3 : E3) (h : SH i st wr sn kk ac fin oe ea rc fly) (hs : (st == S "reset_sent") = true) (hk : HkT i b l k) :
    E ∧ ((st = S "reset_sent" → E2 ∧ ((true = false → False) ∧ (true = true → ∃ c : Int, rc = .int c ∧ orB (!(decide (c = 9) && decide (sn = sn))) P1
      (E3 ∧ ((st = S "reset_sent" → k (.d (.bool true)) (WS b l (S "reset_recvd") wr sn kk ac fin oe ea rc fly)) ∧ (st ≠ S "reset_sent" → P2)))))) ∧ (st ≠ S "reset_sent" → P3 ∧ ((false = false → False) ∧ (false = true → P4)))) := by
  have e := eq_of_beq hs
  subst e
  obtain ⟨g, rfl⟩ := h.gone
  refine ⟨hE, fun _ => ⟨hE2, fun q => Bool.noConfusion q, fun _ => ⟨9, rfl, ?_⟩⟩, fun q => absurd rfl q⟩
  rw [decide_eq_true (rfl : sn = sn)]
  exact ⟨hE3, fun _ => hk _ _ _ _ _ _ _ _ _ _ g, fun q => absurd rfl q⟩
theorem stepA {z : Int} {e : Bool} {q : List (Int × Bool)} (hE : E) (h : SH i st wr sn kk ac fin oe ea rc ((z, e) :: q)) (hk : HkT i b l k) (e2 : Bool) (he : e = e2) :
    E ∧ ((@List.nil D = [] ∧ (AkD ac kk ∧ 0 ≤ z)) ∧ ∀ (ac' : List D) (st' : Str) (ea' oe' : Bool), AkD ac' (kk + z) → AckRel wr (kk + z) st e2 ea oe st' ea' oe' →
      orB (st == S "data_sent") (orB (isNil (flyD (kk + z) q)) (k (.d (.bool true)) [b, l, sO st' wr sn ac' [] fin oe' ea' rc false, .lst (flyD (kk + z) q), hS (S "data_recvd") wr fin sn])
        (k (.d (.bool true)) [b, l, sO st' wr sn ac' [] fin oe' ea' rc false, .lst (flyD (kk + z) q), hS st wr fin sn])) (k (.d (.bool true)) [b, l, sO st' wr sn ac' [] fin oe' ea' rc false, .lst (flyD (kk + z) q), hS st wr fin sn])) := by
  subst he
  refine ⟨hE, ⟨rfl, h.ak, h.all (z, e) (.head _)⟩, fun ac' st' ea' oe' hA R => ?_⟩
  obtain ⟨h2, r1, r2⟩ := h.ack hA R
  have go := hk _ _ _ _ _ _ _ _ _ _ h2
  refine orB_i (fun q1 => orB_i (fun q2 => ?_) fun q2 => ?_) fun q1 => ?_
  · rw [r1 (eq_of_beq q1) (flyD_nil q2)] at go ⊢; exact go
  · rw [r2 (.inr (flyD_nnil q2))] at go ⊢; exact go
  · rw [r2 (.inl q1)] at go ⊢; exact go
theorem step2 {X Y : Prop} (hX : isOpen st = true → (r = 1 ∨ fin = false) → X) (hY : (isOpen st = true → ¬ r = 1 ∧ fin = true) → Y) :
    orB (List.any [S "ready", S "send"] fun x => x == st) (orB (decide (r = 1)) (orB (decide (r = 1)) X Y) (orB (!fin) X Y)) (orB (List.any [S "ready", S "send"] fun x => x == st) X Y) :=
  orB_i (fun ho => orD (fun r1 => orD (fun _ => hX ho (.inl r1)) fun q => absurd r1 q) fun r1 => orN (fun e => hX ho (.inr e)) fun e => hY fun _ => ⟨r1, e⟩) fun ho => orB_i (fun q => Bool.noConfusion (ho.symm.trans q)) fun _ => hY fun q => Bool.noConfusion (ho.symm.trans q)
theorem open3_yes (h : (List.any [S "ready", S "send", S "data_sent"] fun x => x == st) = true) : isOpen st = true ∨ st = S "data_sent" := by
  simp only [List.any_cons, List.any_nil, Bool.or_false, Bool.or_eq_true, beq_iff_eq] at h
  rcases h with rfl | rfl | rfl
  · exact .inl (by decide)
  · exact .inl (by decide)
  · exact .inr rfl
theorem hS_no : hS st (wr + 2 * (bif decide ((1 : Int) = 0) then (1 : Int) else 0)) fin sn = hS st wr fin sn := congrArg (fun x => hS st x fin sn) (Int.add_zero wr)
end
theorem f360 : FnOkS 360 T360 4 := fnS_ok r360 (row_at 37 rfl) 3 40 false calls360 [(353, T353)] (by kernel_rfl) (by decide +kernel) (fun L' => .inl (by kernel_rfl)) (bind3 rfl fun _ _ _ => by kernel_rfl) (fun p hp => by
    simp only [List.mem_cons, List.not_mem_nil, or_false] at hp
    rcases hp with rfl | rfl | rfl | rfl | rfl | rfl | rfl | rfl
    · exact fun c h1 h2 => f320 c h1 (by lia)
    · exact fun c h1 h2 => f257 c h1 (by lia)
    · exact fun c h1 h2 => f215 c h1 (by lia)
    · exact fun c h1 h2 => f222 c h1 (by lia)
    · exact fun c h1 h2 => f264 c h1 (by lia)
    · exact fun c h1 h2 => f292 c h1 (by lia)
    · exact fun c h1 h2 => f285 c h1 (by lia)
    · exact fun c h1 h2 => f271 c h1 (by lia)) (fun p hp => by
    rw [List.mem_singleton] at hp
    rw [hp]; exact fun c h1 h2 h3 h4 => f353 c h1 h2 h3 (by lia)) fun Vs W k ex h0 => by
  refine A3g_go h0 fun e1 h => ?_
  clear h0
  subst e1
  · obtain ⟨sd, zs, i, st, wr, sn, kk, ac, fin, oe, ea, rc, fly, ⟨⟨rfl, hb⟩, h, h20⟩, hk⟩ := h
    have hw : wr ≤ 1000 := by have := h.wr0; lia
    have HK : ∀ sd' zs', (0 ≤ sd' ∧ sd' < 2147483647) → HkT i (.box 1 sd') (iD zs') k := fun sd' zs' hb st' wr' sn' kk' ac' fin' oe' ea' rc' fly' hs => hk sd' zs' st' wr' sn' kk' ac' fin' oe' ea' rc' fly' hb hs
    refine ⟨rfl, noInv, noWInv, ?_⟩
    cases fly with
    | nil =>
      refine (vc360n ..).mpr ⟨zs, ⟨rfl, by decide, hb⟩, fun r sd' zs' ⟨hr, hb'⟩ => ?_⟩
      have hk := HK sd' zs' hb'
      have stay := hk _ _ _ _ _ _ _ _ _ _ h.stay
      refine orD (fun r2 => step2 (fun ho hl => stepX rfl hw ho ⟨hr.1, r2⟩ hl (fun r0 ef => ?_) (fun r1 ef => ?_) (fun r1 ef => ?_)) fun hl => stepY rfl hw (fun ho => ⟨by have := (hl ho).1; lia, (hl ho).2⟩) (fun ef => ?_) (fun ef => ?_) (fun ef => ?_) fun ef => ?_) fun r2 => orD (fun _ => stepC rfl h h20 hk) fun _ => orD (fun _ => orB_i (fun o3 => ⟨zs', ⟨rfl, by decide, hb'⟩, fun r sd2 zs2 ⟨hr2, hb2⟩ =>
        orD (fun _ => stepR rfl rfl rfl (open3_yes o3) h (HK sd2 zs2 hb2)) fun _ => stepR rfl rfl rfl (open3_yes o3) h (HK sd2 zs2 hb2)⟩) fun o3 => ⟨zs', ⟨rfl, by decide, hb'⟩, fun r sd2 zs2 ⟨hr2, hb2⟩ => orD (fun _ => stepN rfl rfl rfl (open3_no o3) (HK sd2 zs2 hb2 _ _ _ _ _ _ _ _ _ _ h.stay)) fun _ => stepN rfl rfl rfl (open3_no o3) (HK sd2 zs2 hb2 _ _ _ _ _ _ _ _ _ _ h.stay)⟩)
        fun _ => orD (fun _ => orB_i (fun e => stepL rfl rfl rfl h e hk) fun _ => stay) fun _ => stay
      · subst r0; subst ef; exact hk _ _ _ _ _ _ _ _ _ _ (h.write ho)
      · subst r1; subst ef; rw [hS_no]; exact hk _ _ _ _ _ _ _ _ _ _ (h.finish ho)
      · subst r1; subst ef; rw [hS_no]; exact hk _ _ _ _ _ _ _ _ _ _ (h.finish ho)
      · rw [add_no]; exact stay
      · subst ef; rw [add_no]; exact stay
      · rw [add_no]; exact stay
      · subst ef; rw [add_no]; exact stay
    | cons f q =>
      obtain ⟨z, e⟩ := f
      refine (vc360c ..).mpr ⟨zs, ⟨rfl, by decide, hb⟩, fun r sd' zs' ⟨hr, hb'⟩ => ?_⟩
      have hk := HK sd' zs' hb'
      have stay := hk _ _ _ _ _ _ _ _ _ _ h.stay
      refine orD (fun r2 => step2 (fun ho hl => stepX rfl hw ho ⟨hr.1, r2⟩ hl (fun r0 ef => ?_) (fun r1 ef => ?_) (fun r1 ef => ?_)) fun hl => stepY rfl hw (fun ho => ⟨by have := (hl ho).1; lia, (hl ho).2⟩) (fun ef => ?_) (fun ef => ?_) (fun ef => ?_) fun ef => ?_) fun r2 => orD (fun _ => stepC rfl h h20 hk) fun _ => orD (fun _ => orB_i (fun o3 => ⟨zs', ⟨rfl, by decide, hb'⟩, fun r sd2 zs2 ⟨hr2, hb2⟩ =>
        orD (fun _ => stepR rfl rfl rfl (open3_yes o3) h (HK sd2 zs2 hb2)) fun _ => stepR rfl rfl rfl (open3_yes o3) h (HK sd2 zs2 hb2)⟩) fun o3 => ⟨zs', ⟨rfl, by decide, hb'⟩, fun r sd2 zs2 ⟨hr2, hb2⟩ => orD (fun _ => stepN rfl rfl rfl (open3_no o3) (HK sd2 zs2 hb2 _ _ _ _ _ _ _ _ _ _ h.stay)) fun _ => stepN rfl rfl rfl (open3_no o3) (HK sd2 zs2 hb2 _ _ _ _ _ _ _ _ _ _ h.stay)⟩)
        fun _ => orD (fun _ => orB_i (fun e => stepL rfl rfl rfl h e hk) fun _ => ⟨rfl, orB_i (fun he => stepA rfl h hk true he) fun he => stepA rfl h hk false he⟩) fun _ => ⟨rfl, orB_i (fun he => stepA rfl h hk true he) fun he => stepA rfl h hk false he⟩
      · subst r0; subst ef; exact hk _ _ _ _ _ _ _ _ _ _ (h.write ho)
      · subst r1; subst ef; rw [hS_no]; exact hk _ _ _ _ _ _ _ _ _ _ (h.finish ho)
      · subst r1; subst ef; rw [hS_no]; exact hk _ _ _ _ _ _ _ _ _ _ (h.finish ho)
      · rw [add_no]; exact stay
      · subst ef; rw [add_no]; exact stay
      · rw [add_no]; exact stay
      · subst ef; rw [add_no]; exact stay
theorem f367 : FnOkS 367 T367 5 := f367_of f360
end
noncomputable section
noncomputable def BoxOk (lx : Addr) (o1 o2 : Obj) : Prop := ∃ (sd : Int) (tk : Tok) (n1 : Nat) (vs : List Value) (ns : List Int) (n2 : Nat), o1 = listOf #[.ref lx, .int sd tk] n1 ∧ o2 = listOf vs.toArray n2 ∧ IntsAre vs ns ∧ ns.length ≤ 4096 ∧ 0 ≤ sd ∧ sd < 2147483647
theorem bds_ints {I : Led} {vs : List Value} {ns : List Int} (h : IntsAre vs ns) : BDs I (ns.map D.int) vs := by
  induction h with
  | nil => exact .nil
  | cons _ _ _ ih => exact .cons (by simp only [BD]; exact ⟨_, rfl⟩) ih
theorem ints_bds {I : Led} : ∀ {vs : List Value} {ns : List Int}, BDs I (ns.map D.int) vs → IntsAre vs ns
  | _, [], h => by rw [h.nil_inv]; exact .nil
  | _, i :: r, h => by
    obtain ⟨v, q, rfl, a, b⟩ := h.cons_inv
    simp only [BD] at a
    obtain ⟨t, rfl⟩ := a
    exact .cons _ _ (ints_bds b)
section
variable {w : World} {p : Program} {loose : List Str} {mean : ExcName → Option Value} {mg mb : Str → Option Value} {dp un : Nat} {gd : Option (List Code)} {cn : Str} {cs : Scope} {a : Addr} {ccd : Value} {A₀ : Around} {base h₀ : Heap} {L : Addr} {m : Str → Option Value} {s : Shared} {Q E : Value → Shared → Prop}
variable {bx lx : Addr} {o1 o2 : Obj} {news : Led}
theorem rel_two {c : Cx} {sd : Int} {ns : List Int} {h : Heap} {bx lx : Addr} {n1 n2 : Nat} {vs : List Value} {tk : Tok} {g : Heap} {m : Str → Option Value} (Am : Amb c g) (F : Fr g c.L h m) (N : ∀ q ∈ [(bx, listOf #[.ref lx, .int sd tk] n1), (lx, listOf vs.toArray n2)], News g c.L h [q])
    (hI : BDs [] (ns.map D.int) vs) (hn : ns.length ≤ 4096) (ne : bx ≠ lx) (hm : m (S "box") = some (.ref bx)) (hl : c.sc.names.lookup (S "box") = some .local) : Rel c [] ⟨[bx, lx], [], []⟩ ⟨[.box 1 sd, iD ns], [], [(S "box", .g 0)]⟩ h := by
  refine ⟨g, m, [(bx, listOf #[.ref lx, .int sd tk] n1)] ++ ([(lx, listOf vs.toArray n2)] ++ []), [], Am, F, fun q hq => N q hq q (.head _), ?_, .cons ⟨lx, tk, n1, rfl, rfl⟩ (.cons ⟨vs, n2, rfl, hI, by rw [List.length_map]; exact hn⟩ .nil), .nil, fun x y e => ?_⟩
  · show (bx :: [lx]).Nodup
    rw [List.nodup_cons]
    exact ⟨fun h => ne (List.mem_singleton.mp h), by simp⟩
  · unfold lk at e
    cases q : seq x (S "box") with
    | false => rw [q] at e; cases e
    | true =>
      rw [q] at e
      cases e
      rw [seq_iff.mp q]
      exact ⟨.ref bx, ⟨bx, rfl, rfl⟩, by decide, .inl ⟨hl, hm⟩⟩
theorem rel_trim {c : Cx} {n : Cn} {sd : Int} {ns : List Int} {rest : List AObj} {h : Heap} (hc : ¬ c.sc.names.lookup (S "box") = some .cell) (r : Rel c [] n ⟨.box 1 sd :: iD ns :: rest, [], [(S "box", .g 0)]⟩ h) : ∃ bx lx, Rel c [] ⟨[bx, lx], [], []⟩ ⟨[.box 1 sd, iD ns], [], [(S "box", .g 0)]⟩ h := by
  obtain ⟨g, m, MW, ML, Am, F, N, ND, RW, RL, RV⟩ := r
  obtain ⟨ga, la, imm⟩ := n
  obtain ⟨v, hv, _, hl⟩ := RV (S "box") (.g 0) rfl
  have hl' := hl.resolve_right fun q => hc q.1
  clear hl
  cases RW with
  | cons h1 t1 =>
  cases t1 with
  | cons h2 t2 =>
  obtain ⟨b, t, n1, rfl, hb⟩ := h1
  obtain ⟨ws, n2, rfl, hI, hz⟩ := h2
  obtain ⟨b', hb', rfl⟩ := hv
  cases hb
  cases hb'
  rename_i bx lx _ _
  refine ⟨bx, lx, rel_two (lx := lx) (n1 := n1) (n2 := n2) (tk := t) (vs := ws) Am F (fun q hq => news_sub N fun p hp => ?_) ?_ (by rwa [List.length_map] at hz) ?_ hl'.2 hl'.1⟩
  · rw [List.mem_singleton.mp hp]
    simp only [List.mem_cons, List.not_mem_nil, or_false] at hq
    rcases hq with rfl | rfl <;> simp
  · exact bds_ints (ints_bds hI)
  · intro e
    subst e
    simp at ND
theorem law_tail {Q : Flow → Shared → Prop} (f346 : FnOkS 346 T346 5) (f367 : FnOkS 367 T346 5) (B : Below A₀ base [] h₀) (X : (heapK w.params).In h₀) (T : Top p loose mean mg mb h₀) (XB : (heapK w.params).In base) (TB : Top p loose mean mg mb base)
    (hd : dp + 17 < recursionLimit) (hu : un + 400 < cLine) (F : Fr h₀ L s.heap m) (N : News h₀ L s.heap ((bx, o1) :: (lx, o2) :: news)) (hm : m (Str.ofString "box") = some (.ref bx)) (bo : BoxOk lx o1 o2) (ne : @LT.lt Nat _ lx bx)
    (ret : ∀ h' tk' m', Fr h₀ L h' m' → Q (.ret (.bool true)) { s with heap := h', toks := tk' }) :
    wpAny (model Challenge.rw_no0083_01.row.prog w) (ktrTop dp un gd cn (fSc (stAt 44)) L a ccd [] []) (execs (fBd (stAt 44)).tail (envOf cn (fSc (stAt 44)) L a ccd)) Q E s := by
  refine cps fun Zz zz => ?_
  obtain ⟨sd, tk, n1, vs, ns, n2, rfl, rfl, hI, hn, h1, h2⟩ := bo
  refine zz ?_
  let c : Cx := { w := w, p := p, loose := loose, mean := mean, mg := mg, mb := mb, dp := dp, un := un, gd := gd, nm := cn, sc := fSc (stAt 44), L := L, a := a, cd := ccd, cl := [], outer := [], A₀ := A₀, base := base, g₀ := h₀, S := true, hd := none, s₀ := s, hk := rfl, room := 5, hdp := by omega, hun := by omega }
  refine cps fun Zz zz => ?_
  have rel : Rel c [] ⟨[bx, lx], [], []⟩ ⟨[.box 1 sd, iD ns], [], [(S "box", .g 0)]⟩ s.heap := by
    refine rel_two (n1 := n1) (n2 := n2) (tk := tk) ⟨B, X, T, Turn.mk rfl ⟨ktsDicts_nil, .refl, XB, TB⟩⟩ F (fun q hq p hp => ?_) (bds_ints hI) hn (Nat.ne_of_gt ne) hm rfl
    rw [List.mem_singleton.mp hp]
    simp only [List.mem_cons, List.not_mem_nil, or_false] at hq
    rcases hq with rfl | rfl
    · exact N _ (.head _)
    · exact N _ (.tail _ (.head _))
  obtain ⟨e1, e2, p1, p2, he, hv⟩ : ∃ e1 e2 p1 p2, (fBd (stAt 44)).tail = [.Return (some (.BoolOp .And [e1, e2] p1)) p2] ∧ ∀ (st : List AObj) (k : V → St → Prop) e, (e = e1 ∨ e = e2) → T346 [.g 0] st (fun v W => k v ⟨W, [], [(S "box", .g 0)]⟩) (fun _ _ => False) → vcX (mkG (fSc (stAt 44)) false false [(346, T346), (367, T346)] noInv noWInv) noEx 40 false e ⟨st, [], [(S "box", .g 0)]⟩ k := by
    refine ⟨_, _, _, _, rfl, fun st k e h => ?_⟩
    rcases h with rfl | rfl
    · exact fun h => h
    · exact fun h => h
  have ok : GOk (mkG (fSc (stAt 44)) false false [(346, T346), (367, T346)] noInv noWInv) c := mkG_ok (c := c) (s := false) rfl (fun h => Bool.noConfusion h) fun p hp => by
    rcases List.mem_cons.mp hp with rfl | hp
    · exact f346 c rfl rfl rfl (Nat.le_refl _)
    · rw [List.mem_singleton] at hp
      rw [hp]
      exact f367 c rfl rfl rfl (Nat.le_refl _)
  have run : ∀ e, (e = e1 ∨ e = e2) → ∀ (bx lx : Addr) (sd : Int) (ns : List Int) (h : Heap) (tk : Nat) (Q : Value → Shared → Prop), (0 ≤ sd ∧ sd < 2147483647) → Rel c [] ⟨[bx, lx], [], []⟩ ⟨[.box 1 sd, iD ns], [], [(S "box", .g 0)]⟩ h →
      (∀ sd' ns' bx' lx' h' tk', (0 ≤ sd' ∧ sd' < 2147483647) → Rel c [] ⟨[bx', lx'], [], []⟩ ⟨[.box 1 sd', iD ns'], [], [(S "box", .g 0)]⟩ h' → Q (.bool true) (c.at_ h' tk')) → wpAny c.M c.A (eval e c.env) Q E (c.at_ h tk) := by
    intro e he bx lx sd ns h tk Q hb r hQ
    refine wpAny_mono (vcX_sound ok 40 false e _ (fun v st => v = .d (.bool true) ∧ ∃ sd' ns' rest, (0 ≤ sd' ∧ sd' < 2147483647) ∧ st = ⟨.box 1 sd' :: iD ns' :: rest, [], [(S "box", .g 0)]⟩) (hv _ _ e he ⟨sd, ns, ⟨rfl, hb⟩, fun sd' zs' p q r hb' => ⟨rfl, sd', zs', [p, q, r], hb', rfl⟩⟩) _ [] h tk r) (fun v s' o => ?_) fun e s' x => x.no.elim
    cases o with
    | mk n' b st h' tk' le r' rv q =>
    obtain ⟨rfl, sd', ns', rest, hb', rfl⟩ := q
    obtain ⟨bx', lx', r2⟩ := rel_trim (fun q => by cases q) r'
    rw [rv.bool]
    exact hQ sd' ns' bx' lx' h' tk' hb' r2
  refine zz ?_
  rw [he]
  refine wpAny_execs_cons (wpAny_Return_some (BoolOp_and (run e1 (.inl rfl) bx lx sd ns s.heap s.toks _ ⟨h1, h2⟩ rel fun sd' ns' bx' lx' h' tk' hb r => wpAny_truthy_bool ?_)))
  rw [if_pos rfl]
  refine BoolOp_one (run e2 (.inr rfl) bx' lx' sd' ns' h' tk' _ hb r fun _ _ _ _ h2 tk2 _ r2 => ?_)
  refine cps fun Zz zz => ?_
  obtain ⟨g, m2, MW, ML, Am, F2, N2, ND, RW, RL, RV⟩ := r2
  obtain ⟨_, T1, _, _⟩ := Am.t.use rfl
  refine zz ?_
  exact ret h2 tk2 m2 ⟨F2.ns, fun b o e => F2.keep b o (T1.other b o e fun q => nomatch q), by rw [← T1.size]; exact F2.above⟩
end
end
noncomputable section
section
variable {c : Cx} {G : GP}
theorem box_slice (ok : GOk G c) (hS : c.S = false) {z : Str} {sa : Addr} {vs : List Value} {ns : List Int} (hl : c.g₀.IsList sa vs.toArray) (hI : IntsAre vs ns) (hz : ns.length ≤ 4096) {zp ip sp pos : Pos} {k1 : Nat} {n : Cn} {st : St} (hv : lk z st.vars = some (.top sa))
    {k : V → St → Prop} {ex : Bool → Int → St → Prop} (h : k (.d (.lst ((ns.take 40).map D.int))) st) : WP c BV (eval (.Subscript (.Name z zp) (.Slice none (some (.Constant (.int 40) k1 ip)) none sp) pos) c.env) n st k ex := by
  intro pins hp tk r
  have nm : WP c BV (eval (.Name z zp) c.env) n st (fun v st' => v = .top sa ∧ st' = st) ex := vcName_sound ok (by unfold nameX; rw [hv]; exact ⟨rfl, rfl⟩)
  refine Subscript_ (nm.use .refl r fun n1 b v st1 h1 t1 l1 r1 bv q => ?_)
  obtain ⟨rfl, rfl⟩ := q
  cases (show v = .ref sa from bv)
  refine wpAny_Slice (evalPart_none_step (wpAny_Constant_int (k := k1) (pos := ip) (evalPart_none_step ?_)))
  obtain ⟨g, m, MW, ML, Am, F, N, ND, RW, RL, RV⟩ := r1
  have hg : g = c.g₀ := by
    have := Am.t
    unfold Turn at this
    rw [hS] at this
    exact this
  subst hg
  have hl1 : h1.IsList sa vs.toArray := by
    obtain ⟨o, ho, e⟩ := hl
    exact ⟨o, F.keep _ _ ho, e⟩
  have hm := kmk_upto hI (show (0 : Int) ≤ 40 by decide)
  refine kmk_slice_ints F N hl1 .none (.int 40 _) hI hm rfl (fun D ws h' F' N' l2 hw _ hle => ?_) (by with_unfolding_all rfl) (fun _ => by with_unfolding_all rfl) (by rw [kmk_size_eq hI, sizeLine_eq]; omega)
  obtain ⟨le', r'⟩ := Rel.more Am F' N' ND (fun p hp => Nat.ne_of_lt (l2 p hp)) RW RL RV
  refine Out.done r' (l1.trans le') ?_ h
  exact BV.lst' (.head _) (bds_ints hw) (by rw [List.length_map]; exact Nat.le_trans hle hz)
end
section
variable {w : World} {p : Program} {loose : List Str} {mean : ExcName → Option Value} {mg mb : Str → Option Value} {dp un : Nat} {gd : Option (List Code)} {cn : Str} {cs : Scope} {a : Addr} {ccd : Value} {A₀ : Around} {base h₀ : Heap} {L : Addr} {m : Str → Option Value} {s : Shared} {Q E : Value → Shared → Prop}
noncomputable abbrev G313 : GP := mkG (fSc (stAt 35)) false false [] noInv noWInv
theorem box_parts (sa : Addr) {R : Prop} (kR : ∀ (slc slc2 : PySem.Expr) (body : List Stmt) (pf pr p1 p2 p3 p4 p5 : Pos), (fBd (stAt 35) = [.For (.Name (S "one") p1) slc body [] pf, .Return (some (.List [.Call (.Name (S "list") p2) [slc2] [] p3, .Name (S "seed_here") p4] p5)) pr]) →
    (∀ e, (e = slc ∨ e = slc2) → ∃ k1 zp ip sp pos, e = .Subscript (.Name (S "script") zp) (.Slice none (some (.Constant (.int 40) k1 ip)) none sp) pos) →
    (∀ (sd x : Int) (k : AFlow → St → Prop), vcTarget G313 (.Name (S "one") p1) (.d (.int x)) ⟨[], [], [(S "script", .top sa), (S "seed_here", .d (.int sd))]⟩ (fun st => vcB (vcS G313 40 noEx) body st k) =
      (((-65536 : Int) ≤ 31 ∧ (31 : Int) ≤ 65536) ∧ ((0 : Int) < 2147483647 ∧ k .next ⟨[], [], [(S "script", .top sa), (S "seed_here", .d (.int (Int.fmod (sd * 31 + x) 2147483647))), (S "one", .d (.int x))]⟩))) → R) : R := by
  refine kR _ _ _ _ _ _ _ _ _ _ rfl (fun e h => ?_) fun sd x k => ?_
  · rcases h with rfl | rfl <;> exact ⟨_, _, _, _, _, rfl⟩
  · kernel_rfl
theorem law_box {t : Tok} {sa : Addr} {vs : List Value} {ns : List Int} (B : Below A₀ base [] h₀) (X : (heapK w.params).In h₀) (T : Top p loose mean mg mb h₀) (hk : cs.kind = .function) (hd : dp + 17 < recursionLimit) (hu : un + 400 < cLine)
    (F : Fr h₀ L s.heap m) (N : News h₀ L s.heap []) (hl : h₀.IsList sa vs.toArray) (hI : IntsAre vs ns) (hz : ns.length ≤ 4096)
    (ret : ∀ h' tk' bx lx o1 o2 news, BoxOk lx o1 o2 → @LT.lt Nat _ lx bx → Fr h₀ L h' m → News h₀ L h' ((bx, o1) :: (lx, o2) :: news) → Q (.ref bx) { s with heap := h', toks := tk' }) :
    wpAny (model Challenge.rw_no0083_01.row.prog w) (ktrTop dp un gd cn cs L a ccd [] []) (call (.ref 313) [.ref sa, .int 73 t]) Q E s := by
  let c : Cx := { w := w, p := p, loose := loose, mean := mean, mg := mg, mb := mb, dp := dp, un := un, gd := gd, nm := cn, sc := cs, L := L, a := a, cd := ccd, cl := [], outer := [], A₀ := A₀, base := base, g₀ := h₀, S := true, hd := none, s₀ := s, hk := hk, room := 5, hdp := by omega, hun := by omega }
  obtain ⟨a1, a2, a3, a4, a5, a6, ho⟩ := rows_use (row_at 30 (r := r313) rfl) c
  have hloc : (allNotCell (fSc r313.s).names && r313.xs.all (okVar (fSc r313.s))) = true := by kernel_rfl
  rw [Bool.and_eq_true] at hloc
  have hb := bind2 (r := r313) rfl (fun _ _ => by kernel_rfl) [.ref sa, .int 73 t] rfl
  refine wpAny_call ?_
  refine PySem.W.code_def (env := c.env) (K := heapK w.params) B F X N T rfl rfl hk ho a1 (by show dp < _; omega) (BindsTo.of_eq hb) (fun y hy => ?_) (fun g L' h₁ FG F' N' B' X' T' => ?_) a4 a5 a3 (allNotCell_use hloc.1)
  · have : y.1 ∈ r313.xs := (List.of_mem_zip (show (y.1, y.2) ∈ _ from hy)).1
    exact (okVar_use (List.all_eq_true.mp hloc.2 _ this)).1
  let c' : Cx := c.kid c.A false r313.qual (fSc r313.s) L' r313.f r313.cdv [] g a3 (by show 1 ≤ 5; decide) (Nat.le_succ _) (Nat.le_add_right _ _)
  have ok : GOk G313 c' := mkG_ok (c := c') (s := false) rfl (fun h => Bool.noConfusion h) fun p hp => nomatch hp
  have hlg : c'.g₀.IsList sa vs.toArray := by
    obtain ⟨o, ho, e⟩ := hl
    exact ⟨o, FG.keep _ _ ho, e⟩
  have rel : Rel c' [] ⟨[], [], []⟩ ⟨[], [], [(S "script", .top sa), (S "seed_here", .d (.int 73))]⟩ h₁ :=
    ⟨g, _, [], [], ⟨B', X', T', rfl⟩, F', N', .nil, .nil, .nil, zip_lookup (c' := c') (xs := [S "script", S "seed_here"]) (Vs := [.top sa, .d (.int 73)]) (distS_nodup a6) hloc.2 (.cons rfl (.cons BV.int' .nil))⟩
  refine box_parts sa fun slc slc2 body pf pr p1 p2 p3 p4 p5 hbd hsl hvc => ?_
  have slice : ∀ e, (e = slc ∨ e = slc2) → ∀ n st k ex, lk (S "script") st.vars = some (.top sa) → k (.d (.lst ((ns.take 40).map D.int))) st → WP c' BV (eval e c'.env) n st k ex := fun e he n st k ex hv h => by
    obtain ⟨k1, zp, ip, sp, pos, rfl⟩ := hsl e he
    exact box_slice ok rfl hlg hI hz hv h
  let J : Nat → St → Prop := fun _ st => ∃ sd, (0 ≤ sd ∧ sd < 2147483647) ∧ subSt ⟨[], [], [(S "script", .top sa), (S "seed_here", .d (.int sd))]⟩ st
  have loop : WP c' RF (exec (.For (.Name (S "one") p1) slc body [] pf) c'.env) ⟨[], [], []⟩ ⟨[], [], [(S "script", .top sa), (S "seed_here", .d (.int 73))]⟩ (fun fl st => fl = .next ∧ ∃ sd, (0 ≤ sd ∧ sd < 2147483647) ∧ st = ⟨[], [], [(S "script", .top sa), (S "seed_here", .d (.int sd))]⟩) noEx := by
    refine for_list_ex (P := fun ds st => ds = (ns.take 40).map D.int ∧ st = ⟨[], [], [(S "script", .top sa), (S "seed_here", .d (.int 73))]⟩) rfl (fun x => ?_) (slice _ (.inl rfl) _ _ _ _ rfl ⟨_, rfl, rfl, rfl⟩) (fun It l i u s' Q' E' n' d a b cc e => nt_go rfl It l i u s' Q' E' n' d a cc e) ?_
    · obtain ⟨k1, zp, ip, sp, pos, rfl⟩ := hsl slc (.inl rfl)
      rfl
    · rintro ds st ⟨rfl, rfl⟩
      refine ⟨J, fun i st => vcB (vcS G313 40 noEx) body st (loopK (J (i + 1)) fun fl st => fl = .next ∧ ∃ sd, (0 ≤ sd ∧ sd < 2147483647) ∧ st = ⟨[], [], [(S "script", .top sa), (S "seed_here", .d (.int sd))]⟩), ⟨73, by decide, rfl, rfl, rfl, rfl, trivial⟩, ?_, fun i n' st' hB => vcB_sound (vcS_sound 40 _ _ ok noEx) _ _ _ _ hB, ?_⟩
      · rintro i d n' st' u hd bv ⟨sd, hs, hsub⟩ pins hp tk r
        rw [List.getElem?_map] at hd
        cases e : (ns.take 40)[i]? with
        | none => rw [e] at hd; cases hd
        | some x =>
          rw [e] at hd
          cases hd
          refine target_sound ok rfl ((hvc sd x _).mpr ⟨by decide, by decide, _, ⟨?_, ?_⟩, rfl, rfl, rfl, rfl, trivial⟩) bv pins hp tk (subSt_rel hsub r)
          · exact Int.fmod_nonneg_of_pos _ (by decide)
          · exact Int.fmod_lt_of_pos _ (by decide)
      · rintro st' ⟨sd, hs, hsub⟩ n pins h r
        exact ⟨_, subSt_rel hsub r, rfl, sd, hs, rfl⟩
  show wpAny _ _ (execs (fBd (stAt 35)) c'.env) _ _ _
  rw [hbd]
  refine wpAny_execs_cons (wpAny_mono (loop [] h₁ _ rel) (fun fl s' o => ?_) fun e s' x => x.no.elim)
  refine cps fun Zz zz => ?_
  cases o with
  | mk n1 b st1 h1 t1 le1 r1 rv1 q1 =>
  obtain ⟨rfl, sd, hs, rfl⟩ := q1
  cases (show fl = .next from rv1)
  refine zz ?_
  let F0 : FX := fun e st k => (e = slc2 ∧ lk (S "script") st.vars = some (.top sa) ∧ k (.d (.lst ((ns.take 40).map D.int))) st) ∨ vcX G313 noEx 40 false e st k
  have hF0 : ∀ e n st k, F0 e st k → WP c' BV (eval e c'.env) n st k noEx := fun e n st k h => h.elim (fun h => slice e (.inr h.1) n st k _ h.2.1 h.2.2) fun h => vcX_sound ok 40 false e st k h n
  let F1 : FX := fun e st k => (e = .Call (.Name (S "list") p2) [slc2] [] p3 ∧ lk (S "list") st.vars = none ∧ F0 slc2 st fun v st => vcCall G313 noEx (.bi .list) [v] st k) ∨ vcX G313 noEx 40 false e st k
  have hst : ([slc2].any isStar) = false := by
    obtain ⟨k1, zp, ip, sp, pos, rfl⟩ := hsl slc2 (.inr rfl)
    rfl
  have hF1 : ∀ e n st k, F1 e st k → WP c' BV (eval e c'.env) n st k noEx := fun e n st k h => h.elim (fun h => by
    obtain ⟨rfl, hn, h⟩ := h
    intro pins hp tk r
    have nm : WP c' BV (eval (.Name (S "list") p2) c'.env) n st (fun v st' => v = .bi .list ∧ st' = st) noEx := vcName_sound ok (by unfold nameX; rw [hn]; exact ⟨rfl, rfl⟩)
    refine Call_ (nm.use .refl r fun n1 b v st1 h1 t1 l1 r1 bv q => ?_) name_call
    obtain ⟨rfl, rfl⟩ := q
    exact (vcCall_sound ok hF0 (args := [slc2]) (fv := .bi .list) hst bv h).go l1 r1) fun h => vcX_sound ok 40 false e st k h n
  have hlst := vcL_sound hF1 p5 [.Call (.Name (S "list") p2) [slc2] [] p3, .Name (S "seed_here") p4] n1 ⟨[], [], [(S "script", .top sa), (S "seed_here", .d (.int sd))]⟩ (fun vs st => vs = [.l 0, .d (.int sd)] ∧ st.Lc = [some ((ns.take 40).map D.int)]) rfl
    (.inl ⟨rfl, rfl, .inl ⟨rfl, rfl, .inr ⟨rfl, rfl⟩⟩⟩)
  refine wpAny_execs_cons (wpAny_Return_some (List_ (wpAny_mono (hlst [] h1 t1 r1) (fun vals s' o => ?_) fun e s' x => x.no.elim)))
  refine cps fun Zz zz => ?_
  cases o with
  | mk n2 b st2 h2 t2 l2 r2 bv q =>
  obtain ⟨rfl, q⟩ := q
  obtain ⟨v1, v2, rfl, b1, b2⟩ := bv.two
  obtain ⟨tk5, rfl⟩ := b2.int
  obtain ⟨W2, Lc2, vars2⟩ := st2
  cases (show Lc2 = _ from q)
  obtain ⟨ga2, la2, imm2⟩ := n2
  obtain ⟨g2, m2, MW2, ML2, Am2, F2, N2, ND2, RW2, RL2, RV2⟩ := r2
  cases (show g2 = g from Am2.t)
  cases RL2 with
  | cons hx ht =>
  obtain ⟨ws, q2, rfl, hd2, hz2⟩ := hx
  obtain ⟨lx, hlx, rfl⟩ := b1
  cases hlx
  refine zz ?_
  refine newList_N F2 N2 (fun h3 F3 N3 => ?_) (by rw [sizeLine_eq]; exact Nat.le_of_ble_eq_true rfl)
  rename_i lx _ _
  refine ⟨_, m2, [(_, listOf #[.ref lx, .int sd tk5] 0), (lx, listOf ws.toArray q2)], F3, news_sub N3 fun q hq => ?_, fun F4 N4 => ret _ _ _ lx _ _ [] ⟨sd, tk5, 0, ws, ns.take 40, q2, rfl, rfl, ints_bds hd2, ?_, hs⟩ ?_ F4 N4⟩
  · simp only [List.mem_cons, List.not_mem_nil, or_false] at hq
    rcases hq with rfl | rfl
    · exact .head _
    · simp
  · rw [List.length_take]; omega
  · exact Heap.lt_size (N2 (lx, listOf ws.toArray q2) (by simp)).1
end
end
noncomputable section
section
variable {w : World} {p : Program} {loose : List Str} {mean : ExcName → Option Value} {mg mb : Str → Option Value} {dp un : Nat} {gd : Option (List Code)} {cn : Str} {a : Addr} {ccd : Value} {A₀ : Around} {h₀ : Heap} {L : Addr} {m : Str → Option Value} {s : Shared} {E : Value → Shared → Prop} {Q : Flow → Shared → Prop}
theorem law_all (f346 : FnOkS 346 T346 5) (f367 : FnOkS 367 T346 5) {sa : Addr} {vs : List Value} {ns : List Int} (B : Below A₀ h₀ [] h₀) (X : (heapK w.params).In h₀) (T : Top p loose mean mg mb h₀)
    (hd : dp + 17 < recursionLimit) (hu : un + 400 < cLine) (F : Fr h₀ L s.heap m) (N : News h₀ L s.heap []) (hm : m (S "script") = some (.ref sa)) (hl : h₀.IsList sa vs.toArray) (hI : IntsAre vs ns) (hz : ns.length ≤ 4096)
    (ret : ∀ h' tk' m', Fr h₀ L h' m' → Q (.ret (.bool true)) { s with heap := h', toks := tk' }) :
    wpAny (model Challenge.rw_no0083_01.row.prog w) (ktrTop dp un gd cn (fSc (stAt 44)) L a ccd [] []) (execs (fBd (stAt 44)) (envOf cn (fSc (stAt 44)) L a ccd)) Q E s := by
  obtain ⟨p1, p2, p3, p4, p5, p6, j, he⟩ : ∃ p1 p2 p3 p4 p5 p6 j, fBd (stAt 44) = .Assign [.Name (S "box") p1] (.Call (.Name (S "_law_box") p2) [.Name (S "script") p3, .Constant (.int 73) j p4] [] p5) p6 :: (fBd (stAt 44)).tail := ⟨_, _, _, _, _, _, _, rfl⟩
  rw [he]
  have hk : (fSc (stAt 44)).kind = .function := rfl
  have nd : ∀ x, seq x (Str.ofString "__debug__") = false → (x == Str.ofString "__debug__") = false := fun x h => by rw [← seq_eq]; exact h
  have hn : nsIn (heapK w.params) mainGlobals (S "_law_box") = some (some (.ref 313)) := by kernel_rfl
  have hkp : keepIn (heapK w.params) (.ref 313) = true := by kernel_rfl
  refine wpAny_execs_cons (wpAny_Assign_Name (Call_ (nameX_K F X (topRead_of T) hn ?_ hk rfl (nd _ rfl)) rfl) rfl)
  refine callWith_K X hkp (args_cons (nameX_L F hm (args_cons (wpAny_Constant_int (k := j) (pos := p4) (args_nil ⟨X.keeps F.keep, ?_⟩))) hk rfl (nd _ rfl))) rfl rfl
  refine law_box B X T hk hd hu F N hl hI hz fun h' tk' bx lx o1 o2 news bo ne F' N' => ?_
  refine storeX_L F' N' (fun h2 F2 N2 => ?_) hk rfl
  exact law_tail f346 f367 B X T X T hd hu F2 N2 (if_pos rfl) bo ne ret
end
end
noncomputable abbrev XtT : Shared → Bool := fun s => xlAt viewT lvT s && recOk (RowW.records PySem.Challenge.rw_no0083_01.row.toRowW) s
end Mine
open Mine in
theorem PySem.Challenge.cw_no0083_01_holds : PySem.Challenge.rw_no0083_01.Holds := by
  w_on
  refine holds_law (by decide +kernel) fun said => ?_
  refine holds_open (q := viewT) (loose := looseT) (Xt := XtT) (XP := XL viewT lvT) (Yf := Hook.obs HK) (Ya := Hook.val HK) (YP := Hook.says HK) (N := 4738) lft (Hook.of HK) (Hook.keeps HK) (fun s e => xl_of s (Bool.and_eq_true_iff.mp e).1) XL.keeps (by rfl) (by rfl) (by rfl) (fun s e => recFacts_of (Bool.and_eq_true_iff.mp e).2) (by rfl) (by assumption) (by decide +kernel) ⟨rfl, rfl, rfl, rfl, rfl, by decide +kernel⟩ ?hw ?hc
  case hw => w_witness2
  case hc =>
    intro w s₀ s₁ mg mb G Y fa o pm cd doc dV kV ho hd hcd hD hmg hg args vals as hpre hlay hrd hwl hlo
    have KX := kIn_of Y
    k_behind G ho hd hcd hD hmg hpre hlay hrd hwl hlo cd
    rename_i hL ra w1 r0 hI hr hcond hcond2 K0 _ F N0
    refine law_all f346 f367 K0 KX (by assumption) (by decide) (by decide) F N0 rfl hL hI (by omega) fun h' tk' m' F' => ?_
    dsimp only
    refine goodW_bool F' (by assumption) (raisesW_false ?_) ?_
    · wrow_none_raised
    · wrow_post
