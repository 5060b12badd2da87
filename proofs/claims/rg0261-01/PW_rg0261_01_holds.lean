import PyProof.Rows.All
import Wide.All
import OpenK.AllK
import Wide.FinOn
import PyProof.ListNew
import Lean
import PySem.Challenge.RW_rg0261_01

open PySem PySem.W PyProof.Rows PySem.Spec PySem.Calls
set_option Elab.async false
set_option maxRecDepth 100000
set_option linter.unusedVariables false
set_option linter.unusedSimpArgs false
set_option linter.unusedSectionVars false
set_option maxHeartbeats 8000000
set_option genSizeOf false
set_option compiler.extract_closed false
namespace Mine
abbrev VP := Value -> Shared -> Prop
noncomputable section
section
set_option maxHeartbeats 0
noncomputable abbrev prg : Program := PySem.Challenge.pw_rg0261_01
noncomputable def yC : List Stmt -> Nat -> Stmt
 | [], _ => .Pass ⟨0, 0, 0, 0⟩
 | s :: _, 0 => s
 | _ :: r, n + 1 => yC r n
noncomputable def fT (i : Nat) : Stmt := yC prg.main.body i
set_option backward.match.sparseCases false
noncomputable def fM (i j : Nat) : Stmt := match fT i with
 | .ClassDef _ _ _ b _ _ _ _ _ _ _ => yC b j
 | s => s
noncomputable def g7 : Stmt -> Arguments
 | .FunctionDef _ a _ _ _ _ _ _ _ _ => a
 | _ => ⟨[], [], none, [], [], none, []⟩
noncomputable def d6 : Stmt -> List Stmt
 | .FunctionDef _ _ b _ _ _ _ _ _ _ => b
 | _ => []
noncomputable def fSc : Stmt -> Scope
 | .FunctionDef _ _ _ _ _ _ s _ _ _ => s
 | _ => default
noncomputable def mkF (name qual : Str) (st : Stmt) (gl : Addr) (dV kV doc pm : Value) (an : Option Addr) (cd ct : Value) (bi : Addr) : FuncData :=
 { name := name, qualname := qual, params := g7 st, body := .stmts (d6 st), scope := fSc st, globals := gl, closure := [], defaults := dV, kwdefaults := kV, doc := doc, pyModule := pm, annotations := an, code := cd, closureTuple := ct, builtins := bi }
noncomputable def en (P : Params) (s : Str) (t : Nat) (v : Value) : DictEntry := ⟨PyData.keyHash P s, .str s t, v⟩
noncomputable def hEr (P : Params) (s : Str) (t r : Nat) : DictEntry := en P s t (.ref r)
noncomputable def B9 (o : Obj) (l : List Value) : Obj := match o with
 | ⟨c, d, .fields xs, s⟩ => ⟨c, d, .fields ⟨xs.toList ++ l⟩, s⟩
 | o => o
noncomputable def jd (o : Obj) (l : List DictEntry) (n : Nat) : Obj := match o with
 | ⟨c, d, .dict xs _, s⟩ => ⟨c, d, .dict ⟨xs.toList ++ l⟩ n, s⟩
 | o => o
set_option backward.match.sparseCases true
noncomputable def ups : BT -> List (Nat × Obj) -> BT
 | t, [] => t
 | t, p :: r => ups (t.ins p.1 p.2) r
noncomputable def Jw (P : Params) : List (Nat × Obj) := [(0, boot_o_0 P), (1, boot_o_1 P), (2, boot_o_2 P), (3, boot_o_3 P), (4, boot_o_4 P), (5, boot_o_5 P), (6, boot_o_6 P), (7, boot_o_7 P), (8, boot_o_8 P), (9, boot_o_9 P), (10, boot_o_10 P)]
noncomputable def hO (c : Value) (d : Data) : Obj := ⟨c, none, d, #[]⟩
noncomputable def hX (a : Array (Option Value)) : Obj := ⟨.type "frame", none, .plain, a⟩
noncomputable def hD (n : Nat) (l : List DictEntry) : Obj := ⟨.type "dict", none, .dict ⟨l⟩ n, #[]⟩
noncomputable def hCo (n q : Str) (t ln ac fl r t4 : Nat) : Obj := ⟨.type "code", none, .fields #[.str n t, .str q (t + 1), .str "/claim/cut.py" (t + 2), .int ln 0, .int ac 0, .int 0 0, .int 0 0, .int fl 0, .ref r, .bool true, .int 181 0, .ref (r + 1), .none, .ref (r + 2), .ref (r + 3), .ref (r + 4), .int t4 0, .int ln 0, .str "/claim/cut.py" (t4 + 1)], #[]⟩
noncomputable def hFn (n q : Str) (f : Stmt) (m : Str) (t r : Nat) : Obj := ⟨.type "function", none, .func (mkF n q f 3 .none .none .none (.str m t) none (.ref r) .none 0), #[]⟩
noncomputable def hF0 (n q : Str) (f : Stmt) : Obj := ⟨.none, none, .func (mkF n q f 0 .none .none .none .none none .none .none 0), #[]⟩
noncomputable def hTs : Nat -> List Str -> List Value
 | _, [] => []
 | t, x :: l => .str x t :: hTs (t + 1) l
noncomputable def hTu (t : Nat) (l : List Str) : Obj := ⟨.type "tuple", none, .seq ⟨hTs t l⟩ 0, #[]⟩
def o0 := hO (.type "tuple") (.seq #[] 0)
def o1 := hO .none (.fields #[])
def o2 := hO (.type "code") (.fields #[.str "<module>" 182, .str "<module>" 183, .str "/claim/cut.py" 184, .int 1 0, .int 0 0, .int 0 0, .int 0 0, .int 0 0, .ref 11, .bool false, .int 181 0, .ref 12, .none, .none, .none, .none, .int 185 0, .int 1 0, .str "/claim/cut.py" 186])
def o3 := hX #[(some (.ref 13)), (some (.ref 3)), (some (.ref 3)), none, (some (.str "__main__" 164)), none, (some (.ref 0))]
def T0 (P : Params) : BT := ups (ups .nil (Jw P)) [(11, o0), (12, o1), (13, o2), (14, o3)]
def S0 (w : World) (os : OsState) : SharedT := ⟨T0 w.params, 15, {}, #[], {}, 187, os⟩
def o4 (P : Params) := hO .none (.dict #[en P "type.__subclasses__.Exception.0" 227 (.int 38 0), en P "type.__subclasses__.Exception.n" 228 (.int 1 0)] 2)
def r5 (P : Params) : List DictEntry := [en P "__doc__" 166 .none, en P "__package__" 167 .none, en P "__loader__" 168 (.builtin "__main__.__loader__#opaque"), en P "__spec__" 169 .none, hEr P "__annotations__" 170 6, hEr P "__builtins__" 171 4, en P "__file__" 173 (.str "/claim/cut.py" 172), en P "__cached__" 174 .none, hEr P "_wall" 193 21, en P "INTERNAL_ERROR" 197 (.int 1 196), hEr P "QuicError" 230 38]
def o5 (P : Params) := hD 12 (en P "__name__" 165 (.str "quic.errors" 194) :: r5 P)
def o6 := hO .none (.fields #[.int 1 0, .int 0 0, .ref 20, .int 6 0, .int 0 0, .ref 27])
def o7 := hTu 190 ["k"]
def o8 := hF0 "_wall" "_wall" (fT 0)
def o9 := hCo "_wall" "_wall" 187 1 1 3 15 191
def o10 := hFn "_wall" "_wall" (fT 0) "__main__" 164 20
def o11 := hO (.type "tuple") (.seq #[.type "Exception"] 0)
def o12 := hO (.type "builtin_function_or_method") (.fields #[.builtin "type.__prepare__", .type "type"])
def o13 (P : Params) := hD 5 [en P "__module__" 205 (.str "quic.errors" 194), en P "__qualname__" 207 (.str "QuicError" 206), en P "__firstlineno__" 209 (.int 6 208), hEr P "__init__" 219 35, hEr P "__static_attributes__" 223 36]
def o14 := hO .none (.fields #[.int 8 0, .int 4 0, .ref 34])
def o15 := hO (.type "code") (.fields #[.str "QuicError" 200, .str "QuicError" 201, .str "/claim/cut.py" 202, .int 6 0, .int 0 0, .int 0 0, .int 0 0, .int 0 0, .ref 25, .bool false, .int 181 0, .ref 26, .none, .none, .none, .none, .int 203 0, .int 6 0, .str "/claim/cut.py" 204])
def o16 := hX #[(some (.ref 27)), (some (.ref 3)), (some (.ref 24)), none, (some (.str "quic.errors" 194)), none, (some (.ref 0))]
def o17 := hTu 213 ["self", "code", "frame_type", "text"]
def o18 := hF0 "__init__" "QuicError.__init__" (fM 3 0)
def o19 := hCo "__init__" "QuicError.__init__" 210 8 4 3 29 217
def o20 := hFn "__init__" "QuicError.__init__" (fM 3 0) "quic.errors" 194 34
def o21 := hTu 220 ["code", "frame_type", "text"]
def o22 (P : Params) := hD 3 [en P "__module__" 205 (.str "quic.errors" 194), en P "__firstlineno__" 209 (.int 6 208), hEr P "__init__" 219 35, hEr P "__static_attributes__" 223 36, hEr P "__weakref__" 225 39, en P "__doc__" 226 .none]
noncomputable def o23 : Obj := ⟨.type "type", none, .cls { name := "QuicError", bases := [.type "Exception"], mro := [.ref 38, .type "Exception", .type "BaseException", .type "object"], ns := 37, qualname := "QuicError", hasDict := true, abstract := false, collection := none, hasDel := false }, #[(some (.ref 22)), none, (some (.str "QuicError" 198)), (some (.str "QuicError" 206)), (some (.builtin "Exception.__new__")), (some (.bool true))]⟩
def o24 := hO (.type "getset_descriptor") (.fields #[.str "__weakref__" 224, .ref 38, .builtin "ExceptionGroup.__weakref__", .none])
def o25 := hO (.type "super") (.fields #[.ref 38, .ref 38, .ref 38])
def o26 := hO (.type "builtin_function_or_method") (.fields #[.builtin "object.__init_subclass__", .ref 38])
noncomputable def hL (n : Nat) (l : List Obj) (r : List (Nat × Obj)) : List (Nat × Obj) := List.rec (motive := fun _ => Nat -> List (Nat × Obj)) (fun _ => r) (fun o _ ih n => (n, o) :: ih (n + 1)) l n
def T1 (P : Params) : BT := ups (T0 P) <| hL 2 [o4 P, o5 P] <| hL 12 [o6] <| hL 15 [o0, o1, o7, o0, o8, o9, o10, o11, o12, o13 P, o0, o14, o15, o16, o0, o1, o17, o0, o18, o19, o20, o21, o22 P, o23, o24, o25, o26] <| []
def S1 (w : World) (os : OsState) : SharedT := ⟨T1 w.params, 42, {}, #[], {}, 231, os⟩
def o27 (P : Params) := hO .none (.dict #[en P "type.__subclasses__.Exception.0" 227 (.int 38 0), en P "type.__subclasses__.Exception.n" 228 (.int 2 0), en P "type.__subclasses__.Exception.1" 256 (.int 58 0)] 3)
def r28 (P : Params) : List DictEntry := r5 P ++ [hEr P "PacketRefused" 259 58, hEr P "VARINT_SIZES" 266 62, hEr P "put_whole" 276 69, hEr P "varint_size" 284 76, hEr P "put_varint" 293 83, hEr P "gaps_of" 307 90]
def o28 (P : Params) := hD 18 (en P "__name__" 165 (.str "quic.ackform" 294) :: r28 P)
def o29 := B9 (o6) [.int 13 0, .int 0 0, .ref 47, .int 20 0, .int 0 0, .ref 68, .int 28 0, .int 0 0, .ref 75, .int 33 0, .int 0 0, .ref 82, .int 41 0, .int 0 0, .ref 89]
def o30 (P : Params) := hD 5 [en P "__module__" 238 (.str "quic.errors" 194), en P "__qualname__" 240 (.str "PacketRefused" 239), en P "__firstlineno__" 242 (.int 13 241), hEr P "__init__" 250 55, hEr P "__static_attributes__" 252 56]
def o31 := hO .none (.fields #[.int 15 0, .int 4 0, .ref 54])
def o32 := hO (.type "code") (.fields #[.str "PacketRefused" 233, .str "PacketRefused" 234, .str "/claim/cut.py" 235, .int 13 0, .int 0 0, .int 0 0, .int 0 0, .int 0 0, .ref 45, .bool false, .int 181 0, .ref 46, .none, .none, .none, .none, .int 236 0, .int 13 0, .str "/claim/cut.py" 237])
def o33 := hX #[(some (.ref 47)), (some (.ref 3)), (some (.ref 44)), none, (some (.str "quic.errors" 194)), none, (some (.ref 0))]
def o34 := hTu 246 ["self", "text"]
def o35 := hF0 "__init__" "PacketRefused.__init__" (fM 4 0)
def o36 := hCo "__init__" "PacketRefused.__init__" 243 15 2 3 49 248
def o37 := hFn "__init__" "PacketRefused.__init__" (fM 4 0) "quic.errors" 194 54
def o38 := hTu 251 ["text"]
def o39 (P : Params) := hD 3 [en P "__module__" 238 (.str "quic.errors" 194), en P "__firstlineno__" 242 (.int 13 241), hEr P "__init__" 250 55, hEr P "__static_attributes__" 252 56, hEr P "__weakref__" 254 59, en P "__doc__" 255 .none]
noncomputable def o40 : Obj := ⟨.type "type", none, .cls { name := "PacketRefused", bases := [.type "Exception"], mro := [.ref 58, .type "Exception", .type "BaseException", .type "object"], ns := 57, qualname := "PacketRefused", hasDict := true, abstract := false, collection := none, hasDel := false }, #[(some (.ref 42)), none, (some (.str "PacketRefused" 231)), (some (.str "PacketRefused" 239)), (some (.builtin "Exception.__new__")), (some (.bool true))]⟩
def o41 := hO (.type "getset_descriptor") (.fields #[.str "__weakref__" 253, .ref 58, .builtin "ExceptionGroup.__weakref__", .none])
def o42 := hO (.type "super") (.fields #[.ref 58, .ref 58, .ref 58])
def o43 := hO (.type "builtin_function_or_method") (.fields #[.builtin "object.__init_subclass__", .ref 58])
def o44 := hO (.type "tuple") (.seq #[.int 1 262, .int 2 263, .int 4 264, .int 8 265] 0)
def o45 := hTu 270 ["n", "size", "found", "place"]
def o46 := hF0 "put_whole" "put_whole" (fT 7)
def o47 := hCo "put_whole" "put_whole" 267 20 2 3 63 274
def o48 := hFn "put_whole" "put_whole" (fT 7) "quic.varint" 260 68
def o49 := hTu 280 ["n", "size"]
def o50 := hF0 "varint_size" "varint_size" (fT 8)
def o51 := hCo "varint_size" "varint_size" 277 28 1 3 70 282
def o52 := hFn "varint_size" "varint_size" (fT 8) "quic.varint" 260 75
def o53 := hTu 288 ["n", "size", "least"]
def o54 := hF0 "put_varint" "put_varint" (fT 9)
def o55 := hCo "put_varint" "put_varint" 285 33 2 3 77 291
def o56 := hFn "put_varint" "put_varint" (fT 9) "quic.varint" 260 82
def o57 := hTu 299 ["ranges", "low", "high", "found", "before", "one"]
def o58 := hF0 "gaps_of" "gaps_of" (fT 11)
def o59 := hCo "gaps_of" "gaps_of" 296 41 1 3 84 305
def o60 := hFn "gaps_of" "gaps_of" (fT 11) "quic.ackform" 294 89
def T2 (P : Params) : BT := ups (T1 P) <| hL 2 [o27 P, o28 P] <| hL 12 [o29] <| hL 42 [o11, o12, o30 P, o0, o31, o32, o33, o0, o1, o34, o0, o35, o36, o37, o38, o39 P, o40, o41, o42, o43, o44, o0, o1, o45, o0, o46, o47, o48, o0, o1, o49, o0, o50, o51, o52, o0, o1, o53, o0, o54, o55, o56, o0, o1, o57, o0, o58, o59, o60] <| []
def S2 (w : World) (os : OsState) : SharedT := ⟨T2 w.params, 91, {}, #[], {}, 308, os⟩
def r61 (P : Params) : List DictEntry := r28 P ++ [hEr P "fitting" 324 97, hEr P "LONG_KINDS" 331 98, hEr P "put_ids" 339 105, hEr P "long_first" 347 112, hEr P "long_head" 361 119, en P "MOST_OCTETS" 365 (.int 4 364), hEr P "number_size" 375 126, hEr P "cut_number" 384 133, en P "TAG_SIZE" 388 (.int 16 387), hEr P "padded_payload" 397 140, hEr P "short_head" 409 147, hEr P "head_of" 421 154, hEr P "number_in" 428 161]
def o61 (P : Params) := hD 31 (en P "__name__" 165 (.str "quic.shorthead" 398) :: r61 P)
def o62 := B9 (o29) [.int 48 0, .int 0 0, .ref 96, .int 62 0, .int 0 0, .ref 104, .int 64 0, .int 0 0, .ref 111, .int 66 0, .int 0 0, .ref 118, .int 73 0, .int 0 0, .ref 125, .int 79 0, .int 0 0, .ref 132, .int 84 0, .int 0 0, .ref 139, .int 88 0, .int 0 0, .ref 146, .int 90 0, .int 0 0, .ref 153, .int 97 0, .int 0 0, .ref 160]
def o63 := hTu 311 ["delay", "ranges", "room", "largest", "first", "pairs", "used", "many", "size", "gap", "length"]
def o64 := hF0 "fitting" "fitting" (fT 12)
def o65 := hCo "fitting" "fitting" 308 48 3 3 91 322
def o66 := hFn "fitting" "fitting" (fT 12) "quic.ackform" 294 96
def o67 := hO (.type "list") (.seq #[.str "initial" 327, .str "zero" 328, .str "handshake" 329, .str "retry" 330] 0)
def o68 := hTu 335 ["dcid", "scid"]
def o69 := hF0 "put_ids" "put_ids" (fT 15)
def o70 := hCo "put_ids" "put_ids" 332 62 2 3 99 337
def o71 := hFn "put_ids" "put_ids" (fT 15) "quic.longheads" 325 104
def o72 := hTu 343 ["kind", "low_bits"]
def o73 := hF0 "long_first" "long_first" (fT 16)
def o74 := hCo "long_first" "long_first" 340 64 2 3 106 345
def o75 := hFn "long_first" "long_first" (fT 16) "quic.longheads" 325 111
def o76 := hTu 351 ["kind", "version", "dcid", "scid", "token", "rest_size", "number_size", "head"]
def o77 := hF0 "long_head" "long_head" (fT 17)
def o78 := hCo "long_head" "long_head" 348 66 7 3 113 359
def o79 := hFn "long_head" "long_head" (fT 17) "quic.longheads" 325 118
def o80 := hTu 369 ["full", "largest_acked", "apart", "size"]
def o81 := hF0 "number_size" "number_size" (fT 20)
def o82 := hCo "number_size" "number_size" 366 73 2 3 120 373
def o83 := hFn "number_size" "number_size" (fT 20) "quic.pnum" 362 125
def o84 := hTu 379 ["full", "largest_acked", "size"]
def o85 := hF0 "cut_number" "cut_number" (fT 21)
def o86 := hCo "cut_number" "cut_number" 376 79 2 3 127 382
def o87 := hFn "cut_number" "cut_number" (fT 21) "quic.pnum" 362 132
def o88 := hTu 392 ["payload", "number_size", "lacking"]
def o89 := hF0 "padded_payload" "padded_payload" (fT 24)
def o90 := hCo "padded_payload" "padded_payload" 389 84 2 3 134 395
def o91 := hFn "padded_payload" "padded_payload" (fT 24) "quic.seal" 385 139
def o92 := hTu 403 ["spin", "key_phase", "dcid", "number_size"]
def o93 := hF0 "short_head" "short_head" (fT 26)
def o94 := hCo "short_head" "short_head" 400 88 4 3 141 407
def o95 := hFn "short_head" "short_head" (fT 26) "quic.shorthead" 398 146
def o96 := hTu 413 ["packet", "number_size", "payload", "kind", "rest", "token"]
def o97 := hF0 "head_of" "head_of" (fT 27)
def o98 := hCo "head_of" "head_of" 410 90 3 3 148 419
def o99 := hFn "head_of" "head_of" (fT 27) "quic.shorthead" 398 153
def yB := hTu 425 ["packet"]
def FH := hF0 "number_in" "number_in" (fT 28)
def yA := hCo "number_in" "number_in" 422 97 1 3 155 426
def yz := hFn "number_in" "number_in" (fT 28) "quic.shorthead" 398 160
def T3 (P : Params) : BT := ups (T2 P) <| hL 3 [o61 P] <| hL 12 [o62] <| hL 91 [o0, o1, o63, o0, o64, o65, o66, o67, o0, o1, o68, o0, o69, o70, o71, o0, o1, o72, o0, o73, o74, o75, o0, o1, o76, o0, o77, o78, o79, o0, o1, o80, o0, o81, o82, o83, o0, o1, o84, o0, o85, o86, o87, o0, o1, o88, o0, o89, o90, o91, o0, o1, o92, o0, o93, o94, o95, o0, o1, o96] <| hL 151 [o0, o97, o98, o99, o0, o1, yB, o0, FH, yA, yz] <| []
def S3 (w : World) (os : OsState) : SharedT := ⟨T3 w.params, 162, {}, #[], {}, 429, os⟩
def AP (P : Params) : List DictEntry := r61 P ++ [hEr P "packet_size" 438 168, en P "LEAST_PAYLOAD" 442 (.int 4 441), hEr P "packet_with" 454 175, hEr P "head_octets" 465 182, hEr P "NOT_ELICITING" 471 183, hEr P "is_eliciting" 478 190, hEr P "any_eliciting" 484 195, en P "PING" 486 (.int 1 485), en P "ACK" 488 (.int 2 487), en P "ACK_ECN" 490 (.int 3 489), en P "RESET_STREAM" 492 (.int 4 491), en P "STOP_SENDING" 494 (.int 5 493), en P "CRYPTO" 496 (.int 6 495), en P "NEW_TOKEN" 498 (.int 7 497), en P "STREAM" 500 (.int 8 499), en P "MAX_DATA" 502 (.int 16 501), en P "MAX_STREAM_DATA" 504 (.int 17 503), en P "MAX_STREAMS_BIDI" 506 (.int 18 505), en P "MAX_STREAMS_UNI" 508 (.int 19 507), en P "DATA_BLOCKED" 510 (.int 20 509), en P "STREAM_DATA_BLOCKED" 512 (.int 21 511), en P "STREAMS_BLOCKED_BIDI" 514 (.int 22 513), en P "STREAMS_BLOCKED_UNI" 516 (.int 23 515), en P "NEW_CONNECTION_ID" 518 (.int 24 517), en P "RETIRE_CONNECTION_ID" 520 (.int 25 519), en P "PATH_CHALLENGE" 522 (.int 26 521), en P "PATH_RESPONSE" 524 (.int 27 523), en P "CLOSE" 526 (.int 28 525), en P "CLOSE_APPLICATION" 528 (.int 29 527)]
def o104 (P : Params) := hD 60 (en P "__name__" 165 (.str "quic.framerules" 466) :: AP P)
def FF := B9 (o62) [.int 99 0, .int 0 0, .ref 167, .int 105 0, .int 0 0, .ref 174, .int 112 0, .int 0 0, .ref 181, .int 117 0, .int 0 0, .ref 189, .int 119 0, .int 0 0, .ref 194]
def yy := hTu 432 ["packet", "largest_acked", "cut", "payload"]
def FE := hF0 "packet_size" "packet_size" (fT 29)
def yx := hCo "packet_size" "packet_size" 429 99 2 3 162 436
def yw := hFn "packet_size" "packet_size" (fT 29) "quic.shorthead" 398 167
def yv := hTu 446 ["ids", "space", "number", "payload", "dcid", "scid"]
def FD := hF0 "packet_with" "packet_with" (fT 32)
def yu := hCo "packet_with" "packet_with" 443 105 4 3 169 452
def yt := hFn "packet_with" "packet_with" (fT 32) "quic.datagrams" 439 174
def yr := hTu 458 ["ids", "places", "space", "number", "acked"]
def FC := hF0 "head_octets" "head_octets" (fT 33)
def yq := hCo "head_octets" "head_octets" 455 112 3 3 176 463
def yp := hFn "head_octets" "head_octets" (fT 33) "quic.datagrams" 439 181
def yo := hTu 468 ["ack", "padding", "close"]
def yn := hTu 475 ["f"]
def FB := hF0 "is_eliciting" "is_eliciting" (fT 36)
def ym := hCo "is_eliciting" "is_eliciting" 472 117 1 3 184 476
def yl := hFn "is_eliciting" "is_eliciting" (fT 36) "quic.framerules" 466 189
def FA := hF0 "any_eliciting" "any_eliciting" (fT 37)
def yk := hO (.type "code") (.fields #[.str "any_eliciting" 479, .str "any_eliciting" 480, .str "/claim/cut.py" 481, .int 119 0, .int 1 0, .int 0 0, .int 0 0, .int 3 0, .ref 191, .bool true, .int 181 0, .ref 192, .none, .none, .none, .ref 193, .int 482 0, .int 119 0, .str "/claim/cut.py" 483])
def yj := hFn "any_eliciting" "any_eliciting" (fT 37) "quic.framerules" 466 194
def T4 (P : Params) : BT := ups (T3 P) <| hL 3 [o104 P] <| hL 12 [FF] <| hL 162 [o0, o1, yy, o0, FE, yx, yw, o0, o1, yv, o0, FD, yu, yt, o0, o1, yr, o0, FC, yq, yp, yo, o0, o1, yn, o0, FB, ym, yl, o0, o1, FA, yk, yj] <| []
def S4 (w : World) (os : OsState) : SharedT := ⟨T4 w.params, 196, {}, #[], {}, 529, os⟩
def AO (P : Params) : List DictEntry := AP P ++ [en P "HANDSHAKE_DONE" 530 (.int 30 529), en P "BIT_FIN" 532 (.int 1 531), en P "BIT_LENGTH" 534 (.int 2 533), en P "BIT_OFFSET" 536 (.int 4 535), hEr P "NUMBER_FRAMES" 557 196, hEr P "put_numbers" 563 201, hEr P "put_counted" 570 208, hEr P "ack_numbers" 583 215, hEr P "put_ack" 597 222, hEr P "put_stream" 612 229, hEr P "put_new_cid" 624 236]
def o126 (P : Params) := hD 71 (en P "__name__" 165 (.str "quic.framesout" 537) :: AO P)
def Fy := B9 (FF) [.int 149 0, .int 0 0, .ref 200, .int 151 0, .int 0 0, .ref 207, .int 153 0, .int 0 0, .ref 214, .int 160 0, .int 0 0, .ref 221, .int 165 0, .int 0 0, .ref 228, .int 170 0, .int 0 0, .ref 235]
def yi (P : Params) := hD 9 [en P "ping" 539 (.int 1 485), en P "reset_stream" 540 (.int 4 491), en P "stop_sending" 541 (.int 5 493), en P "max_data" 542 (.int 16 501), en P "max_stream_data" 543 (.int 17 503), en P "data_blocked" 544 (.int 20 509), en P "stream_data_blocked" 545 (.int 21 511), en P "retire_connection_id" 546 (.int 25 519), en P "handshake_done" 547 (.int 30 529)]
def Fx := hF0 "put_numbers" "put_numbers" (fT 66)
def yh := hO (.type "code") (.fields #[.str "put_numbers" 558, .str "put_numbers" 559, .str "/claim/cut.py" 560, .int 149 0, .int 1 0, .int 0 0, .int 0 0, .int 3 0, .ref 197, .bool true, .int 181 0, .ref 198, .none, .none, .none, .ref 199, .int 561 0, .int 149 0, .str "/claim/cut.py" 562])
def yg := hFn "put_numbers" "put_numbers" (fT 66) "quic.framesout" 537 200
def yf := hTu 567 ["data"]
def Fw := hF0 "put_counted" "put_counted" (fT 67)
def ye := hCo "put_counted" "put_counted" 564 151 1 3 202 568
def yd := hFn "put_counted" "put_counted" (fT 67) "quic.framesout" 537 207
def yc := hTu 574 ["ranges", "high", "low", "found", "more", "next_low", "next_high"]
def Fv := hF0 "ack_numbers" "ack_numbers" (fT 68)
def yb := hCo "ack_numbers" "ack_numbers" 571 153 1 3 209 581
def ya := hFn "ack_numbers" "ack_numbers" (fT 68) "quic.framesout" 537 214
def xZ := hTu 587 ["f", "kind", "delay", "ranges", "ecn", "greatest", "others", "counts"]
def Fu := hF0 "put_ack" "put_ack" (fT 69)
def xY := hCo "put_ack" "put_ack" 584 160 1 3 216 595
def xX := hFn "put_ack" "put_ack" (fT 69) "quic.framesout" 537 221
def xW := hTu 601 ["f", "is_last", "kind", "number", "offset", "data", "fin", "told", "head"]
def Ft := hF0 "put_stream" "put_stream" (fT 70)
def xV := hCo "put_stream" "put_stream" 598 165 2 3 223 610
def xU := hFn "put_stream" "put_stream" (fT 70) "quic.framesout" 537 228
def xT := hTu 616 ["f", "kind", "sequence", "retire_prior", "cid", "token"]
def Fs := hF0 "put_new_cid" "put_new_cid" (fT 71)
def xS := hCo "put_new_cid" "put_new_cid" 613 170 1 3 230 622
def xR := hFn "put_new_cid" "put_new_cid" (fT 71) "quic.framesout" 537 235
def T5 (P : Params) : BT := ups (T4 P) <| hL 3 [o126 P] <| hL 12 [Fy] <| hL 196 [yi P, o0, o1, Fx, yh, yg, o0, o1, yf, o0, Fw, ye, yd, o0, o1, yc, o0, Fv, yb, ya, o0, o1, xZ, o0, Fu, xY, xX, o0, o1, xW, o0, Ft, xV, xU, o0, o1, xT, o0, Fs, xS, xR] <| []
def S5 (w : World) (os : OsState) : SharedT := ⟨T5 w.params, 237, {}, #[], {}, 625, os⟩
def AN (P : Params) : List DictEntry := AO P ++ [hEr P "put_close" 635 243, hEr P "put_octets_frame" 643 250, hEr P "put_frame" 652 257, hEr P "frame_size" 659 264, hEr P "crypto_room" 667 271, hEr P "DATA_KINDS" 672 272, hEr P "data_of" 679 279, hEr P "with_data" 689 286, hEr P "data_room" 699 293, hEr P "cut_frame" 710 300, hEr P "filled" 723 307, hEr P "earliest" 734 314]
def o152 (P : Params) := hD 83 (en P "__name__" 165 (.str "quic.timers" 724) :: AN P)
def Fq := B9 (Fy) [.int 173 0, .int 0 0, .ref 242, .int 178 0, .int 0 0, .ref 249, .int 191 0, .int 0 0, .ref 256, .int 209 0, .int 0 0, .ref 263, .int 211 0, .int 0 0, .ref 270, .int 215 0, .int 0 0, .ref 278, .int 217 0, .int 0 0, .ref 285, .int 221 0, .int 0 0, .ref 292, .int 229 0, .int 0 0, .ref 299, .int 239 0, .int 0 0, .ref 306, .int 250 0, .int 0 0, .ref 313]
def xQ := hTu 628 ["f", "kind", "code", "frame_type", "reason"]
def Fp := hF0 "put_close" "put_close" (fT 72)
def xP := hCo "put_close" "put_close" 625 173 1 3 237 633
def xO := hFn "put_close" "put_close" (fT 72) "quic.framesout" 537 242
def xN := hTu 639 ["f", "kind"]
def Fo := hF0 "put_octets_frame" "put_octets_frame" (fT 73)
def xM := hCo "put_octets_frame" "put_octets_frame" 636 178 1 3 244 641
def xL := hFn "put_octets_frame" "put_octets_frame" (fT 73) "quic.framesout" 537 249
def xK := hTu 647 ["f", "kind", "found"]
def Fm := hF0 "put_frame" "put_frame" (fT 74)
def xJ := hCo "put_frame" "put_frame" 644 191 1 3 251 650
def xI := hFn "put_frame" "put_frame" (fT 74) "quic.framesout" 537 256
def xH := hTu 656 ["f"]
def Fk := hF0 "frame_size" "frame_size" (fT 75)
def xG := hCo "frame_size" "frame_size" 653 209 1 3 258 657
def xF := hFn "frame_size" "frame_size" (fT 75) "quic.framesout" 537 263
def xE := hTu 663 ["offset", "most"]
def Fj := hF0 "crypto_room" "crypto_room" (fT 76)
def xD := hCo "crypto_room" "crypto_room" 660 211 2 3 265 665
def xC := hFn "crypto_room" "crypto_room" (fT 76) "quic.framesout" 537 270
def xB := hTu 670 ["crypto", "stream"]
def xA := hTu 676 ["frame"]
def Fi := hF0 "data_of" "data_of" (fT 79)
def xz := hCo "data_of" "data_of" 673 215 1 3 273 677
def xy := hFn "data_of" "data_of" (fT 79) "quic.packing" 668 278
def xx := hTu 683 ["frame", "skipped", "data", "fin"]
def Fh := hF0 "with_data" "with_data" (fT 80)
def xw := hCo "with_data" "with_data" 680 217 4 3 280 687
def xv := hFn "with_data" "with_data" (fT 80) "quic.packing" 668 285
def xu := hTu 693 ["frame", "room", "data", "many"]
def Fg := hF0 "data_room" "data_room" (fT 81)
def xt := hCo "data_room" "data_room" 690 221 2 3 287 697
def xr := hFn "data_room" "data_room" (fT 81) "quic.packing" 668 292
def xq := hTu 703 ["frame", "room", "many", "data", "is_end"]
def Ff := hF0 "cut_frame" "cut_frame" (fT 82)
def xp := hCo "cut_frame" "cut_frame" 700 229 2 3 294 708
def xo := hFn "cut_frame" "cut_frame" (fT 82) "quic.packing" 668 299
def xn := hTu 714 ["frames", "room", "taken", "left", "frame", "part", "rest"]
def Fe := hF0 "filled" "filled" (fT 83)
def xm := hCo "filled" "filled" 711 239 2 3 301 721
def xl := hFn "filled" "filled" (fT 83) "quic.packing" 668 306
def xk := hTu 729 ["some", "found", "one"]
def Fd := hF0 "earliest" "earliest" (fT 85)
def xj := hCo "earliest" "earliest" 726 250 1 3 308 732
def xi := hFn "earliest" "earliest" (fT 85) "quic.timers" 724 313
def T6 (P : Params) : BT := ups (T5 P) <| hL 3 [o152 P] <| hL 12 [Fq] <| hL 237 [o0, o1, xQ, o0, Fp, xP, xO, o0, o1, xN, o0, Fo, xM, xL, o0, o1, xK, o0, Fm, xJ, xI, o0, o1, xH, o0, Fk, xG, xF, o0, o1, xE, o0, Fj, xD, xC, xB, o0, o1, xA, o0, Fi, xz, xy, o0, o1, xx, o0, Fh, xw, xv, o0, o1, xu, o0, Fg, xt, xr, o0, o1, xq] <| hL 297 [o0, Ff, xp, xo, o0, o1, xn, o0, Fe, xm, xl, o0, o1, xk, o0, Fd, xj, xi] <| []
def S6 (w : World) (os : OsState) : SharedT := ⟨T6 w.params, 315, {}, #[], {}, 735, os⟩
def AM (P : Params) : List DictEntry := AN P ++ [hEr P "ack_due" 743 321, en P "LEAST_ROOM" 747 (.int 4 746), en P "GREATEST_DELAY" 753 (.int 4611686018427387903 752), en P "PATH_FRAME_SIZE" 755 (.int 9 754), hEr P "ids_of" 762 328, hEr P "places_of" 768 333, hEr P "head_room" 776 340, hEr P "ack_time" 785 347, hEr P "wants_ack" 795 354, hEr P "datagram_size" 803 361, hEr P "has_ack_room" 813 368, hEr P "next_ack_time" 819 373, hEr P "cut_ack" 829 380, hEr P "crypto_frames" 839 387]
def o199 (P : Params) := hD 97 (en P "__name__" 165 (.str "quic.connout" 744) :: AM P)
def Fc := B9 (Fq) [.int 256 0, .int 0 0, .ref 320, .int 264 0, .int 0 0, .ref 327, .int 266 0, .int 0 0, .ref 332, .int 268 0, .int 0 0, .ref 339, .int 270 0, .int 0 0, .ref 346, .int 273 0, .int 0 0, .ref 353, .int 276 0, .int 0 0, .ref 360, .int 279 0, .int 0 0, .ref 367, .int 283 0, .int 0 0, .ref 372, .int 286 0, .int 0 0, .ref 379, .int 292 0, .int 0 0, .ref 386]
def xh := hTu 738 ["first_unacked", "most_delay", "wants_now"]
def Fb := hF0 "ack_due" "ack_due" (fT 86)
def xg := hCo "ack_due" "ack_due" 735 256 3 3 315 741
def xf := hFn "ack_due" "ack_due" (fT 86) "quic.timers" 724 320
def xe := hTu 759 ["conn"]
def Fa := hF0 "ids_of" "ids_of" (fT 91)
def xd := hCo "ids_of" "ids_of" 756 264 1 3 322 760
def xc := hFn "ids_of" "ids_of" (fT 91) "quic.connout" 744 327
def EZ := hF0 "places_of" "places_of" (fT 92)
def xb := hO (.type "code") (.fields #[.str "places_of" 763, .str "places_of" 764, .str "/claim/cut.py" 765, .int 266 0, .int 1 0, .int 0 0, .int 0 0, .int 3 0, .ref 329, .bool true, .int 181 0, .ref 330, .none, .none, .none, .ref 331, .int 766 0, .int 266 0, .str "/claim/cut.py" 767])
def xa := hFn "places_of" "places_of" (fT 92) "quic.connout" 744 332
def wZ := hTu 772 ["conn", "space"]
def EY := hF0 "head_room" "head_room" (fT 93)
def wY := hCo "head_room" "head_room" 769 268 2 3 334 774
def wX := hFn "head_room" "head_room" (fT 93) "quic.connout" 744 339
def wW := hTu 780 ["conn", "space", "place"]
def EX := hF0 "ack_time" "ack_time" (fT 94)
def wV := hCo "ack_time" "ack_time" 777 270 2 3 341 783
def wU := hFn "ack_time" "ack_time" (fT 94) "quic.connout" 744 346
def wT := hTu 789 ["conn", "space", "now", "due"]
def EW := hF0 "wants_ack" "wants_ack" (fT 95)
def wS := hCo "wants_ack" "wants_ack" 786 273 3 3 348 793
def wR := hFn "wants_ack" "wants_ack" (fT 95) "quic.connout" 744 353
def wQ := hTu 799 ["conn", "room"]
def EV := hF0 "datagram_size" "datagram_size" (fT 96)
def wP := hCo "datagram_size" "datagram_size" 796 276 1 3 355 801
def wO := hFn "datagram_size" "datagram_size" (fT 96) "quic.connout" 744 360
def wN := hTu 807 ["conn", "space", "ack", "room"]
def EU := hF0 "has_ack_room" "has_ack_room" (fT 97)
def wM := hCo "has_ack_room" "has_ack_room" 804 279 2 3 362 811
def wL := hFn "has_ack_room" "has_ack_room" (fT 97) "quic.connout" 744 367
def ET := hF0 "next_ack_time" "next_ack_time" (fT 98)
def wK := hO (.type "code") (.fields #[.str "next_ack_time" 814, .str "next_ack_time" 815, .str "/claim/cut.py" 816, .int 283 0, .int 1 0, .int 0 0, .int 0 0, .int 3 0, .ref 369, .bool true, .int 181 0, .ref 370, .none, .none, .none, .ref 371, .int 817 0, .int 283 0, .str "/claim/cut.py" 818])
def wJ := hFn "next_ack_time" "next_ack_time" (fT 98) "quic.connout" 744 372
def wI := hTu 823 ["ack", "room", "marks", "ranges"]
def ES := hF0 "cut_ack" "cut_ack" (fT 99)
def wH := hCo "cut_ack" "cut_ack" 820 286 2 3 374 827
def wG := hFn "cut_ack" "cut_ack" (fT 99) "quic.connout" 744 379
def wF := hTu 833 ["out", "room", "found", "told"]
def ER := hF0 "crypto_frames" "crypto_frames" (fT 100)
def wE := hCo "crypto_frames" "crypto_frames" 830 292 2 3 381 837
def wD := hFn "crypto_frames" "crypto_frames" (fT 100) "quic.connout" 744 386
def T7 (P : Params) : BT := ups (T6 P) <| hL 3 [o199 P] <| hL 12 [Fc] <| hL 315 [o0, o1, xh, o0, Fb, xg, xf, o0, o1, xe, o0, Fa, xd, xc, o0, o1, EZ, xb, xa, o0, o1, wZ, o0, EY, wY, wX, o0, o1, wW, o0, EX, wV, wU, o0, o1, wT, o0, EW, wS, wR, o0, o1, wQ, o0, EV, wP, wO, o0, o1, wN, o0, EU, wM, wL, o0, o1, ET, wK, wJ, o0] <| hL 375 [o1, wI, o0, ES, wH, wG, o0, o1, wF, o0, ER, wE, wD] <| []
def S7 (w : World) (os : OsState) : SharedT := ⟨T7 w.params, 388, {}, #[], {}, 840, os⟩
def AL (P : Params) : List DictEntry := AM P ++ [hEr P "path_frames" 853 394, hEr P "path_room" 859 399, hEr P "app_frames" 865 404, hEr P "may_carry" 875 411, hEr P "may_try" 883 418, hEr P "frames_beside" 889 423, hEr P "frames_for" 904 430, hEr P "add_span" 919 437, hEr P "cut_span" 931 444, hEr P "first_span" 941 451]
def o243 (P : Params) := hD 107 (en P "__name__" 165 (.str "quic.cryptostream" 942) :: AL P)
def EQ := B9 (Fc) [.int 301 0, .int 0 0, .ref 393, .int 318 0, .int 0 0, .ref 398, .int 323 0, .int 0 0, .ref 403, .int 334 0, .int 0 0, .ref 410, .int 338 0, .int 0 0, .ref 417, .int 340 0, .int 0 0, .ref 422, .int 349 0, .int 0 0, .ref 429, .int 361 0, .int 0 0, .ref 436, .int 376 0, .int 0 0, .ref 443, .int 384 0, .int 0 0, .ref 450]
def wC := hTu 843 ["conn", "room", "now", "found", "left", "address", "data", "path"]
def EP := hF0 "path_frames" "path_frames" (fT 101)
def wB := hCo "path_frames" "path_frames" 840 301 3 3 388 851
def wA := hFn "path_frames" "path_frames" (fT 101) "quic.connout" 744 393
def EO := hF0 "path_room" "path_room" (fT 102)
def wz := hO (.type "code") (.fields #[.str "path_room" 854, .str "path_room" 855, .str "/claim/cut.py" 856, .int 318 0, .int 2 0, .int 0 0, .int 0 0, .int 3 0, .ref 395, .bool true, .int 181 0, .ref 396, .none, .none, .none, .ref 397, .int 857 0, .int 318 0, .str "/claim/cut.py" 858])
def wy := hFn "path_room" "path_room" (fT 102) "quic.connout" 744 398
def EN := hF0 "app_frames" "app_frames" (fT 103)
def wx := hO (.type "code") (.fields #[.str "app_frames" 860, .str "app_frames" 861, .str "/claim/cut.py" 862, .int 323 0, .int 3 0, .int 0 0, .int 0 0, .int 3 0, .ref 400, .bool true, .int 181 0, .ref 401, .none, .none, .none, .ref 402, .int 863 0, .int 323 0, .str "/claim/cut.py" 864])
def ww := hFn "app_frames" "app_frames" (fT 103) "quic.connout" 744 403
def wv := hTu 869 ["conn", "space", "room", "size"]
def EM := hF0 "may_carry" "may_carry" (fT 104)
def wu := hCo "may_carry" "may_carry" 866 334 4 3 405 873
def wt := hFn "may_carry" "may_carry" (fT 104) "quic.connout" 744 410
def ws := hTu 879 ["conn", "space"]
def EL := hF0 "may_try" "may_try" (fT 105)
def wr := hCo "may_try" "may_try" 876 338 2 3 412 881
def wq := hFn "may_try" "may_try" (fT 105) "quic.connout" 744 417
def EK := hF0 "frames_beside" "frames_beside" (fT 106)
def wo := hO (.type "code") (.fields #[.str "frames_beside" 884, .str "frames_beside" 885, .str "/claim/cut.py" 886, .int 340 0, .int 5 0, .int 0 0, .int 0 0, .int 3 0, .ref 419, .bool true, .int 181 0, .ref 420, .none, .none, .none, .ref 421, .int 887 0, .int 340 0, .str "/claim/cut.py" 888])
def wm := hFn "frames_beside" "frames_beside" (fT 106) "quic.connout" 744 422
def wl := hTu 893 ["conn", "space", "room", "size", "now", "place", "left", "ack", "found"]
def EJ := hF0 "frames_for" "frames_for" (fT 107)
def wk := hCo "frames_for" "frames_for" 890 349 5 3 424 902
def wj := hFn "frames_for" "frames_for" (fT 107) "quic.connout" 744 429
def wi := hTu 910 ["spans", "low", "high", "found", "is_put", "one", "other"]
def EI := hF0 "add_span" "add_span" (fT 109)
def wh := hCo "add_span" "add_span" 907 361 3 3 431 917
def wg := hFn "add_span" "add_span" (fT 109) "quic.spans" 905 436
def wf := hTu 923 ["spans", "low", "high", "found", "one", "other"]
def EH := hF0 "cut_span" "cut_span" (fT 110)
def wd := hCo "cut_span" "cut_span" 920 376 3 3 438 929
def wc := hFn "cut_span" "cut_span" (fT 110) "quic.spans" 905 443
def wb := hTu 935 ["spans", "most", "low", "high"]
def EG := hF0 "first_span" "first_span" (fT 111)
def wa := hCo "first_span" "first_span" 932 384 2 3 445 939
def vZ := hFn "first_span" "first_span" (fT 111) "quic.spans" 905 450
def T8 (P : Params) : BT := ups (T7 P) <| hL 3 [o243 P] <| hL 12 [EQ] <| hL 388 [o0, o1, wC, o0, EP, wB, wA, o0, o1, EO, wz, wy, o0, o1, EN, wx, ww, o0, o1, wv, o0, EM, wu, wt, o0, o1, ws, o0, EL, wr, wq, o0, o1, EK, wo, wm, o0, o1, wl, o0, EJ, wk, wj, o0, o1, wi, o0, EI, wh, wg, o0, o1, wf, o0, EH, wd, wc, o0, o1, wb] <| hL 448 [o0, EG, wa, vZ] <| []
def S8 (w : World) (os : OsState) : SharedT := ⟨T8 w.params, 452, {}, #[], {}, 944, os⟩
def AK (P : Params) : List DictEntry := AL P ++ [hEr P "CryptoOut" 1015 503]
def EF (P : Params) := hD 108 (en P "__name__" 165 (.str "quic.newreno" 1016) :: AK P)
def EE := B9 (EQ) [.int 390 0, .int 0 0, .ref 457]
def ED (P : Params) := hD 10 [en P "__module__" 951 (.str "quic.cryptostream" 942), en P "__qualname__" 953 (.str "CryptoOut" 952), en P "__firstlineno__" 955 (.int 390 954), hEr P "__init__" 962 465, hEr P "put" 970 472, hEr P "next_chunk" 979 479, hEr P "on_lost" 988 486, hEr P "on_acked" 997 493, hEr P "is_done" 1004 500, hEr P "__static_attributes__" 1008 501]
def EC := hO .none (.fields #[.int 392 0, .int 4 0, .ref 464, .int 397 0, .int 4 0, .ref 471, .int 401 0, .int 4 0, .ref 478, .int 408 0, .int 4 0, .ref 485, .int 411 0, .int 4 0, .ref 492, .int 414 0, .int 4 0, .ref 499])
def EB := hO (.type "code") (.fields #[.str "CryptoOut" 946, .str "CryptoOut" 947, .str "/claim/cut.py" 948, .int 390 0, .int 0 0, .int 0 0, .int 0 0, .int 0 0, .ref 455, .bool false, .int 181 0, .ref 456, .none, .none, .none, .none, .int 949 0, .int 390 0, .str "/claim/cut.py" 950])
def EA := hX #[(some (.ref 457)), (some (.ref 3)), (some (.ref 454)), none, (some (.str "quic.cryptostream" 942)), none, (some (.ref 0))]
def vY := hTu 959 ["self"]
def Ez := hF0 "__init__" "CryptoOut.__init__" (fM 113 0)
def vX := hCo "__init__" "CryptoOut.__init__" 956 392 1 3 459 960
def vW := hFn "__init__" "CryptoOut.__init__" (fM 113 0) "quic.cryptostream" 942 464
def vV := hTu 966 ["self", "data"]
def Ey := hF0 "put" "CryptoOut.put" (fM 113 1)
def vU := hCo "put" "CryptoOut.put" 963 397 2 3 466 968
def vT := hFn "put" "CryptoOut.put" (fM 113 1) "quic.cryptostream" 942 471
def vS := hTu 974 ["self", "most", "span"]
def Ew := hF0 "next_chunk" "CryptoOut.next_chunk" (fM 113 2)
def vR := hCo "next_chunk" "CryptoOut.next_chunk" 971 401 2 3 473 977
def vQ := hFn "next_chunk" "CryptoOut.next_chunk" (fM 113 2) "quic.cryptostream" 942 478
def vP := hTu 983 ["self", "offset", "size"]
def Eu := hF0 "on_lost" "CryptoOut.on_lost" (fM 113 3)
def vO := hCo "on_lost" "CryptoOut.on_lost" 980 408 3 3 480 986
def vN := hFn "on_lost" "CryptoOut.on_lost" (fM 113 3) "quic.cryptostream" 942 485
def vM := hTu 992 ["self", "offset", "size"]
def Et := hF0 "on_acked" "CryptoOut.on_acked" (fM 113 4)
def vL := hCo "on_acked" "CryptoOut.on_acked" 989 411 3 3 487 995
def vK := hFn "on_acked" "CryptoOut.on_acked" (fM 113 4) "quic.cryptostream" 942 492
def vJ := hTu 1001 ["self"]
def Er := hF0 "is_done" "CryptoOut.is_done" (fM 113 5)
def vI := hCo "is_done" "CryptoOut.is_done" 998 414 1 3 494 1002
def vH := hFn "is_done" "CryptoOut.is_done" (fM 113 5) "quic.cryptostream" 942 499
def vG := hTu 1005 ["acked", "data", "due"]
def vF (P : Params) := hD 4 [en P "__module__" 951 (.str "quic.cryptostream" 942), en P "__firstlineno__" 955 (.int 390 954), hEr P "__init__" 962 465, hEr P "put" 970 472, hEr P "next_chunk" 979 479, hEr P "on_lost" 988 486, hEr P "on_acked" 997 493, hEr P "is_done" 1004 500, hEr P "__static_attributes__" 1008 501, hEr P "__dict__" 1010 504, hEr P "__weakref__" 1012 505, en P "__doc__" 1013 .none]
noncomputable def vE : Obj := ⟨.type "type", none, .cls { name := "CryptoOut", bases := [.type "object"], mro := [.ref 503, .type "object"], ns := 502, qualname := "CryptoOut", hasDict := true, abstract := false, collection := none, hasDel := false }, #[none, none, (some (.str "CryptoOut" 944)), (some (.str "CryptoOut" 952)), (some (.builtin "object.__new__")), (some (.bool true))]⟩
def vD := hO (.type "getset_descriptor") (.fields #[.str "__dict__" 1009, .ref 503, .builtin "function.__dict__", .builtin "function.__dict__#set"])
def vC := hO (.type "getset_descriptor") (.fields #[.str "__weakref__" 1011, .ref 503, .builtin "ExceptionGroup.__weakref__", .none])
def Ep := hO (.type "super") (.fields #[.ref 503, .ref 503, .ref 503])
def Eo := hO (.type "builtin_function_or_method") (.fields #[.builtin "object.__init_subclass__", .ref 503])
def T9 (P : Params) : BT := ups (T8 P) <| hL 3 [EF P] <| hL 12 [EE] <| hL 452 [o0, o12, ED P, o0, EC, EB, EA, o0, o1, vY, o0, Ez, vX, vW, o0, o1, vV, o0, Ey, vU, vT, o0, o1, vS, o0, Ew, vR, vQ, o0, o1, vP, o0, Eu, vO, vN, o0, o1, vM, o0, Et, vL, vK, o0, o1, vJ, o0, Er, vI, vH, vG, vF P, vE, vD, vC, Ep, Eo] <| []
def S9 (w : World) (os : OsState) : SharedT := ⟨T9 w.params, 508, {}, #[], {}, 1018, os⟩
def En (P : Params) := jd (EF P) [en P "INITIAL_PACKETS" 1019 (.int 10 1018), en P "INITIAL_OCTETS" 1021 (.int 14720 1020), en P "LEAST_PACKETS" 1023 (.int 2 1022), hEr P "initial_window" 1030 514] 112
def Em := B9 (EE) [.int 420 0, .int 0 0, .ref 513]
def vB := hTu 1027 ["datagram"]
def El := hF0 "initial_window" "initial_window" (fT 118)
def vA := hCo "initial_window" "initial_window" 1024 420 1 3 508 1028
def vz := hFn "initial_window" "initial_window" (fT 118) "quic.newreno" 1016 513
def T10 (P : Params) : BT := ups (T9 P) <| hL 3 [En P] <| hL 12 [Em] <| hL 508 [o0, o1, vB, o0, El, vA, vz] <| []
def S10 (w : World) (os : OsState) : SharedT := ⟨T10 w.params, 515, {}, #[], {}, 1031, os⟩
def o325 (P : Params) := jd (En P) [hEr P "NewReno" 1149 601] 113
def Ek := B9 (Em) [.int 422 0, .int 0 0, .ref 520]
def Ej (P : Params) := hD 15 [en P "__module__" 1038 (.str "quic.newreno" 1016), en P "__qualname__" 1040 (.str "NewReno" 1039), en P "__firstlineno__" 1042 (.int 422 1041), hEr P "__init__" 1050 528, hEr P "may_send" 1058 535, hEr P "is_slow_start" 1065 542, hEr P "in_recovery" 1073 549, hEr P "on_sent" 1081 556, hEr P "on_discarded" 1089 563, hEr P "on_acked" 1101 570, hEr P "widen" 1109 577, hEr P "on_congestion" 1118 584, hEr P "on_lost" 1128 591, hEr P "on_persistent" 1135 598, hEr P "__static_attributes__" 1142 599]
def Ei := hO .none (.fields #[.int 424 0, .int 4 0, .ref 527, .int 432 0, .int 4 0, .ref 534, .int 435 0, .int 4 0, .ref 541, .int 438 0, .int 4 0, .ref 548, .int 441 0, .int 4 0, .ref 555, .int 444 0, .int 4 0, .ref 562, .int 447 0, .int 4 0, .ref 569, .int 450 0, .int 4 0, .ref 576, .int 453 0, .int 4 0, .ref 583, .int 456 0, .int 4 0, .ref 590, .int 459 0, .int 4 0, .ref 597])
def Eh := hO (.type "code") (.fields #[.str "NewReno" 1033, .str "NewReno" 1034, .str "/claim/cut.py" 1035, .int 422 0, .int 0 0, .int 0 0, .int 0 0, .int 0 0, .ref 518, .bool false, .int 181 0, .ref 519, .none, .none, .none, .none, .int 1036 0, .int 422 0, .str "/claim/cut.py" 1037])
def Eg := hX #[(some (.ref 520)), (some (.ref 3)), (some (.ref 517)), none, (some (.str "quic.newreno" 1016)), none, (some (.ref 0))]
def vy := hTu 1046 ["self", "datagram"]
def Ef := hF0 "__init__" "NewReno.__init__" (fM 119 0)
def vx := hCo "__init__" "NewReno.__init__" 1043 424 2 3 522 1048
def vw := hFn "__init__" "NewReno.__init__" (fM 119 0) "quic.newreno" 1016 527
def vv := hTu 1054 ["self", "size"]
def Ee := hF0 "may_send" "NewReno.may_send" (fM 119 1)
def vt := hCo "may_send" "NewReno.may_send" 1051 432 2 3 529 1056
def vr := hFn "may_send" "NewReno.may_send" (fM 119 1) "quic.newreno" 1016 534
def vq := hTu 1062 ["self"]
def Ed := hF0 "is_slow_start" "NewReno.is_slow_start" (fM 119 2)
def vp := hCo "is_slow_start" "NewReno.is_slow_start" 1059 435 1 3 536 1063
def vo := hFn "is_slow_start" "NewReno.is_slow_start" (fM 119 2) "quic.newreno" 1016 541
def vn := hTu 1069 ["self", "sent_at"]
def Ec := hF0 "in_recovery" "NewReno.in_recovery" (fM 119 3)
def vm := hCo "in_recovery" "NewReno.in_recovery" 1066 438 2 3 543 1071
def vk := hFn "in_recovery" "NewReno.in_recovery" (fM 119 3) "quic.newreno" 1016 548
def vj := hTu 1077 ["self", "size"]
def Eb := hF0 "on_sent" "NewReno.on_sent" (fM 119 4)
def vi := hCo "on_sent" "NewReno.on_sent" 1074 441 2 3 550 1079
def vh := hFn "on_sent" "NewReno.on_sent" (fM 119 4) "quic.newreno" 1016 555
def vf := hTu 1085 ["self", "size"]
def Ea := hF0 "on_discarded" "NewReno.on_discarded" (fM 119 5)
def ve := hCo "on_discarded" "NewReno.on_discarded" 1082 444 2 3 557 1087
def vd := hFn "on_discarded" "NewReno.on_discarded" (fM 119 5) "quic.newreno" 1016 562
def vc := hTu 1093 ["self", "size", "sent_at", "is_limited", "now", "smoothed"]
def DZ := hF0 "on_acked" "NewReno.on_acked" (fM 119 6)
def vb := hCo "on_acked" "NewReno.on_acked" 1090 447 6 3 564 1099
def va := hFn "on_acked" "NewReno.on_acked" (fM 119 6) "quic.newreno" 1016 569
def uZ := hTu 1105 ["self", "size"]
def DY := hF0 "widen" "NewReno.widen" (fM 119 7)
def uY := hCo "widen" "NewReno.widen" 1102 450 2 3 571 1107
def uX := hFn "widen" "NewReno.widen" (fM 119 7) "quic.newreno" 1016 576
def uW := hTu 1113 ["self", "sent_at", "now"]
def DX := hF0 "on_congestion" "NewReno.on_congestion" (fM 119 8)
def uV := hCo "on_congestion" "NewReno.on_congestion" 1110 453 3 3 578 1116
def uU := hFn "on_congestion" "NewReno.on_congestion" (fM 119 8) "quic.newreno" 1016 583
def uT := hTu 1122 ["self", "size", "newest", "now"]
def DW := hF0 "on_lost" "NewReno.on_lost" (fM 119 9)
def uS := hCo "on_lost" "NewReno.on_lost" 1119 456 4 3 585 1126
def uR := hFn "on_lost" "NewReno.on_lost" (fM 119 9) "quic.newreno" 1016 590
def uQ := hTu 1132 ["self"]
def DV := hF0 "on_persistent" "NewReno.on_persistent" (fM 119 10)
def uP := hCo "on_persistent" "NewReno.on_persistent" 1129 459 1 3 592 1133
def uO := hFn "on_persistent" "NewReno.on_persistent" (fM 119 10) "quic.newreno" 1016 597
def uN := hTu 1136 ["credit", "datagram", "in_flight", "recovery_at", "threshold", "window"]
def uM (P : Params) := hD 4 [en P "__module__" 1038 (.str "quic.newreno" 1016), en P "__firstlineno__" 1042 (.int 422 1041), hEr P "__init__" 1050 528, hEr P "may_send" 1058 535, hEr P "is_slow_start" 1065 542, hEr P "in_recovery" 1073 549, hEr P "on_sent" 1081 556, hEr P "on_discarded" 1089 563, hEr P "on_acked" 1101 570, hEr P "widen" 1109 577, hEr P "on_congestion" 1118 584, hEr P "on_lost" 1128 591, hEr P "on_persistent" 1135 598, hEr P "__static_attributes__" 1142 599, hEr P "__dict__" 1144 602, hEr P "__weakref__" 1146 603, en P "__doc__" 1147 .none]
noncomputable def uL : Obj := ⟨.type "type", none, .cls { name := "NewReno", bases := [.type "object"], mro := [.ref 601, .type "object"], ns := 600, qualname := "NewReno", hasDict := true, abstract := false, collection := none, hasDel := false }, #[none, none, (some (.str "NewReno" 1031)), (some (.str "NewReno" 1039)), (some (.builtin "object.__new__")), (some (.bool true))]⟩
def uK := hO (.type "getset_descriptor") (.fields #[.str "__dict__" 1143, .ref 601, .builtin "function.__dict__", .builtin "function.__dict__#set"])
def uJ := hO (.type "getset_descriptor") (.fields #[.str "__weakref__" 1145, .ref 601, .builtin "ExceptionGroup.__weakref__", .none])
def DU := hO (.type "super") (.fields #[.ref 601, .ref 601, .ref 601])
def DT := hO (.type "builtin_function_or_method") (.fields #[.builtin "object.__init_subclass__", .ref 601])
def T11 (P : Params) : BT := ups (T10 P) <| hL 3 [o325 P] <| hL 12 [Ek] <| hL 515 [o0, o12, Ej P, o0, Ei, Eh, Eg, o0, o1, vy, o0, Ef, vx, vw, o0, o1, vv, o0, Ee, vt, vr, o0, o1, vq, o0, Ed, vp, vo, o0, o1, vn, o0, Ec, vm, vk, o0, o1, vj, o0, Eb, vi, vh, o0, o1, vf, o0, Ea, ve, vd, o0, o1, vc, o0, DZ, vb, va, o0, o1, uZ, o0] <| hL 575 [DY, uY, uX, o0, o1, uW, o0, DX, uV, uU, o0, o1, uT, o0, DW, uS, uR, o0, o1, uQ, o0, DV, uP, uO, uN, uM P, uL, uK, uJ, DU, DT] <| []
def S11 (w : World) (os : OsState) : SharedT := ⟨T11 w.params, 606, {}, #[], {}, 1150, os⟩
def AJ (P : Params) : List DictEntry := AK P ++ [en P "INITIAL_PACKETS" 1019 (.int 10 1018), en P "INITIAL_OCTETS" 1021 (.int 14720 1020), en P "LEAST_PACKETS" 1023 (.int 2 1022), hEr P "initial_window" 1030 514, hEr P "NewReno" 1149 601, en P "TIMES_RECEIVED" 1153 (.int 3 1152), en P "PATH_UNPROVEN" 1155 (.str "unproven" 1154), en P "PATH_TRYING" 1157 (.str "trying" 1156), en P "PATH_PROVEN" 1159 (.str "proven" 1158), en P "PATH_FAILED" 1161 (.str "failed" 1160)]
def DS (P : Params) := hD 118 (en P "__name__" 165 (.str "quic.paths" 1150) :: AJ P)
def T12 (P : Params) : BT := ups (T11 P) <| hL 3 [DS P] <| []
def S12 (w : World) (os : OsState) : SharedT := ⟨T12 w.params, 606, {}, #[], {}, 1162, os⟩
def DR (P : Params) := jd (DS P) [hEr P "Path" 1268 685] 119
def DQ := B9 (Ek) [.int 467 0, .int 0 0, .ref 611]
def DP (P : Params) := hD 14 [en P "__module__" 1169 (.str "quic.paths" 1150), en P "__qualname__" 1171 (.str "Path" 1170), en P "__firstlineno__" 1173 (.int 467 1172), hEr P "__init__" 1182 619, hEr P "is_proven" 1189 626, hEr P "room" 1196 633, hEr P "may_send" 1205 640, hEr P "on_received" 1213 647, hEr P "on_sent" 1221 654, hEr P "prove" 1228 661, hEr P "challenge" 1238 668, hEr P "fail" 1245 675, hEr P "renew" 1252 682, hEr P "__static_attributes__" 1261 683]
def DO := hO .none (.fields #[.int 469 0, .int 4 0, .ref 618, .int 479 0, .int 4 0, .ref 625, .int 482 0, .int 4 0, .ref 632, .int 485 0, .int 4 0, .ref 639, .int 489 0, .int 4 0, .ref 646, .int 492 0, .int 4 0, .ref 653, .int 495 0, .int 4 0, .ref 660, .int 498 0, .int 4 0, .ref 667, .int 506 0, .int 4 0, .ref 674, .int 514 0, .int 4 0, .ref 681])
def DN := hO (.type "code") (.fields #[.str "Path" 1164, .str "Path" 1165, .str "/claim/cut.py" 1166, .int 467 0, .int 0 0, .int 0 0, .int 0 0, .int 0 0, .ref 609, .bool false, .int 181 0, .ref 610, .none, .none, .none, .none, .int 1167 0, .int 467 0, .str "/claim/cut.py" 1168])
def DM := hX #[(some (.ref 611)), (some (.ref 3)), (some (.ref 608)), none, (some (.str "quic.paths" 1150)), none, (some (.ref 0))]
def uI := hTu 1177 ["self", "address", "is_proven"]
def DL := hF0 "__init__" "Path.__init__" (fM 126 0)
def uH := hCo "__init__" "Path.__init__" 1174 469 3 3 613 1180
def uG := hFn "__init__" "Path.__init__" (fM 126 0) "quic.paths" 1150 618
def uF := hTu 1186 ["self"]
def DK := hF0 "is_proven" "Path.is_proven" (fM 126 1)
def uE := hCo "is_proven" "Path.is_proven" 1183 479 1 3 620 1187
def uD := hFn "is_proven" "Path.is_proven" (fM 126 1) "quic.paths" 1150 625
def uC := hTu 1193 ["self"]
def DJ := hF0 "room" "Path.room" (fM 126 2)
def uB := hCo "room" "Path.room" 1190 482 1 3 627 1194
def uA := hFn "room" "Path.room" (fM 126 2) "quic.paths" 1150 632
def uz := hTu 1200 ["self", "size", "room"]
def DI := hF0 "may_send" "Path.may_send" (fM 126 3)
def uy := hCo "may_send" "Path.may_send" 1197 485 2 3 634 1203
def ux := hFn "may_send" "Path.may_send" (fM 126 3) "quic.paths" 1150 639
def uw := hTu 1209 ["self", "size"]
def DH := hF0 "on_received" "Path.on_received" (fM 126 4)
def uu := hCo "on_received" "Path.on_received" 1206 489 2 3 641 1211
def ut := hFn "on_received" "Path.on_received" (fM 126 4) "quic.paths" 1150 646
def ur := hTu 1217 ["self", "size"]
def DG := hF0 "on_sent" "Path.on_sent" (fM 126 5)
def uq := hCo "on_sent" "Path.on_sent" 1214 492 2 3 648 1219
def uo := hFn "on_sent" "Path.on_sent" (fM 126 5) "quic.paths" 1150 653
def um := hTu 1225 ["self"]
def DF := hF0 "prove" "Path.prove" (fM 126 6)
def ul := hCo "prove" "Path.prove" 1222 495 1 3 655 1226
def uj := hFn "prove" "Path.prove" (fM 126 6) "quic.paths" 1150 660
def ui := hTu 1232 ["self", "data", "now", "wait"]
def DE := hF0 "challenge" "Path.challenge" (fM 126 7)
def uh := hCo "challenge" "Path.challenge" 1229 498 4 3 662 1236
def ug := hFn "challenge" "Path.challenge" (fM 126 7) "quic.paths" 1150 667
def ue := hTu 1242 ["self"]
def DD := hF0 "fail" "Path.fail" (fM 126 8)
def ud := hCo "fail" "Path.fail" 1239 506 1 3 669 1243
def uc := hFn "fail" "Path.fail" (fM 126 8) "quic.paths" 1150 674
def ub := hTu 1249 ["self"]
def DC := hF0 "renew" "Path.renew" (fM 126 9)
def ua := hCo "renew" "Path.renew" 1246 514 1 3 676 1250
def tZ := hFn "renew" "Path.renew" (fM 126 9) "quic.paths" 1150 681
def tY := hTu 1253 ["address", "challenges", "deadline", "is_free", "received", "sent", "state", "wants_more"]
def tX (P : Params) := hD 4 [en P "__module__" 1169 (.str "quic.paths" 1150), en P "__firstlineno__" 1173 (.int 467 1172), hEr P "__init__" 1182 619, hEr P "is_proven" 1189 626, hEr P "room" 1196 633, hEr P "may_send" 1205 640, hEr P "on_received" 1213 647, hEr P "on_sent" 1221 654, hEr P "prove" 1228 661, hEr P "challenge" 1238 668, hEr P "fail" 1245 675, hEr P "renew" 1252 682, hEr P "__static_attributes__" 1261 683, hEr P "__dict__" 1263 686, hEr P "__weakref__" 1265 687, en P "__doc__" 1266 .none]
noncomputable def tW : Obj := ⟨.type "type", none, .cls { name := "Path", bases := [.type "object"], mro := [.ref 685, .type "object"], ns := 684, qualname := "Path", hasDict := true, abstract := false, collection := none, hasDel := false }, #[none, none, (some (.str "Path" 1162)), (some (.str "Path" 1170)), (some (.builtin "object.__new__")), (some (.bool true))]⟩
def tV := hO (.type "getset_descriptor") (.fields #[.str "__dict__" 1262, .ref 685, .builtin "function.__dict__", .builtin "function.__dict__#set"])
def tU := hO (.type "getset_descriptor") (.fields #[.str "__weakref__" 1264, .ref 685, .builtin "ExceptionGroup.__weakref__", .none])
def DB := hO (.type "super") (.fields #[.ref 685, .ref 685, .ref 685])
def DA := hO (.type "builtin_function_or_method") (.fields #[.builtin "object.__init_subclass__", .ref 685])
def T13 (P : Params) : BT := ups (T12 P) <| hL 3 [DR P] <| hL 12 [DQ] <| hL 606 [o0, o12, DP P, o0, DO, DN, DM, o0, o1, uI, o0, DL, uH, uG, o0, o1, uF, o0, DK, uE, uD, o0, o1, uC, o0, DJ, uB, uA, o0, o1, uz, o0, DI, uy, ux, o0, o1, uw, o0, DH, uu, ut, o0, o1, ur, o0, DG, uq, uo, o0, o1, um, o0, DF, ul, uj, o0, o1, ui, o0] <| hL 666 [DE, uh, ug, o0, o1, ue, o0, DD, ud, uc, o0, o1, ub, o0, DC, ua, tZ, tY, tX P, tW, tV, tU, DB, DA] <| []
def S13 (w : World) (os : OsState) : SharedT := ⟨T13 w.params, 690, {}, #[], {}, 1269, os⟩
def o436 (P : Params) := jd (DR P) [hEr P "Paths" 1422 804] 120
def Dz := B9 (DQ) [.int 516 0, .int 0 0, .ref 695]
def Dy (P : Params) := hD 19 [en P "__module__" 1276 (.str "quic.paths" 1150), en P "__qualname__" 1278 (.str "Paths" 1277), en P "__firstlineno__" 1280 (.int 516 1279), hEr P "__init__" 1291 703, hEr P "path_of" 1300 710, hEr P "opened" 1309 717, hEr P "on_datagram" 1319 724, hEr P "on_packet" 1329 731, hEr P "move_to" 1337 738, hEr P "take_challenge" 1346 745, hEr P "next_answer" 1353 752, hEr P "wants_challenge" 1361 759, hEr P "ask_again" 1368 766, hEr P "on_challenge_lost" 1376 773, hEr P "take_response" 1384 780, hEr P "on_handshake_packet" 1392 787, hEr P "next_time" 1399 794, hEr P "on_time" 1407 801, hEr P "__static_attributes__" 1415 802]
def Dx := hO .none (.fields #[.int 518 0, .int 4 0, .ref 702, .int 527 0, .int 4 0, .ref 709, .int 533 0, .int 4 0, .ref 716, .int 540 0, .int 4 0, .ref 723, .int 547 0, .int 4 0, .ref 730, .int 550 0, .int 4 0, .ref 737, .int 553 0, .int 4 0, .ref 744, .int 556 0, .int 4 0, .ref 751, .int 559 0, .int 4 0, .ref 758, .int 563 0, .int 4 0, .ref 765, .int 566 0, .int 4 0, .ref 772, .int 569 0, .int 4 0, .ref 779, .int 572 0, .int 4 0, .ref 786, .int 575 0, .int 4 0, .ref 793, .int 578 0, .int 4 0, .ref 800])
def Dw := hO (.type "code") (.fields #[.str "Paths" 1271, .str "Paths" 1272, .str "/claim/cut.py" 1273, .int 516 0, .int 0 0, .int 0 0, .int 0 0, .int 0 0, .ref 693, .bool false, .int 181 0, .ref 694, .none, .none, .none, .none, .int 1274 0, .int 516 0, .str "/claim/cut.py" 1275])
def Dv := hX #[(some (.ref 695)), (some (.ref 3)), (some (.ref 692)), none, (some (.str "quic.paths" 1150)), none, (some (.ref 0))]
def tT := hTu 1284 ["self", "role", "address", "is_proven", "may_move"]
def Du := hF0 "__init__" "Paths.__init__" (fM 127 0)
def tS := hCo "__init__" "Paths.__init__" 1281 518 5 3 697 1289
def tR := hFn "__init__" "Paths.__init__" (fM 127 0) "quic.paths" 1150 702
def tQ := hTu 1295 ["self", "address", "path"]
def Dt := hF0 "path_of" "Paths.path_of" (fM 127 1)
def tP := hCo "path_of" "Paths.path_of" 1292 527 2 3 704 1298
def tO := hFn "path_of" "Paths.path_of" (fM 127 1) "quic.paths" 1150 709
def tN := hTu 1304 ["self", "address", "found"]
def Ds := hF0 "opened" "Paths.opened" (fM 127 2)
def tM := hCo "opened" "Paths.opened" 1301 533 2 3 711 1307
def tL := hFn "opened" "Paths.opened" (fM 127 2) "quic.paths" 1150 716
def tK := hTu 1313 ["self", "address", "size", "path"]
def Dr := hF0 "on_datagram" "Paths.on_datagram" (fM 127 3)
def tJ := hCo "on_datagram" "Paths.on_datagram" 1310 540 3 3 718 1317
def tH := hFn "on_datagram" "Paths.on_datagram" (fM 127 3) "quic.paths" 1150 723
def tG := hTu 1323 ["self", "address", "number", "is_probing"]
def Dq := hF0 "on_packet" "Paths.on_packet" (fM 127 4)
def tF := hCo "on_packet" "Paths.on_packet" 1320 547 4 3 725 1327
def tB := hFn "on_packet" "Paths.on_packet" (fM 127 4) "quic.paths" 1150 730
def tA := hTu 1333 ["self", "address"]
def Dp := hF0 "move_to" "Paths.move_to" (fM 127 5)
def tz := hCo "move_to" "Paths.move_to" 1330 550 2 3 732 1335
def ty := hFn "move_to" "Paths.move_to" (fM 127 5) "quic.paths" 1150 737
def tx := hTu 1341 ["self", "address", "data"]
def Do := hF0 "take_challenge" "Paths.take_challenge" (fM 127 6)
def tw := hCo "take_challenge" "Paths.take_challenge" 1338 553 3 3 739 1344
def tu := hFn "take_challenge" "Paths.take_challenge" (fM 127 6) "quic.paths" 1150 744
def tm := hTu 1350 ["self"]
def Dn := hF0 "next_answer" "Paths.next_answer" (fM 127 7)
def tj := hCo "next_answer" "Paths.next_answer" 1347 556 1 3 746 1351
def tf := hFn "next_answer" "Paths.next_answer" (fM 127 7) "quic.paths" 1150 751
def td := hTu 1357 ["self", "is_tried"]
def Dm := hF0 "wants_challenge" "Paths.wants_challenge" (fM 127 8)
def tc := hCo "wants_challenge" "Paths.wants_challenge" 1354 559 1 3 753 1359
def tb := hFn "wants_challenge" "Paths.wants_challenge" (fM 127 8) "quic.paths" 1150 758
def sZ := hTu 1365 ["self"]
def Dl := hF0 "ask_again" "Paths.ask_again" (fM 127 9)
def sY := hCo "ask_again" "Paths.ask_again" 1362 563 1 3 760 1366
def sX := hFn "ask_again" "Paths.ask_again" (fM 127 9) "quic.paths" 1150 765
def sW := hTu 1372 ["self", "data"]
def Dk := hF0 "on_challenge_lost" "Paths.on_challenge_lost" (fM 127 10)
def sV := hCo "on_challenge_lost" "Paths.on_challenge_lost" 1369 566 2 3 767 1374
def sU := hFn "on_challenge_lost" "Paths.on_challenge_lost" (fM 127 10) "quic.paths" 1150 772
def sT := hTu 1380 ["self", "data"]
def Dj := hF0 "take_response" "Paths.take_response" (fM 127 11)
def sS := hCo "take_response" "Paths.take_response" 1377 569 2 3 774 1382
def sR := hFn "take_response" "Paths.take_response" (fM 127 11) "quic.paths" 1150 779
def sQ := hTu 1388 ["self", "address"]
def Di := hF0 "on_handshake_packet" "Paths.on_handshake_packet" (fM 127 12)
def sO := hCo "on_handshake_packet" "Paths.on_handshake_packet" 1385 572 2 3 781 1390
def sM := hFn "on_handshake_packet" "Paths.on_handshake_packet" (fM 127 12) "quic.paths" 1150 786
def sL := hTu 1396 ["self"]
def Dh := hF0 "next_time" "Paths.next_time" (fM 127 13)
def sK := hCo "next_time" "Paths.next_time" 1393 575 1 3 788 1397
def sJ := hFn "next_time" "Paths.next_time" (fM 127 13) "quic.paths" 1150 793
def sI := hTu 1403 ["self", "now"]
def Dg := hF0 "on_time" "Paths.on_time" (fM 127 14)
def sH := hCo "on_time" "Paths.on_time" 1400 578 2 3 795 1405
def sG := hFn "on_time" "Paths.on_time" (fM 127 14) "quic.paths" 1150 800
def sF := hTu 1408 ["active", "answers", "highest", "known", "last_proven", "may_move", "role"]
def sD (P : Params) := hD 4 [en P "__module__" 1276 (.str "quic.paths" 1150), en P "__firstlineno__" 1280 (.int 516 1279), hEr P "__init__" 1291 703, hEr P "path_of" 1300 710, hEr P "opened" 1309 717, hEr P "on_datagram" 1319 724, hEr P "on_packet" 1329 731, hEr P "move_to" 1337 738, hEr P "take_challenge" 1346 745, hEr P "next_answer" 1353 752, hEr P "wants_challenge" 1361 759, hEr P "ask_again" 1368 766, hEr P "on_challenge_lost" 1376 773, hEr P "take_response" 1384 780, hEr P "on_handshake_packet" 1392 787, hEr P "next_time" 1399 794, hEr P "on_time" 1407 801, hEr P "__static_attributes__" 1415 802, hEr P "__dict__" 1417 805, hEr P "__weakref__" 1419 806, en P "__doc__" 1420 .none]
noncomputable def sC : Obj := ⟨.type "type", none, .cls { name := "Paths", bases := [.type "object"], mro := [.ref 804, .type "object"], ns := 803, qualname := "Paths", hasDict := true, abstract := false, collection := none, hasDel := false }, #[none, none, (some (.str "Paths" 1269)), (some (.str "Paths" 1277)), (some (.builtin "object.__new__")), (some (.bool true))]⟩
def sB := hO (.type "getset_descriptor") (.fields #[.str "__dict__" 1416, .ref 804, .builtin "function.__dict__", .builtin "function.__dict__#set"])
def sA := hO (.type "getset_descriptor") (.fields #[.str "__weakref__" 1418, .ref 804, .builtin "ExceptionGroup.__weakref__", .none])
def Df := hO (.type "super") (.fields #[.ref 804, .ref 804, .ref 804])
def De := hO (.type "builtin_function_or_method") (.fields #[.builtin "object.__init_subclass__", .ref 804])
def T14 (P : Params) : BT := ups (T13 P) <| hL 3 [o436 P] <| hL 12 [Dz] <| hL 690 [o0, o12, Dy P, o0, Dx, Dw, Dv, o0, o1, tT, o0, Du, tS, tR, o0, o1, tQ, o0, Dt, tP, tO, o0, o1, tN, o0, Ds, tM, tL, o0, o1, tK, o0, Dr, tJ, tH, o0, o1, tG, o0, Dq, tF, tB, o0, o1, tA, o0, Dp, tz, ty, o0, o1, tx, o0, Do, tw, tu, o0, o1, tm, o0] <| hL 750 [Dn, tj, tf, o0, o1, td, o0, Dm, tc, tb, o0, o1, sZ, o0, Dl, sY, sX, o0, o1, sW, o0, Dk, sV, sU, o0, o1, sT, o0, Dj, sS, sR, o0, o1, sQ, o0, Di, sO, sM, o0, o1, sL, o0, Dh, sK, sJ, o0, o1, sI, o0, Dg, sH, sG, sF, sD P, sC, sB, sA, Df, De] <| []
def S14 (w : World) (os : OsState) : SharedT := ⟨T14 w.params, 809, {}, #[], {}, 1423, os⟩
def AI (P : Params) : List DictEntry := AJ P ++ [hEr P "Path" 1268 685, hEr P "Paths" 1422 804, hEr P "add_number" 1432 815, hEr P "add_range" 1444 822, hEr P "ack_of" 1452 829, hEr P "prune" 1458 834, en P "MOST_RANGES" 1462 (.int 32 1461), en P "KEPT_RANGES" 1464 (.int 64 1463), en P "ACK_EACH" 1466 (.int 2 1465), hEr P "ECN_PLACES" 1470 835]
def Dd (P : Params) := hD 128 (en P "__name__" 165 (.str "quic.spaces" 1459) :: AI P)
def Dc := B9 (Dz) [.int 581 0, .int 0 0, .ref 814, .int 583 0, .int 0 0, .ref 821, .int 596 0, .int 0 0, .ref 828, .int 598 0, .int 0 0, .ref 833]
def sz := hTu 1428 ["ranges", "n"]
def Db := hF0 "add_number" "add_number" (fT 129)
def sy := hCo "add_number" "add_number" 1425 581 2 3 809 1430
def sx := hFn "add_number" "add_number" (fT 129) "quic.ranges" 1423 814
def sw := hTu 1436 ["ranges", "low", "high", "found", "is_in", "one"]
def Da := hF0 "add_range" "add_range" (fT 130)
def sv := hCo "add_range" "add_range" 1433 583 3 3 816 1442
def su := hFn "add_range" "add_range" (fT 130) "quic.ranges" 1423 821
def sr := hTu 1448 ["ranges", "most"]
def CZ := hF0 "ack_of" "ack_of" (fT 131)
def sq := hCo "ack_of" "ack_of" 1445 596 2 3 823 1450
def sn := hFn "ack_of" "ack_of" (fT 131) "quic.ranges" 1423 828
def CY := hF0 "prune" "prune" (fT 132)
def sk := hO (.type "code") (.fields #[.str "prune" 1453, .str "prune" 1454, .str "/claim/cut.py" 1455, .int 598 0, .int 2 0, .int 0 0, .int 0 0, .int 3 0, .ref 830, .bool true, .int 181 0, .ref 831, .none, .none, .none, .ref 832, .int 1456 0, .int 598 0, .str "/claim/cut.py" 1457])
def sj := hFn "prune" "prune" (fT 132) "quic.ranges" 1423 833
def si := hO (.type "tuple") (.seq #[.none, .int 1 1467, .int 0 1468, .int 2 1469] 0)
def T15 (P : Params) : BT := ups (T14 P) <| hL 3 [Dd P] <| hL 12 [Dc] <| hL 809 [o0, o1, sz, o0, Db, sy, sx, o0, o1, sw, o0, Da, sv, su, o0, o1, sr, o0, CZ, sq, sn, o0, o1, CY, sk, sj, si] <| []
def S15 (w : World) (os : OsState) : SharedT := ⟨T15 w.params, 836, {}, #[], {}, 1471, os⟩
def o527 (P : Params) := jd (Dd P) [hEr P "Space" 1660 976] 129
def CX := B9 (Dc) [.int 605 0, .int 0 0, .ref 841]
def CW (P : Params) := hD 23 [en P "__module__" 1478 (.str "quic.spaces" 1459), en P "__qualname__" 1480 (.str "Space" 1479), en P "__firstlineno__" 1482 (.int 605 1481), hEr P "__init__" 1490 849, hEr P "is_known" 1498 856, hEr P "on_received" 1511 863, hEr P "ack_frame" 1522 870, hEr P "on_ack_sent" 1529 877, hEr P "owes_ack" 1536 884, hEr P "take_number" 1543 891, hEr P "on_sent" 1554 898, hEr P "take" 1560 903, hEr P "acked_by" 1568 910, hEr P "note_acked" 1576 917, hEr P "note_ranges" 1584 924, hEr P "is_beyond" 1592 931, hEr P "note_largest" 1600 938, hEr P "eliciting_left" 1607 945, hEr P "bare_numbers" 1614 952, hEr P "octets_out" 1621 959, hEr P "sent_rows" 1628 966, hEr P "forget" 1635 973, hEr P "__static_attributes__" 1653 974]
def CV := hO .none (.fields #[.int 607 0, .int 4 0, .ref 848, .int 626 0, .int 4 0, .ref 855, .int 629 0, .int 4 0, .ref 862, .int 646 0, .int 4 0, .ref 869, .int 653 0, .int 4 0, .ref 876, .int 656 0, .int 4 0, .ref 883, .int 659 0, .int 4 0, .ref 890, .int 662 0, .int 4 0, .ref 897, .int 665 0, .int 4 0, .ref 902, .int 669 0, .int 4 0, .ref 909, .int 672 0, .int 4 0, .ref 916, .int 675 0, .int 4 0, .ref 923, .int 678 0, .int 4 0, .ref 930, .int 681 0, .int 4 0, .ref 937, .int 684 0, .int 4 0, .ref 944, .int 687 0, .int 4 0, .ref 951, .int 690 0, .int 4 0, .ref 958, .int 693 0, .int 4 0, .ref 965, .int 696 0, .int 4 0, .ref 972])
def CU := hO (.type "code") (.fields #[.str "Space" 1473, .str "Space" 1474, .str "/claim/cut.py" 1475, .int 605 0, .int 0 0, .int 0 0, .int 0 0, .int 0 0, .ref 839, .bool false, .int 181 0, .ref 840, .none, .none, .none, .none, .int 1476 0, .int 605 0, .str "/claim/cut.py" 1477])
def CT := hX #[(some (.ref 841)), (some (.ref 3)), (some (.ref 838)), none, (some (.str "quic.spaces" 1459)), none, (some (.ref 0))]
def sh := hTu 1486 ["self", "name"]
def CS := hF0 "__init__" "Space.__init__" (fM 138 0)
def sg := hCo "__init__" "Space.__init__" 1483 607 2 3 843 1488
def sf := hFn "__init__" "Space.__init__" (fM 138 0) "quic.spaces" 1459 848
def se := hTu 1494 ["self", "number"]
def CR := hF0 "is_known" "Space.is_known" (fM 138 1)
def sd := hCo "is_known" "Space.is_known" 1491 626 2 3 850 1496
def sb := hFn "is_known" "Space.is_known" (fM 138 1) "quic.spaces" 1459 855
def rZ := hTu 1502 ["self", "number", "now", "has_eliciting", "mark", "is_gap", "ranges"]
def CQ := hF0 "on_received" "Space.on_received" (fM 138 2)
def rY := hCo "on_received" "Space.on_received" 1499 629 5 3 857 1509
def rX := hFn "on_received" "Space.on_received" (fM 138 2) "quic.spaces" 1459 862
def rW := hTu 1515 ["self", "now", "exponent", "delay", "marks"]
def CP := hF0 "ack_frame" "Space.ack_frame" (fM 138 3)
def rV := hCo "ack_frame" "Space.ack_frame" 1512 646 3 3 864 1520
def rU := hFn "ack_frame" "Space.ack_frame" (fM 138 3) "quic.spaces" 1459 869
def rT := hTu 1526 ["self"]
def CO := hF0 "on_ack_sent" "Space.on_ack_sent" (fM 138 4)
def rS := hCo "on_ack_sent" "Space.on_ack_sent" 1523 653 1 3 871 1527
def rR := hFn "on_ack_sent" "Space.on_ack_sent" (fM 138 4) "quic.spaces" 1459 876
def rQ := hTu 1533 ["self"]
def CN := hF0 "owes_ack" "Space.owes_ack" (fM 138 5)
def rP := hCo "owes_ack" "Space.owes_ack" 1530 656 1 3 878 1534
def rO := hFn "owes_ack" "Space.owes_ack" (fM 138 5) "quic.spaces" 1459 883
def rN := hTu 1540 ["self"]
def CM := hF0 "take_number" "Space.take_number" (fM 138 6)
def rM := hCo "take_number" "Space.take_number" 1537 659 1 3 885 1541
def rL := hFn "take_number" "Space.take_number" (fM 138 6) "quic.spaces" 1459 890
def rK := hTu 1547 ["self", "number", "now", "size", "frames"]
def CL := hF0 "on_sent" "Space.on_sent" (fM 138 7)
def rJ := hCo "on_sent" "Space.on_sent" 1544 662 5 3 892 1552
def rI := hFn "on_sent" "Space.on_sent" (fM 138 7) "quic.spaces" 1459 897
def CK := hF0 "take" "Space.take" (fM 138 8)
def rH := hO (.type "code") (.fields #[.str "take" 1555, .str "Space.take" 1556, .str "/claim/cut.py" 1557, .int 665 0, .int 2 0, .int 0 0, .int 0 0, .int 3 0, .ref 899, .bool true, .int 181 0, .ref 900, .none, .none, .none, .ref 901, .int 1558 0, .int 665 0, .str "/claim/cut.py" 1559])
def rG := hFn "take" "Space.take" (fM 138 8) "quic.spaces" 1459 902
def rF := hTu 1564 ["self", "ranges"]
def CJ := hF0 "acked_by" "Space.acked_by" (fM 138 9)
def rE := hCo "acked_by" "Space.acked_by" 1561 669 2 3 904 1566
def rD := hFn "acked_by" "Space.acked_by" (fM 138 9) "quic.spaces" 1459 909
def rC := hTu 1572 ["self", "numbers"]
def CI := hF0 "note_acked" "Space.note_acked" (fM 138 10)
def rB := hCo "note_acked" "Space.note_acked" 1569 672 2 3 911 1574
def rA := hFn "note_acked" "Space.note_acked" (fM 138 10) "quic.spaces" 1459 916
def rz := hTu 1580 ["self", "ranges"]
def CH := hF0 "note_ranges" "Space.note_ranges" (fM 138 11)
def rt := hCo "note_ranges" "Space.note_ranges" 1577 675 2 3 918 1582
def rq := hFn "note_ranges" "Space.note_ranges" (fM 138 11) "quic.spaces" 1459 923
def rp := hTu 1588 ["self", "ranges"]
def CG := hF0 "is_beyond" "Space.is_beyond" (fM 138 12)
def rm := hCo "is_beyond" "Space.is_beyond" 1585 678 2 3 925 1590
def rl := hFn "is_beyond" "Space.is_beyond" (fM 138 12) "quic.spaces" 1459 930
def rk := hTu 1596 ["self", "number"]
def CE := hF0 "note_largest" "Space.note_largest" (fM 138 13)
def rj := hCo "note_largest" "Space.note_largest" 1593 681 2 3 932 1598
def rg := hFn "note_largest" "Space.note_largest" (fM 138 13) "quic.spaces" 1459 937
def rb := hTu 1604 ["self"]
def CD := hF0 "eliciting_left" "Space.eliciting_left" (fM 138 14)
def qZ := hCo "eliciting_left" "Space.eliciting_left" 1601 684 1 3 939 1605
def qY := hFn "eliciting_left" "Space.eliciting_left" (fM 138 14) "quic.spaces" 1459 944
def qX := hTu 1611 ["self"]
def CC := hF0 "bare_numbers" "Space.bare_numbers" (fM 138 15)
def qW := hCo "bare_numbers" "Space.bare_numbers" 1608 687 1 3 946 1612
def qV := hFn "bare_numbers" "Space.bare_numbers" (fM 138 15) "quic.spaces" 1459 951
def qU := hTu 1618 ["self"]
def CB := hF0 "octets_out" "Space.octets_out" (fM 138 16)
def qS := hCo "octets_out" "Space.octets_out" 1615 690 1 3 953 1619
def qR := hFn "octets_out" "Space.octets_out" (fM 138 16) "quic.spaces" 1459 958
def qQ := hTu 1625 ["self"]
def CA := hF0 "sent_rows" "Space.sent_rows" (fM 138 17)
def qP := hCo "sent_rows" "Space.sent_rows" 1622 693 1 3 960 1626
def qO := hFn "sent_rows" "Space.sent_rows" (fM 138 17) "quic.spaces" 1459 965
def qN := hTu 1632 ["self"]
def Cz := hF0 "forget" "Space.forget" (fM 138 18)
def qK := hCo "forget" "Space.forget" 1629 696 1 3 967 1633
def qJ := hFn "forget" "Space.forget" (fM 138 18) "quic.spaces" 1459 972
def qI := hTu 1636 ["acked", "ecn", "first_unacked", "floor", "has_new", "is_gone", "largest_acked", "largest_seen", "largest_time", "last_eliciting_time", "loss_time", "name", "next_number", "received", "sent", "unacked", "wants_now"]
def qH (P : Params) := hD 4 [en P "__module__" 1478 (.str "quic.spaces" 1459), en P "__firstlineno__" 1482 (.int 605 1481), hEr P "__init__" 1490 849, hEr P "is_known" 1498 856, hEr P "on_received" 1511 863, hEr P "ack_frame" 1522 870, hEr P "on_ack_sent" 1529 877, hEr P "owes_ack" 1536 884, hEr P "take_number" 1543 891, hEr P "on_sent" 1554 898, hEr P "take" 1560 903, hEr P "acked_by" 1568 910, hEr P "note_acked" 1576 917, hEr P "note_ranges" 1584 924, hEr P "is_beyond" 1592 931, hEr P "note_largest" 1600 938, hEr P "eliciting_left" 1607 945, hEr P "bare_numbers" 1614 952, hEr P "octets_out" 1621 959, hEr P "sent_rows" 1628 966, hEr P "forget" 1635 973, hEr P "__static_attributes__" 1653 974, hEr P "__dict__" 1655 977, hEr P "__weakref__" 1657 978, en P "__doc__" 1658 .none]
noncomputable def qG : Obj := ⟨.type "type", none, .cls { name := "Space", bases := [.type "object"], mro := [.ref 976, .type "object"], ns := 975, qualname := "Space", hasDict := true, abstract := false, collection := none, hasDel := false }, #[none, none, (some (.str "Space" 1471)), (some (.str "Space" 1479)), (some (.builtin "object.__new__")), (some (.bool true))]⟩
def qF := hO (.type "getset_descriptor") (.fields #[.str "__dict__" 1654, .ref 976, .builtin "function.__dict__", .builtin "function.__dict__#set"])
def qE := hO (.type "getset_descriptor") (.fields #[.str "__weakref__" 1656, .ref 976, .builtin "ExceptionGroup.__weakref__", .none])
def Cy := hO (.type "super") (.fields #[.ref 976, .ref 976, .ref 976])
def Cw := hO (.type "builtin_function_or_method") (.fields #[.builtin "object.__init_subclass__", .ref 976])
def T16 (P : Params) : BT := ups (T15 P) <| hL 3 [o527 P] <| hL 12 [CX] <| hL 836 [o0, o12, CW P, o0, CV, CU, CT, o0, o1, sh, o0, CS, sg, sf, o0, o1, se, o0, CR, sd, sb, o0, o1, rZ, o0, CQ, rY, rX, o0, o1, rW, o0, CP, rV, rU, o0, o1, rT, o0, CO, rS, rR, o0, o1, rQ, o0, CN, rP, rO, o0, o1, rN, o0, CM, rM, rL, o0, o1, rK, o0] <| hL 896 [CL, rJ, rI, o0, o1, CK, rH, rG, o0, o1, rF, o0, CJ, rE, rD, o0, o1, rC, o0, CI, rB, rA, o0, o1, rz, o0, CH, rt, rq, o0, o1, rp, o0, CG, rm, rl, o0, o1, rk, o0, CE, rj, rg, o0, o1, rb, o0, CD, qZ, qY, o0, o1, qX, o0, CC, qW, qV, o0, o1, qU] <| hL 956 [o0, CB, qS, qR, o0, o1, qQ, o0, CA, qP, qO, o0, o1, qN, o0, Cz, qK, qJ, qI, qH P, qG, qF, qE, Cy, Cw] <| []
def S16 (w : World) (os : OsState) : SharedT := ⟨T16 w.params, 981, {}, #[], {}, 1661, os⟩
def r615 (P : Params) : List DictEntry := AI P ++ [hEr P "Space" 1660 976, hEr P "kept_ranges" 1667 987, hEr P "_law_take" 1677 994, hEr P "_law_state" 1683 999, hEr P "_law_octets" 1690 1006, hEr P "_law_size" 1696 1011, hEr P "_law_cut" 1702 1016, hEr P "_law_fill" 1724 1023, hEr P "law" 1752 1030]
def qD (P : Params) := hD 137 (en P "__name__" 165 (.str "law_rg0261_01" 1668) :: r615 P)
def Cv := B9 (CX) [.int 698 0, .int 0 0, .ref 986, .int 703 0, .int 0 0, .ref 993, .int 708 0, .int 0 0, .ref 998, .int 723 0, .int 0 0, .ref 1005, .int 725 0, .int 0 0, .ref 1010, .int 731 0, .int 0 0, .ref 1015, .int 734 0, .int 0 0, .ref 1022, .int 748 0, .int 0 0, .ref 1029]
def qC := hTu 1664 ["ranges"]
def Cu := hF0 "kept_ranges" "kept_ranges" (fT 139)
def qB := hCo "kept_ranges" "kept_ranges" 1661 698 1 3 981 1665
def qA := hFn "kept_ranges" "kept_ranges" (fT 139) "quic.spaces" 1459 986
def qz := hTu 1673 ["box", "many"]
def Ct := hF0 "_law_take" "_law_take" (fT 141)
def qy := hCo "_law_take" "_law_take" 1670 703 2 3 988 1675
def qx := hFn "_law_take" "_law_take" (fT 141) "law_rg0261_01" 1668 993
def Cs := hF0 "_law_state" "_law_state" (fT 142)
def qw := hO (.type "code") (.fields #[.str "_law_state" 1678, .str "_law_state" 1679, .str "/claim/cut.py" 1680, .int 708 0, .int 2 0, .int 0 0, .int 0 0, .int 3 0, .ref 995, .bool true, .int 181 0, .ref 996, .none, .none, .none, .ref 997, .int 1681 0, .int 708 0, .str "/claim/cut.py" 1682])
def qu := hFn "_law_state" "_law_state" (fT 142) "law_rg0261_01" 1668 998
def qt := hTu 1687 ["number"]
def Cr := hF0 "_law_octets" "_law_octets" (fT 143)
def qs := hCo "_law_octets" "_law_octets" 1684 723 1 3 1000 1688
def qr := hFn "_law_octets" "_law_octets" (fT 143) "law_rg0261_01" 1668 1005
def Cq := hF0 "_law_size" "_law_size" (fT 144)
def qq := hO (.type "code") (.fields #[.str "_law_size" 1691, .str "_law_size" 1692, .str "/claim/cut.py" 1693, .int 725 0, .int 3 0, .int 0 0, .int 0 0, .int 3 0, .ref 1007, .bool true, .int 181 0, .ref 1008, .none, .none, .none, .ref 1009, .int 1694 0, .int 725 0, .str "/claim/cut.py" 1695])
def qp := hFn "_law_size" "_law_size" (fT 144) "law_rg0261_01" 1668 1010
def Cp := hF0 "_law_cut" "_law_cut" (fT 145)
def qo := hO (.type "code") (.fields #[.str "_law_cut" 1697, .str "_law_cut" 1698, .str "/claim/cut.py" 1699, .int 731 0, .int 4 0, .int 0 0, .int 0 0, .int 3 0, .ref 1012, .bool true, .int 181 0, .ref 1013, .none, .none, .none, .ref 1014, .int 1700 0, .int 731 0, .str "/claim/cut.py" 1701])
def qn := hFn "_law_cut" "_law_cut" (fT 145) "law_rg0261_01" 1668 1015
def qm := hTu 1706 ["box", "place", "number", "now", "ranges", "marks", "asked", "first", "at_once", "turn", "step", "kind", "asks", "mark", "is_gap", "spot"]
def Cn := hF0 "_law_fill" "_law_fill" (fT 146)
def ql := hCo "_law_fill" "_law_fill" 1703 734 2 3 1017 1722
def qk := hFn "_law_fill" "_law_fill" (fT 146) "law_rg0261_01" 1668 1022
def qj := hTu 1728 ["script", "box", "datagram", "came", "conn", "has_second", "ranges", "marks", "last", "first", "at_once", "room", "size", "left", "times", "due", "rest", "now", "delay", "told", "frames", "second"]
def Ck := hF0 "law" "law" (fT 147)
def qi := hCo "law" "law" 1725 748 1 3 1024 1750
def qh := hFn "law" "law" (fT 147) "law_rg0261_01" 1668 1029
def T17 (P : Params) : BT := ups (T16 P) <| hL 3 [qD P] <| hL 12 [Cv] <| hL 981 [o0, o1, qC, o0, Cu, qB, qA, o0, o1, qz, o0, Ct, qy, qx, o0, o1, Cs, qw, qu, o0, o1, qt, o0, Cr, qs, qr, o0, o1, Cq, qq, qp, o0, o1, Cp, qo, qn, o0, o1, qm, o0, Cn, ql, qk, o0, o1, qj, o0, Ck, qi, qh] <| []
def S17 (w : World) (os : OsState) : SharedT := ⟨T17 w.params, 1031, {}, #[], {}, 1753, os⟩
noncomputable def Jo : Value := .ref 13
noncomputable def w4 : Env := { scope := prg.main.scope, locals := mainNs, globals := mainNs, cells := [], code := Jo, frame := some 14 }
noncomputable abbrev cdM : Code := .body (behindTheImports prg) w4
noncomputable def qM : Pos := ⟨0, 0, 0, 0⟩
noncomputable def r0 : Option Value := some (.ref 6)
def st0 : List Stmt := (behindTheImports prg).drop 0 |>.take 4
theorem pc0 (w : World) (os : OsState) : segRunT treeTable prg w 11 r0 1 280 (S0 w os) (piecesOf st0 w4 cdM ⟨0, 0, 0, 0⟩ [topFrame qM]) = some (.next, S1 w os, cdM, ⟨6, 0, 12, 24⟩) := by rw [PySem.W.Fast.te10110043849684766642, PySem.W.Fast.te14364793385576792824]; kernel_rfl
def st1 : List Stmt := (behindTheImports prg).drop 4 |>.take 8
theorem pc1 (w : World) (os : OsState) : segRunT treeTable prg w 11 r0 1 388 (S1 w os) (piecesOf st1 w4 cdM ⟨6, 0, 12, 24⟩ [topFrame qM]) = some (.next, S2 w os, cdM, ⟨41, 0, 47, 36⟩) := by rw [PySem.W.Fast.te10110043849684766642, PySem.W.Fast.te14364793385576792824]; kernel_rfl
def st2 : List Stmt := (behindTheImports prg).drop 12 |>.take 17
theorem pc2 (w : World) (os : OsState) : segRunT treeTable prg w 11 r0 1 393 (S2 w os) (piecesOf st2 w4 cdM ⟨41, 0, 47, 36⟩ [topFrame qM]) = some (.next, S3 w os, cdM, ⟨97, 0, 98, 34⟩) := by rw [PySem.W.Fast.te10110043849684766642, PySem.W.Fast.te14364793385576792824]; kernel_rfl
def st3 : List Stmt := (behindTheImports prg).drop 29 |>.take 31
theorem pc3 (w : World) (os : OsState) : segRunT treeTable prg w 11 r0 1 393 (S3 w os) (piecesOf st3 w4 cdM ⟨97, 0, 98, 34⟩ [topFrame qM]) = some (.next, S4 w os, cdM, ⟨142, 0, 142, 17⟩) := by rw [PySem.W.Fast.te10110043849684766642, PySem.W.Fast.te14364793385576792824]; kernel_rfl
def st4 : List Stmt := (behindTheImports prg).drop 60 |>.take 12
theorem pc4 (w : World) (os : OsState) : segRunT treeTable prg w 11 r0 1 397 (S4 w os) (piecesOf st4 w4 cdM ⟨142, 0, 142, 17⟩ [topFrame qM]) = some (.next, S5 w os, cdM, ⟨170, 0, 172, 101⟩) :=
 byRow2 "special-get-raises" (P := fun w => segRunT treeTable prg w 11 r0 1 397 (S4 w os) (piecesOf st4 w4 cdM ⟨142, 0, 142, 17⟩ [topFrame qM]) = some (.next, S5 w os, cdM, ⟨170, 0, 172, 101⟩)) (fun w => by rw [PySem.W.Fast.te10110043849684766642, PySem.W.Fast.te14364793385576792824]; kernel_rfl) (fun w => by rw [PySem.W.Fast.te10110043849684766642, PySem.W.Fast.te14364793385576792824]; kernel_rfl) w
def st5 : List Stmt := (behindTheImports prg).drop 72 |>.take 14
theorem pc5 (w : World) (os : OsState) : segRunT treeTable prg w 11 r0 1 376 (S5 w os) (piecesOf st5 w4 cdM ⟨170, 0, 172, 101⟩ [topFrame qM]) = some (.next, S6 w os, cdM, ⟨250, 0, 255, 16⟩) := by rw [PySem.W.Fast.te10110043849684766642, PySem.W.Fast.te14364793385576792824]; kernel_rfl
def st6 : List Stmt := (behindTheImports prg).drop 86 |>.take 15
theorem pc6 (w : World) (os : OsState) : segRunT treeTable prg w 11 r0 1 380 (S6 w os) (piecesOf st6 w4 cdM ⟨250, 0, 255, 16⟩ [topFrame qM]) = some (.next, S7 w os, cdM, ⟨292, 0, 300, 16⟩) := by rw [PySem.W.Fast.te10110043849684766642, PySem.W.Fast.te14364793385576792824]; kernel_rfl
def st7 : List Stmt := (behindTheImports prg).drop 101 |>.take 12
theorem pc7 (w : World) (os : OsState) : segRunT treeTable prg w 11 r0 1 333 (S7 w os) (piecesOf st7 w4 cdM ⟨292, 0, 300, 16⟩ [topFrame qM]) = some (.next, S8 w os, cdM, ⟨389, 0, 389, 8⟩) := by rw [PySem.W.Fast.te10110043849684766642, PySem.W.Fast.te14364793385576792824]; kernel_rfl
def st8 : List Stmt := (behindTheImports prg).drop 113 |>.take 2
theorem pc8 (w : World) (os : OsState) : segRunT treeTable prg w 11 r0 1 395 (S8 w os) (piecesOf st8 w4 cdM ⟨389, 0, 389, 8⟩ [topFrame qM]) = some (.next, S9 w os, cdM, ⟨416, 0, 416, 8⟩) := by rw [PySem.W.Fast.te10110043849684766642, PySem.W.Fast.te14364793385576792824]; kernel_rfl
def st9 : List Stmt := (behindTheImports prg).drop 115 |>.take 4
theorem pc9 (w : World) (os : OsState) : segRunT treeTable prg w 11 r0 1 57 (S9 w os) (piecesOf st9 w4 cdM ⟨416, 0, 416, 8⟩ [topFrame qM]) = some (.next, S10 w os, cdM, ⟨420, 0, 421, 89⟩) := by rw [PySem.W.Fast.te10110043849684766642, PySem.W.Fast.te14364793385576792824]; kernel_rfl
def AC : List Stmt := (behindTheImports prg).drop 119 |>.take 1
theorem pc10 (w : World) (os : OsState) : segRunT treeTable prg w 11 r0 1 553 (S10 w os) (piecesOf AC w4 cdM ⟨420, 0, 421, 89⟩ [topFrame qM]) = some (.next, S11 w os, cdM, ⟨422, 0, 460, 17⟩) := by rw [PySem.W.Fast.te10110043849684766642, PySem.W.Fast.te14364793385576792824]; kernel_rfl
def AB : List Stmt := (behindTheImports prg).drop 120 |>.take 6
theorem pc11 (w : World) (os : OsState) : segRunT treeTable prg w 11 r0 1 55 (S11 w os) (piecesOf AB w4 cdM ⟨422, 0, 460, 17⟩ [topFrame qM]) = some (.next, S12 w os, cdM, ⟨466, 0, 466, 11⟩) := by rw [PySem.W.Fast.te10110043849684766642, PySem.W.Fast.te14364793385576792824]; kernel_rfl
def AA : List Stmt := (behindTheImports prg).drop 126 |>.take 1
theorem pc12 (w : World) (os : OsState) : segRunT treeTable prg w 11 r0 1 517 (S12 w os) (piecesOf AA w4 cdM ⟨466, 0, 466, 11⟩ [topFrame qM]) = some (.next, S13 w os, cdM, ⟨467, 0, 515, 17⟩) := by rw [PySem.W.Fast.te10110043849684766642, PySem.W.Fast.te14364793385576792824]; kernel_rfl
def Az : List Stmt := (behindTheImports prg).drop 127 |>.take 1
theorem pc13 (w : World) (os : OsState) : segRunT treeTable prg w 11 r0 1 684 (S13 w os) (piecesOf Az w4 cdM ⟨467, 0, 515, 17⟩ [topFrame qM]) = some (.next, S14 w os, cdM, ⟨516, 0, 579, 17⟩) := by rw [PySem.W.Fast.te10110043849684766642, PySem.W.Fast.te14364793385576792824]; kernel_rfl
def Ay : List Stmt := (behindTheImports prg).drop 128 |>.take 10
theorem pc14 (w : World) (os : OsState) : segRunT treeTable prg w 11 r0 1 179 (S14 w os) (piecesOf Ay w4 cdM ⟨516, 0, 579, 17⟩ [topFrame qM]) = some (.next, S15 w os, cdM, ⟨604, 0, 604, 10⟩) := by rw [PySem.W.Fast.te10110043849684766642, PySem.W.Fast.te14364793385576792824]; kernel_rfl
def Ax : List Stmt := (behindTheImports prg).drop 138 |>.take 1
theorem pc15 (w : World) (os : OsState) : segRunT treeTable prg w 11 r0 1 814 (S15 w os) (piecesOf Ax w4 cdM ⟨604, 0, 604, 10⟩ [topFrame qM]) = some (.next, S16 w os, cdM, ⟨605, 0, 697, 17⟩) := by rw [PySem.W.Fast.te10110043849684766642, PySem.W.Fast.te14364793385576792824]; kernel_rfl
def Aw : List Stmt := (behindTheImports prg).drop 139 |>.take 9
theorem pc16 (w : World) (os : OsState) : segRunT treeTable prg w 11 r0 1 270 (S16 w os) (piecesOf Aw w4 cdM ⟨605, 0, 697, 17⟩ [topFrame qM]) = some (.next, S17 w os, cdM, ⟨748, 0, 776, 15⟩) := by rw [PySem.W.Fast.te10110043849684766642, PySem.W.Fast.te14364793385576792824]; kernel_rfl
noncomputable def oP (P : Params) : List Obj := [boot_o_0 P, boot_o_1 P, o27 P, qD P, boot_o_4 P, boot_o_5 P, boot_o_6 P, boot_o_7 P, boot_o_8 P, boot_o_9 P, boot_o_10 P, o0, Cv, o2, o3, o0, o1, o7, o0, o8, o9, o10, o11, o12, o13 P, o0, o14, o15, o16, o0, o1, o17, o0, o18, o19, o20, o21, o22 P, o23, o24, o25, o26, o11, o12, o30 P, o0, o31, o32, o33, o0, o1, o34, o0, o35, o36, o37, o38, o39 P, o40, o41, o42, o43, o44, o0, o1, o45, o0, o46, o47, o48, o0, o1, o49, o0, o50, o51, o52, o0, o1, o53, o0, o54, o55, o56, o0, o1, o57, o0, o58, o59, o60, o0, o1, o63, o0, o64, o65, o66, o67, o0, o1, o68, o0, o69, o70, o71, o0, o1, o72, o0, o73, o74, o75, o0, o1, o76, o0, o77, o78, o79, o0, o1, o80, o0, o81, o82, o83, o0, o1, o84, o0, o85, o86, o87, o0, o1, o88, o0, o89, o90, o91, o0, o1, o92, o0, o93, o94, o95, o0, o1, o96, o0, o97, o98, o99, o0, o1, yB, o0, FH, yA, yz, o0, o1, yy, o0, FE, yx, yw, o0, o1, yv, o0, FD, yu, yt, o0, o1, yr, o0, FC, yq, yp, yo, o0, o1, yn, o0, FB, ym, yl, o0, o1, FA, yk, yj, yi P, o0, o1, Fx, yh, yg, o0, o1, yf, o0, Fw, ye, yd, o0, o1, yc, o0, Fv, yb, ya, o0, o1, xZ, o0, Fu, xY, xX, o0, o1, xW, o0, Ft, xV, xU, o0, o1, xT, o0, Fs, xS, xR, o0, o1, xQ, o0, Fp, xP, xO, o0, o1, xN, o0, Fo, xM, xL, o0, o1, xK, o0, Fm, xJ, xI, o0, o1, xH, o0, Fk, xG, xF, o0, o1, xE, o0, Fj, xD, xC, xB, o0, o1, xA, o0, Fi, xz, xy, o0, o1, xx, o0, Fh, xw, xv, o0, o1, xu, o0, Fg, xt, xr, o0, o1, xq, o0, Ff, xp, xo, o0, o1, xn, o0, Fe, xm, xl, o0, o1, xk, o0, Fd, xj, xi, o0, o1, xh, o0, Fb, xg, xf, o0, o1, xe, o0, Fa, xd, xc, o0, o1, EZ, xb, xa, o0, o1, wZ, o0, EY, wY, wX, o0, o1, wW, o0, EX, wV, wU, o0, o1, wT, o0, EW, wS, wR, o0, o1, wQ, o0, EV, wP, wO, o0, o1, wN, o0, EU, wM, wL, o0, o1, ET, wK, wJ, o0, o1, wI, o0, ES, wH, wG, o0, o1, wF, o0, ER, wE, wD, o0, o1, wC, o0, EP, wB, wA, o0, o1, EO, wz, wy, o0, o1, EN, wx, ww, o0, o1, wv, o0, EM, wu, wt, o0, o1, ws, o0, EL, wr, wq, o0, o1, EK, wo, wm, o0, o1, wl, o0, EJ, wk, wj, o0, o1, wi, o0, EI, wh, wg, o0, o1, wf, o0, EH, wd, wc, o0, o1, wb, o0, EG, wa, vZ, o0, o12, ED P, o0, EC, EB, EA, o0, o1, vY, o0, Ez, vX, vW, o0, o1, vV, o0, Ey, vU, vT, o0, o1, vS, o0, Ew, vR, vQ, o0, o1, vP, o0, Eu, vO, vN, o0, o1, vM, o0, Et, vL, vK, o0, o1, vJ, o0, Er, vI, vH, vG, vF P, vE, vD, vC, Ep, Eo, o0, o1, vB, o0, El, vA, vz, o0, o12, Ej P, o0, Ei, Eh, Eg, o0, o1, vy, o0, Ef, vx, vw, o0, o1, vv, o0, Ee, vt, vr, o0, o1, vq, o0, Ed, vp, vo, o0, o1, vn, o0, Ec, vm, vk, o0, o1, vj, o0, Eb, vi, vh, o0, o1, vf, o0, Ea, ve, vd, o0, o1, vc, o0, DZ, vb, va, o0, o1, uZ, o0, DY, uY, uX, o0, o1, uW, o0, DX, uV, uU, o0, o1, uT, o0, DW, uS, uR, o0, o1, uQ, o0, DV, uP, uO, uN, uM P, uL, uK, uJ, DU, DT, o0, o12, DP P, o0, DO, DN, DM, o0, o1, uI, o0, DL, uH, uG, o0, o1, uF, o0, DK, uE, uD, o0, o1, uC, o0, DJ, uB, uA, o0, o1, uz, o0, DI, uy, ux, o0, o1, uw, o0, DH, uu, ut, o0, o1, ur, o0, DG, uq, uo, o0, o1, um, o0, DF, ul, uj, o0, o1, ui, o0, DE, uh, ug, o0, o1, ue, o0, DD, ud, uc, o0, o1, ub, o0, DC, ua, tZ, tY, tX P, tW, tV, tU, DB, DA, o0, o12, Dy P, o0, Dx, Dw, Dv, o0, o1, tT, o0, Du, tS, tR, o0, o1, tQ, o0, Dt, tP, tO, o0, o1, tN, o0, Ds, tM, tL, o0, o1, tK, o0, Dr, tJ, tH, o0, o1, tG, o0, Dq, tF, tB, o0, o1, tA, o0, Dp, tz, ty, o0, o1, tx, o0, Do, tw, tu, o0, o1, tm, o0, Dn, tj, tf, o0, o1, td, o0, Dm, tc, tb, o0, o1, sZ, o0, Dl, sY, sX, o0, o1, sW, o0, Dk, sV, sU, o0, o1, sT, o0, Dj, sS, sR, o0, o1, sQ, o0, Di, sO, sM, o0, o1, sL, o0, Dh, sK, sJ, o0, o1, sI, o0, Dg, sH, sG, sF, sD P, sC, sB, sA, Df, De, o0, o1, sz, o0, Db, sy, sx, o0, o1, sw, o0, Da, sv, su, o0, o1, sr, o0, CZ, sq, sn, o0, o1, CY, sk, sj, si, o0, o12, CW P, o0, CV, CU, CT, o0, o1, sh, o0, CS, sg, sf, o0, o1, se, o0, CR, sd, sb, o0, o1, rZ, o0, CQ, rY, rX, o0, o1, rW, o0, CP, rV, rU, o0, o1, rT, o0, CO, rS, rR, o0, o1, rQ, o0, CN, rP, rO, o0, o1, rN, o0, CM, rM, rL, o0, o1, rK, o0, CL, rJ, rI, o0, o1, CK, rH, rG, o0, o1, rF, o0, CJ, rE, rD, o0, o1, rC, o0, CI, rB, rA, o0, o1, rz, o0, CH, rt, rq, o0, o1, rp, o0, CG, rm, rl, o0, o1, rk, o0, CE, rj, rg, o0, o1, rb, o0, CD, qZ, qY, o0, o1, qX, o0, CC, qW, qV, o0, o1, qU, o0, CB, qS, qR, o0, o1, qQ, o0, CA, qP, qO, o0, o1, qN, o0, Cz, qK, qJ, qI, qH P, qG, qF, qE, Cy, Cw, o0, o1, qC, o0, Cu, qB, qA, o0, o1, qz, o0, Ct, qy, qx, o0, o1, Cs, qw, qu, o0, o1, qt, o0, Cr, qs, qr, o0, o1, Cq, qq, qp, o0, o1, Cp, qo, qn, o0, o1, qm, o0, Cn, ql, qk, o0, o1, qj, o0, Ck, qi, qh]
noncomputable def z5 : List Str := List.map Str.ofString ["_wall", "INTERNAL_ERROR", "QuicError", "PacketRefused", "VARINT_SIZES", "put_whole", "varint_size", "put_varint", "gaps_of", "fitting", "LONG_KINDS", "put_ids", "long_first", "long_head", "MOST_OCTETS", "number_size", "cut_number", "TAG_SIZE", "padded_payload", "short_head", "head_of", "number_in", "packet_size", "LEAST_PAYLOAD", "packet_with", "head_octets", "NOT_ELICITING", "is_eliciting", "any_eliciting", "PING", "ACK", "ACK_ECN", "RESET_STREAM", "STOP_SENDING", "CRYPTO", "NEW_TOKEN", "STREAM", "MAX_DATA", "MAX_STREAM_DATA", "MAX_STREAMS_BIDI", "MAX_STREAMS_UNI", "DATA_BLOCKED", "STREAM_DATA_BLOCKED", "STREAMS_BLOCKED_BIDI", "STREAMS_BLOCKED_UNI", "NEW_CONNECTION_ID", "RETIRE_CONNECTION_ID", "PATH_CHALLENGE", "PATH_RESPONSE", "CLOSE", "CLOSE_APPLICATION", "HANDSHAKE_DONE", "BIT_FIN", "BIT_LENGTH", "BIT_OFFSET", "NUMBER_FRAMES", "put_numbers", "put_counted", "ack_numbers", "put_ack", "put_stream", "put_new_cid", "put_close", "put_octets_frame", "put_frame", "frame_size", "crypto_room", "DATA_KINDS", "data_of", "with_data", "data_room", "cut_frame", "filled", "earliest", "ack_due", "LEAST_ROOM", "GREATEST_DELAY", "PATH_FRAME_SIZE", "ids_of", "places_of", "head_room", "ack_time", "wants_ack", "datagram_size", "has_ack_room", "next_ack_time", "cut_ack", "crypto_frames", "path_frames", "path_room", "app_frames", "may_carry", "may_try", "frames_beside", "frames_for", "add_span", "cut_span", "first_span", "CryptoOut", "INITIAL_PACKETS", "INITIAL_OCTETS", "LEAST_PACKETS", "initial_window", "NewReno", "TIMES_RECEIVED", "PATH_UNPROVEN", "PATH_TRYING", "PATH_PROVEN", "PATH_FAILED", "Path", "Paths", "add_number", "add_range", "ack_of", "prune", "MOST_RANGES", "KEPT_RANGES", "ACK_EACH", "ECN_PLACES", "Space", "kept_ranges", "_law_take", "_law_state", "_law_octets", "_law_size", "_law_cut", "_law_fill"]
noncomputable def K (P : Params) : Frag := hL 2 [o27 P, qD P] <| hL 15 [o0] <| hL 17 [o7, o0] <| hL 20 [o9, o10, o11] <| hL 29 [o0] <| hL 31 [o17, o0] <| hL 34 [o19, o20, o21, o22 P, o23, o24] <| hL 42 [o11] <| hL 49 [o0] <| hL 51 [o34, o0] <| hL 54 [o36, o37, o38, o39 P, o40, o41] <| hL 62 [o44, o0] <| hL 65 [o45, o0] <| hL 68 [o47, o48, o0] <| hL 72 [o49, o0] <| hL 75 [o51, o52, o0] <| hL 79 [o53, o0] <| hL 82 [o55, o56, o0] <| hL 86 [o57, o0] <| hL 89 [o59, o60, o0] <| hL 93 [o63, o0] <| hL 96 [o65, o66, o67, o0] <| hL 101 [o68, o0] <| hL 104 [o70, o71, o0] <| hL 108 [o72, o0] <| hL 111 [o74, o75, o0] <| hL 115 [o76, o0] <| hL 118 [o78, o79, o0] <| hL 122 [o80, o0] <| hL 125 [o82, o83, o0] <| hL 129 [o84, o0] <| hL 132 [o86, o87, o0] <| hL 136 [o88, o0] <| hL 139 [o90, o91, o0] <| hL 143 [o92, o0] <| hL 146 [o94, o95, o0] <| hL 150 [o96, o0] <| hL 153 [o98, o99, o0] <| hL 157 [yB, o0] <| hL 160 [yA, yz, o0] <| hL 164 [yy, o0] <| hL 167 [yx, yw, o0] <| hL 171 [yv, o0] <| hL 174 [yu, yt, o0] <| hL 178 [yr, o0] <| hL 181 [yq, yp, yo, o0] <| hL 186 [yn, o0] <| hL 189 [ym, yl, o0] <| hL 194 [yk, yj, yi P, o0] <| hL 200 [yh, yg, o0] <| hL 204 [yf, o0] <| hL 207 [ye, yd, o0] <| hL 211 [yc, o0] <| hL 214 [yb, ya, o0] <| hL 218 [xZ, o0] <| hL 221 [xY, xX, o0] <| hL 225 [xW, o0] <| hL 228 [xV, xU, o0] <| hL 232 [xT, o0] <| hL 235 [xS, xR, o0] <| hL 239 [xQ, o0] <| hL 242 [xP, xO, o0] <| hL 246 [xN, o0] <| hL 249 [xM, xL, o0] <| hL 253 [xK, o0] <| hL 256 [xJ, xI, o0] <| hL 260 [xH, o0] <| hL 263 [xG, xF, o0] <| hL 267 [xE, o0] <| hL 270 [xD, xC, xB, o0] <| hL 275 [xA, o0] <| hL 278 [xz, xy, o0] <| hL 282 [xx, o0] <| hL 285 [xw, xv, o0] <| hL 289 [xu, o0] <| hL 292 [xt, xr, o0] <| hL 296 [xq, o0] <| hL 299 [xp, xo, o0] <| hL 303 [xn, o0] <| hL 306 [xm, xl, o0] <| hL 310 [xk, o0] <| hL 313 [xj, xi, o0] <| hL 317 [xh, o0] <| hL 320 [xg, xf, o0] <| hL 324 [xe, o0] <| hL 327 [xd, xc, o0] <| hL 332 [xb, xa, o0] <| hL 336 [wZ, o0] <| hL 339 [wY, wX, o0] <| hL 343 [wW, o0] <| hL 346 [wV, wU, o0] <| hL 350 [wT, o0] <| hL 353 [wS, wR, o0] <| hL 357 [wQ, o0] <| hL 360 [wP, wO, o0] <| hL 364 [wN, o0] <| hL 367 [wM, wL, o0] <| hL 372 [wK, wJ, o0] <| hL 376 [wI, o0] <| hL 379 [wH, wG, o0] <| hL 383 [wF, o0] <| hL 386 [wE, wD, o0] <| hL 390 [wC, o0] <| hL 393 [wB, wA, o0] <| hL 398 [wz, wy, o0] <| hL 403 [wx, ww, o0] <| hL 407 [wv, o0] <| hL 410 [wu, wt, o0] <| hL 414 [ws, o0] <| hL 417 [wr, wq, o0] <| hL 422 [wo, wm, o0] <| hL 426 [wl, o0] <| hL 429 [wk, wj, o0] <| hL 433 [wi, o0] <| hL 436 [wh, wg, o0] <| hL 440 [wf, o0] <| hL 443 [wd, wc, o0] <| hL 447 [wb, o0] <| hL 450 [wa, vZ] <| hL 459 [o0] <| hL 461 [vY, o0] <| hL 464 [vX, vW, o0] <| hL 468 [vV, o0] <| hL 471 [vU, vT, o0] <| hL 475 [vS, o0] <| hL 478 [vR, vQ, o0] <| hL 482 [vP, o0] <| hL 485 [vO, vN, o0] <| hL 489 [vM, o0] <| hL 492 [vL, vK, o0] <| hL 496 [vJ, o0] <| hL 499 [vI, vH, vG, vF P, vE, vD, vC] <| hL 508 [o0] <| hL 510 [vB, o0] <| hL 513 [vA, vz] <| hL 522 [o0] <| hL 524 [vy, o0] <| hL 527 [vx, vw, o0] <| hL 531 [vv, o0] <| hL 534 [vt, vr, o0] <| hL 538 [vq, o0] <| hL 541 [vp, vo, o0] <| hL 545 [vn, o0] <| hL 548 [vm, vk, o0] <| hL 552 [vj, o0] <| hL 555 [vi, vh, o0] <| hL 559 [vf, o0] <| hL 562 [ve, vd, o0] <| hL 566 [vc, o0] <| hL 569 [vb, va, o0] <| hL 573 [uZ, o0] <| hL 576 [uY, uX, o0] <| hL 580 [uW, o0] <| hL 583 [uV, uU, o0] <| hL 587 [uT, o0] <| hL 590 [uS, uR, o0] <| hL 594 [uQ, o0] <| hL 597 [uP, uO, uN, uM P, uL, uK, uJ] <| hL 613 [o0] <| hL 615 [uI, o0] <| hL 618 [uH, uG, o0] <| hL 622 [uF, o0] <| hL 625 [uE, uD, o0] <| hL 629 [uC, o0] <| hL 632 [uB, uA, o0] <| hL 636 [uz, o0] <| hL 639 [uy, ux, o0] <| hL 643 [uw, o0] <| hL 646 [uu, ut, o0] <| hL 650 [ur, o0] <| hL 653 [uq, uo, o0] <| hL 657 [um, o0] <| hL 660 [ul, uj, o0] <| hL 664 [ui, o0] <| hL 667 [uh, ug, o0] <| hL 671 [ue, o0] <| hL 674 [ud, uc, o0] <| hL 678 [ub, o0] <| hL 681 [ua, tZ, tY, tX P, tW, tV, tU] <| hL 697 [o0] <| hL 699 [tT, o0] <| hL 702 [tS, tR, o0] <| hL 706 [tQ, o0] <| hL 709 [tP, tO, o0] <| hL 713 [tN, o0] <| hL 716 [tM, tL, o0] <| hL 720 [tK, o0] <| hL 723 [tJ, tH, o0] <| hL 727 [tG, o0] <| hL 730 [tF, tB, o0] <| hL 734 [tA, o0] <| hL 737 [tz, ty, o0] <| hL 741 [tx, o0] <| hL 744 [tw, tu, o0] <| hL 748 [tm, o0] <| hL 751 [tj, tf, o0] <| hL 755 [td, o0] <| hL 758 [tc, tb, o0] <| hL 762 [sZ, o0] <| hL 765 [sY, sX, o0] <| hL 769 [sW, o0] <| hL 772 [sV, sU, o0] <| hL 776 [sT, o0] <| hL 779 [sS, sR, o0] <| hL 783 [sQ, o0] <| hL 786 [sO, sM, o0] <| hL 790 [sL, o0] <| hL 793 [sK, sJ, o0] <| hL 797 [sI, o0] <| hL 800 [sH, sG, sF, sD P, sC, sB, sA] <| hL 809 [o0] <| hL 811 [sz, o0] <| hL 814 [sy, sx, o0] <| hL 818 [sw, o0] <| hL 821 [sv, su, o0] <| hL 825 [sr, o0] <| hL 828 [sq, sn, o0] <| hL 833 [sk, sj, si] <| hL 843 [o0] <| hL 845 [sh, o0] <| hL 848 [sg, sf, o0] <| hL 852 [se, o0] <| hL 855 [sd, sb, o0] <| hL 859 [rZ, o0] <| hL 862 [rY, rX, o0] <| hL 866 [rW, o0] <| hL 869 [rV, rU, o0] <| hL 873 [rT, o0] <| hL 876 [rS, rR, o0] <| hL 880 [rQ, o0] <| hL 883 [rP, rO, o0] <| hL 887 [rN, o0] <| hL 890 [rM, rL, o0] <| hL 894 [rK, o0] <| hL 897 [rJ, rI, o0] <| hL 902 [rH, rG, o0] <| hL 906 [rF, o0] <| hL 909 [rE, rD, o0] <| hL 913 [rC, o0] <| hL 916 [rB, rA, o0] <| hL 920 [rz, o0] <| hL 923 [rt, rq, o0] <| hL 927 [rp, o0] <| hL 930 [rm, rl, o0] <| hL 934 [rk, o0] <| hL 937 [rj, rg, o0] <| hL 941 [rb, o0] <| hL 944 [qZ, qY, o0] <| hL 948 [qX, o0] <| hL 951 [qW, qV, o0] <| hL 955 [qU, o0] <| hL 958 [qS, qR, o0] <| hL 962 [qQ, o0] <| hL 965 [qP, qO, o0] <| hL 969 [qN, o0] <| hL 972 [qK, qJ, qI, qH P, qG, qF, qE] <| hL 981 [o0] <| hL 983 [qC, o0] <| hL 986 [qB, qA, o0] <| hL 990 [qz, o0] <| hL 993 [qy, qx, o0] <| hL 998 [qw, qu, o0] <| hL 1002 [qt, o0] <| hL 1005 [qs, qr, o0] <| hL 1010 [qq, qp, o0] <| hL 1015 [qo, qn, o0] <| hL 1019 [qm, o0] <| hL 1022 [ql, qk, o0] <| hL 1026 [qj, o0] <| hL 1029 [qi, qh] <| []
theorem mc : behindTheImports prg = st0 ++ (st1 ++ (st2 ++ (st3 ++ (st4 ++ (st5 ++ (st6 ++ (st7 ++ (st8 ++ (st9 ++ (AC ++ (AB ++ (AA ++ (Az ++ (Ay ++ (Ax ++ (Aw ++ [])))))))))))))))) := by kernel_rfl
theorem pre0 (w : World) (os : OsState) : topGo treeTable prg w 11 r0 12 ⟨boot_heap w.params, Array.mk [], boot_drawn, boot_toks, os⟩ (topStub prg) = some ((S0 w os).abs, ⟨denote treeTable cdM, cdM, ⟨0, 0, 0, 0⟩, [topFrame qM]⟩) := by
 rw [PySem.W.Fast.te15667345088766844465, PySem.W.Fast.te14364793385576792824, PySem.W.Fast.te11892475500146522536]; kernel_rfl
theorem zY (w : World) (os : OsState) : segRun treeTable prg w 11 r0 1 1 (S0 w os).abs (blockOf (behindTheImports prg) w4 cdM ⟨0, 0, 0, 0⟩ [topFrame qM]) = some (.next, (S0 w os).abs, cdM, ⟨0, 0, 0, 0⟩) := by
 rw [PySem.W.Fast.te14374325043358763698, PySem.W.Fast.te14364793385576792824]; kernel_rfl
noncomputable def hpF (P : Params) : Heap := ⟨⟨oP P⟩, {}⟩
theorem fin0 (w : World) (os : OsState) : topRun treeTable prg w 11 r0 2 (S17 w os).abs ⟨doneF .next, cdM, ⟨748, 0, 776, 15⟩, [topFrame qM]⟩ = some ⟨hpF w.params, Array.mk [], boot_drawn, 1753, os⟩ := by
 rw [PySem.W.Fast.te14082659384304107361, PySem.W.Fast.te14364793385576792824]; kernel_rfl
theorem run0 (w : World) (os : OsState) : topRun treeTable prg w 11 r0 (12 + (1 + (280 + (388 + (393 + (393 + (397 + (376 + (380 + (333 + (395 + (57 + (553 + (55 + (517 + (684 + (179 + (814 + (270 + 2))))))))))))))))))) ⟨boot_heap w.params, Array.mk [], boot_drawn, boot_toks, os⟩ (topStub prg) = some ⟨hpF w.params, Array.mk [], boot_drawn, 1753, os⟩ := by
 refine go_top (pre0 w os) (piece_block (zY w os) ?_)
 rw [mc]
 exact piece_app (segRun_of (pc0 w os)) (piece_app (segRun_of (pc1 w os)) (piece_app (segRun_of (pc2 w os)) (piece_app (segRun_of (pc3 w os)) (piece_app (segRun_of (pc4 w os)) (piece_app (segRun_of (pc5 w os)) (piece_app (segRun_of (pc6 w os)) (piece_app (segRun_of (pc7 w os)) (piece_app (segRun_of (pc8 w os)) (piece_app (segRun_of (pc9 w os)) (piece_app (segRun_of (pc10 w os)) (piece_app (segRun_of (pc11 w os)) (piece_app (segRun_of (pc12 w os)) (piece_app (segRun_of (pc13 w os)) (piece_app (segRun_of (pc14 w os)) (piece_app (segRun_of (pc15 w os)) (piece_app (segRun_of (pc16 w os)) (piece_nil (fin0 w os))))))))))))))))))
theorem Ci : ∀ w : World, (fencedOpening treeTable prg w 20000).map (fun s => (s.heap, s.gens, s.drawn, s.toks)) = some (boot_heap w.params, Array.mk [], boot_drawn, boot_toks) :=
 boot_open (by kernel_rfl) (by decide +kernel) (fun s => by kernel_rfl)
theorem AD : ∀ w : World, ((boot_heap w.params).isNs mainGlobals && (Array.mk [] : Array GenState).size == 0, (boot_heap w.params).objs.size, (boot_heap w.params).nsMap mainGlobals "__annotations__") = (true, 11, r0) := fun w => by
 kernel_rfl
noncomputable def qv : Program := { prg with main := { prg.main with body := [fT 147] } }
theorem lk1 (w : World) (os : OsState) : (staticsOk (importedModules prg.main.body) (boot_heap w.params) (hpF w.params) && namesBound prg (hpF w.params) && gensDone ⟨hpF w.params, Array.mk [], boot_drawn, 1753, os⟩ && laidKept (boot_heap w.params) (hpF w.params)) = true := by
 rw [PySem.W.Fast.te5923862056798008813]; kernel_rfl
theorem lk2 (w : World) (os : OsState) : openSeen qv z5 (importedModules prg.main.body) (fun s => xlAt qv [] s && recOk (RowW.records PySem.Challenge.rw_rg0261_01.row.toRowW) s) true ⟨hpF w.params, Array.mk [], boot_drawn, 1753, os⟩ = openGood qv z5 := by
 rw [PySem.W.Fast.te4187177175401517315, PySem.W.Fast.te5923862056798008813]; kernel_rfl
noncomputable def Y9 : Nat -> List Obj -> List Nat -> List (Addr × Obj)
 | _, [], _ => []
 | _, _ :: _, [] => []
 | n, o :: os, a :: as => match Nat.beq n a with
  | true => (a, o) :: Y9 (n + 1) os as
  | false => Y9 (n + 1) os (a :: as)
theorem K7 : ∀ (os : List Obj) (n : Nat) (as : List Nat) (a : Nat) (o : Obj), (a, o) ∈ Y9 n os as -> n ≤ a ∧ os[a - n]? = some o
 | [], n, as, a, o, h => by cases as <;> simp [Y9] at h
 | x :: os, n, [], a, o, h => by simp [Y9] at h
 | x :: os, n, b :: as, a, o, h => by
  unfold Y9 at h
  cases q : Nat.beq n b with
  | true =>
   rw [q] at h
   have e := Nat.eq_of_beq_eq_true q
   rcases List.mem_cons.mp h with h | h
   · cases h; subst e; exact ⟨Nat.le_refl _, by simp⟩
   · obtain ⟨h1, h2⟩ := K7 os (n + 1) as a o h
     refine ⟨by omega, ?_⟩
     rw [show a - n = (a - (n + 1)) + 1 by omega]
     simpa using h2
  | false =>
   rw [q] at h
   obtain ⟨h1, h2⟩ := K7 os (n + 1) (b :: as) a o h
   refine ⟨by omega, ?_⟩
   rw [show a - n = (a - (n + 1)) + 1 by omega]
   simpa using h2
theorem Q0 {a : Nat} {o : Obj} : ∀ {l : List (Addr × Obj)}, l.lookup a = some o -> (a, o) ∈ l
 | [], h => by cases h
 | (b, x) :: r, h => by
  rw [List.lookup_cons] at h
  cases q : a == b with
  | true => rw [q] at h; cases h; rw [beq_iff_eq.mp q]; exact .head _
  | false => rw [q] at h; exact .tail _ (Q0 h)
noncomputable def K9 (o : Obj) : Bool := match o with | ⟨_, _, .freed, _⟩ => false | _ => true
theorem bp {K : Frag} {os : List Obj} {as : List Nat} {l : Life} (e : K = Y9 0 os as) (f : (K.all fun p => K9 p.2) = true) : K.In ⟨⟨os⟩, l⟩ := by
 intro a o h
 have hm := Q0 h
 have hf := List.all_eq_true.mp f _ hm
 rw [e] at hm
 have h2 := (K7 _ _ _ _ _ hm).2
 unfold Heap.get?
 have h3 : (⟨os⟩ : Array Obj)[a]? = some o := by simpa using h2
 show (match (⟨os⟩ : Array Obj)[a]? with | some ⟨_, _, .freed, _⟩ => none | o => o) = some o
 rw [h3]
 obtain ⟨c, d, dt, sl⟩ := o
 cases dt <;> first | rfl | (simp [K9] at hf)
theorem Gk (P : Params) : K P = Y9 0 (oP P) ((K P).map (·.1)) := by kernel_rfl
theorem Gl (P : Params) : ((K P).all fun p => K9 p.2) = true := by kernel_rfl
theorem kIn (P : Params) : (K P).In (hpF P) := bp (Gk P) (Gl P)
noncomputable abbrev rr : OpenLaw := PySem.Challenge.rw_rg0261_01
theorem sl1 : namesResolve prg = true := by rw [PySem.W.Fast.te8377067652309620493]; kernel_rfl
theorem sl2 : prg.boundNames.all (fun n => !worldNames.contains n) = true := by rw [PySem.W.Fast.te18344453789297297638, PySem.W.Fast.te14412699480532031325]; kernel_rfl
theorem sl3 : noRoadLSs { strict := !(importedModules prg.main.body).all cThrough.contains, foot := none, bare := (["vars", "dir", "locals"] : List Str).filter (readsOut prg prg.main.body) } prg.main.body = true := by rw [PySem.W.Fast.te8326940854005059898]; kernel_rfl
theorem sl4 : (namesMeet prg prg.main.body fun _ n => attrL n) = true := by rw [PySem.W.Fast.te17119622794617984870, PySem.W.Fast.te17868728402115742887]; kernel_rfl
theorem sl0 : looksOpen rr.row.prog = true := by
 show looksOpen prg = true
 unfold looksOpen
 refine look_both (look_both (look_both (look_both ?_ sl1) sl2) sl3) sl4
 kernel_rfl
theorem sl5 : OpenRow.wellSaid rr.row = true := by
 unfold OpenRow.wellSaid OpenRow.partSaid
 (repeat' with_reducible refine look_both ?_ ?_)
 all_goals first | with_reducible exact sl0 | kernel_rfl
theorem sl6 : namesMeet rr.prog rr.above (fun _ n => !rr.own.contains n) = true := by rw [PySem.W.Fast.te17119622794617984870]; kernel_rfl
theorem AF : rr.wellSaid = true := by
 unfold OpenLaw.wellSaid
 (repeat' with_reducible refine look_both ?_ ?_)
 all_goals first | with_reducible exact sl5 | with_reducible exact sl6 | kernel_rfl
noncomputable def fPos : Stmt -> Pos
 | .FunctionDef _ _ _ _ _ _ _ _ _ p => p
 | _ => ⟨0, 0, 0, 0⟩
noncomputable def ek : DefRec := ⟨"law", g7 (fT 147), d6 (fT 147), fSc (fT 147), fPos (fT 147)⟩
theorem Ge : LeftO prg qv z5 (fun s => xlAt qv [] s && recOk (RowW.records PySem.Challenge.rw_rg0261_01.row.toRowW) s) (fun s => s.heap) (fun w => hpF w.params) 20000 :=
 LeftO.of_pieces (H₀ := boot_heap) (H₁ := hpF) (gs₀ := Array.mk []) (gs₁ := Array.mk []) (d₀ := boot_drawn) (d₁ := boot_drawn) (k₀ := boot_toks) (k₁ := 1753) (m₀ := 11) (ann := r0)
  Ci AD run0 (by decide +kernel) (fun w => funext fun os => by rw [lk1, lk2])
end
abbrev FkT (P : Params) (a : Nat) (n q : Str) {A B C} (p : {x : Arguments // A = x}) (b : {x : List Stmt // B = x}) (s : {x : Scope // C = x}) (m : Str) (t r : Nat) : Prop := (K P).lookup a = some ⟨.type "function", none, .func (fnOf n q p.1 b.1 s.1 .none .none .none (.str m t) none (.ref r) .none), #[]⟩
abbrev Xq {α : Sort _} (a : α) := {x // a = x}
section
local macro_rules
 | `(tactic| trivial) => `(tactic| (refine' ⟨_, ?hq⟩; case hq => (conv => lhs; whnf)))
noncomputable abbrev pa69 : Xq (g7 (fT 7)) := by trivial
noncomputable abbrev zX : Xq (d6 (fT 7)) := by trivial
noncomputable abbrev pU : Xq (fSc (fT 7)) := by trivial
theorem fk69 (P : Params) : FkT P 69 "put_whole" "put_whole" pa69 zX pU "quic.varint" 260 68 := by kernel_rfl
noncomputable abbrev pa76 : Xq (g7 (fT 8)) := by trivial
noncomputable abbrev zW : Xq (d6 (fT 8)) := by trivial
noncomputable abbrev pT : Xq (fSc (fT 8)) := by trivial
theorem fk76 (P : Params) : FkT P 76 "varint_size" "varint_size" pa76 zW pT "quic.varint" 260 75 := by kernel_rfl
noncomputable abbrev pa83 : Xq (g7 (fT 9)) := by trivial
noncomputable abbrev zV : Xq (d6 (fT 9)) := by trivial
noncomputable abbrev pS : Xq (fSc (fT 9)) := by trivial
theorem fk83 (P : Params) : FkT P 83 "put_varint" "put_varint" pa83 zV pS "quic.varint" 260 82 := by kernel_rfl
noncomputable abbrev pa90 : Xq (g7 (fT 11)) := by trivial
noncomputable abbrev J2 : Xq (d6 (fT 11)) := by trivial
noncomputable abbrev fH : Xq (fSc (fT 11)) := by trivial
theorem fk90 (P : Params) : FkT P 90 "gaps_of" "gaps_of" pa90 J2 fH "quic.ackform" 294 89 := by kernel_rfl
noncomputable abbrev pa97 : Xq (g7 (fT 12)) := by trivial
noncomputable abbrev y5 : Xq (d6 (fT 12)) := by trivial
noncomputable abbrev fG : Xq (fSc (fT 12)) := by trivial
theorem fk97 (P : Params) : FkT P 97 "fitting" "fitting" pa97 y5 fG "quic.ackform" 294 96 := by kernel_rfl
noncomputable abbrev Cb : Xq (g7 (fT 15)) := by trivial
noncomputable abbrev kR : Xq (d6 (fT 15)) := by trivial
noncomputable abbrev gX : Xq (fSc (fT 15)) := by trivial
theorem Jl (P : Params) : FkT P 105 "put_ids" "put_ids" Cb kR gX "quic.longheads" 325 104 := by kernel_rfl
noncomputable abbrev Ca : Xq (g7 (fT 16)) := by trivial
noncomputable abbrev kQ : Xq (d6 (fT 16)) := by trivial
noncomputable abbrev gW : Xq (fSc (fT 16)) := by trivial
theorem Jk (P : Params) : FkT P 112 "long_first" "long_first" Ca kQ gW "quic.longheads" 325 111 := by kernel_rfl
noncomputable abbrev BZ : Xq (g7 (fT 17)) := by trivial
noncomputable abbrev kP : Xq (d6 (fT 17)) := by trivial
noncomputable abbrev gV : Xq (fSc (fT 17)) := by trivial
theorem Jj (P : Params) : FkT P 119 "long_head" "long_head" BZ kP gV "quic.longheads" 325 118 := by kernel_rfl
noncomputable abbrev BY : Xq (g7 (fT 20)) := by trivial
noncomputable abbrev kO : Xq (d6 (fT 20)) := by trivial
noncomputable abbrev gU : Xq (fSc (fT 20)) := by trivial
theorem Ji (P : Params) : FkT P 126 "number_size" "number_size" BY kO gU "quic.pnum" 362 125 := by kernel_rfl
noncomputable abbrev BX : Xq (g7 (fT 21)) := by trivial
noncomputable abbrev kL : Xq (d6 (fT 21)) := by trivial
noncomputable abbrev gT : Xq (fSc (fT 21)) := by trivial
theorem Jh (P : Params) : FkT P 133 "cut_number" "cut_number" BX kL gT "quic.pnum" 362 132 := by kernel_rfl
noncomputable abbrev BW : Xq (g7 (fT 24)) := by trivial
noncomputable abbrev kK : Xq (d6 (fT 24)) := by trivial
noncomputable abbrev gS : Xq (fSc (fT 24)) := by trivial
theorem Jg (P : Params) : FkT P 140 "padded_payload" "padded_payload" BW kK gS "quic.seal" 385 139 := by kernel_rfl
noncomputable abbrev BV : Xq (g7 (fT 26)) := by trivial
noncomputable abbrev kJ : Xq (d6 (fT 26)) := by trivial
noncomputable abbrev gR : Xq (fSc (fT 26)) := by trivial
theorem Jf (P : Params) : FkT P 147 "short_head" "short_head" BV kJ gR "quic.shorthead" 398 146 := by kernel_rfl
noncomputable abbrev BU : Xq (g7 (fT 27)) := by trivial
noncomputable abbrev kI : Xq (d6 (fT 27)) := by trivial
noncomputable abbrev gQ : Xq (fSc (fT 27)) := by trivial
theorem Je (P : Params) : FkT P 154 "head_of" "head_of" BU kI gQ "quic.shorthead" 398 153 := by kernel_rfl
noncomputable abbrev BS : Xq (g7 (fT 28)) := by trivial
noncomputable abbrev kH : Xq (d6 (fT 28)) := by trivial
noncomputable abbrev gP : Xq (fSc (fT 28)) := by trivial
theorem Jd (P : Params) : FkT P 161 "number_in" "number_in" BS kH gP "quic.shorthead" 398 160 := by kernel_rfl
noncomputable abbrev BR : Xq (g7 (fT 29)) := by trivial
noncomputable abbrev kG : Xq (d6 (fT 29)) := by trivial
noncomputable abbrev gO : Xq (fSc (fT 29)) := by trivial
theorem Jc (P : Params) : FkT P 168 "packet_size" "packet_size" BR kG gO "quic.shorthead" 398 167 := by kernel_rfl
noncomputable abbrev BQ : Xq (g7 (fT 32)) := by trivial
noncomputable abbrev kD : Xq (d6 (fT 32)) := by trivial
noncomputable abbrev gN : Xq (fSc (fT 32)) := by trivial
theorem Jb (P : Params) : FkT P 175 "packet_with" "packet_with" BQ kD gN "quic.datagrams" 439 174 := by kernel_rfl
noncomputable abbrev BP : Xq (g7 (fT 33)) := by trivial
noncomputable abbrev kA : Xq (d6 (fT 33)) := by trivial
noncomputable abbrev gM : Xq (fSc (fT 33)) := by trivial
theorem Ja (P : Params) : FkT P 182 "head_octets" "head_octets" BP kA gM "quic.datagrams" 439 181 := by kernel_rfl
noncomputable abbrev BO : Xq (g7 (fT 36)) := by trivial
noncomputable abbrev kz : Xq (d6 (fT 36)) := by trivial
noncomputable abbrev gL : Xq (fSc (fT 36)) := by trivial
theorem IZ (P : Params) : FkT P 190 "is_eliciting" "is_eliciting" BO kz gL "quic.framerules" 466 189 := by kernel_rfl
noncomputable abbrev BN : Xq (g7 (fT 37)) := by trivial
noncomputable abbrev ky : Xq (d6 (fT 37)) := by trivial
noncomputable abbrev gK : Xq (fSc (fT 37)) := by trivial
theorem IY (P : Params) : FkT P 195 "any_eliciting" "any_eliciting" BN ky gK "quic.framerules" 466 194 := by kernel_rfl
noncomputable abbrev BM : Xq (g7 (fT 66)) := by trivial
noncomputable abbrev x8 : Xq (d6 (fT 66)) := by trivial
noncomputable abbrev Y5 : Xq (fSc (fT 66)) := by trivial
theorem IX (P : Params) : FkT P 201 "put_numbers" "put_numbers" BM x8 Y5 "quic.framesout" 537 200 := by kernel_rfl
noncomputable abbrev BL : Xq (g7 (fT 68)) := by trivial
noncomputable abbrev v6 : Xq (d6 (fT 68)) := by trivial
noncomputable abbrev Y4 : Xq (fSc (fT 68)) := by trivial
theorem IW (P : Params) : FkT P 215 "ack_numbers" "ack_numbers" BL v6 Y4 "quic.framesout" 537 214 := by kernel_rfl
noncomputable abbrev BK : Xq (g7 (fT 69)) := by trivial
noncomputable abbrev kx : Xq (d6 (fT 69)) := by trivial
noncomputable abbrev gJ : Xq (fSc (fT 69)) := by trivial
theorem IV (P : Params) : FkT P 222 "put_ack" "put_ack" BK kx gJ "quic.framesout" 537 221 := by kernel_rfl
noncomputable abbrev BJ : Xq (g7 (fT 74)) := by trivial
noncomputable abbrev ku : Xq (d6 (fT 74)) := by trivial
noncomputable abbrev gI : Xq (fSc (fT 74)) := by trivial
theorem IU (P : Params) : FkT P 257 "put_frame" "put_frame" BJ ku gI "quic.framesout" 537 256 := by kernel_rfl
noncomputable abbrev BI : Xq (g7 (fT 75)) := by trivial
noncomputable abbrev kq : Xq (d6 (fT 75)) := by trivial
noncomputable abbrev gH : Xq (fSc (fT 75)) := by trivial
theorem IT (P : Params) : FkT P 264 "frame_size" "frame_size" BI kq gH "quic.framesout" 537 263 := by kernel_rfl
noncomputable abbrev BH : Xq (g7 (fT 76)) := by trivial
noncomputable abbrev kp : Xq (d6 (fT 76)) := by trivial
noncomputable abbrev gG : Xq (fSc (fT 76)) := by trivial
theorem IS (P : Params) : FkT P 271 "crypto_room" "crypto_room" BH kp gG "quic.framesout" 537 270 := by kernel_rfl
noncomputable abbrev BF : Xq (g7 (fT 83)) := by trivial
noncomputable abbrev ko : Xq (d6 (fT 83)) := by trivial
noncomputable abbrev gF : Xq (fSc (fT 83)) := by trivial
theorem IR (P : Params) : FkT P 307 "filled" "filled" BF ko gF "quic.packing" 668 306 := by kernel_rfl
noncomputable abbrev BE : Xq (g7 (fT 85)) := by trivial
noncomputable abbrev kn : Xq (d6 (fT 85)) := by trivial
noncomputable abbrev gE : Xq (fSc (fT 85)) := by trivial
theorem IQ (P : Params) : FkT P 314 "earliest" "earliest" BE kn gE "quic.timers" 724 313 := by kernel_rfl
noncomputable abbrev BD : Xq (g7 (fT 86)) := by trivial
noncomputable abbrev km : Xq (d6 (fT 86)) := by trivial
noncomputable abbrev gD : Xq (fSc (fT 86)) := by trivial
theorem IP (P : Params) : FkT P 321 "ack_due" "ack_due" BD km gD "quic.timers" 724 320 := by kernel_rfl
noncomputable abbrev BC : Xq (g7 (fT 91)) := by trivial
noncomputable abbrev kl : Xq (d6 (fT 91)) := by trivial
noncomputable abbrev gC : Xq (fSc (fT 91)) := by trivial
theorem IN (P : Params) : FkT P 328 "ids_of" "ids_of" BC kl gC "quic.connout" 744 327 := by kernel_rfl
noncomputable abbrev BB : Xq (g7 (fT 92)) := by trivial
noncomputable abbrev kk : Xq (d6 (fT 92)) := by trivial
noncomputable abbrev gB : Xq (fSc (fT 92)) := by trivial
theorem IM (P : Params) : FkT P 333 "places_of" "places_of" BB kk gB "quic.connout" 744 332 := by kernel_rfl
noncomputable abbrev BA : Xq (g7 (fT 93)) := by trivial
noncomputable abbrev kj : Xq (d6 (fT 93)) := by trivial
noncomputable abbrev gA : Xq (fSc (fT 93)) := by trivial
theorem IL (P : Params) : FkT P 340 "head_room" "head_room" BA kj gA "quic.connout" 744 339 := by kernel_rfl
noncomputable abbrev Bz : Xq (g7 (fT 94)) := by trivial
noncomputable abbrev ki : Xq (d6 (fT 94)) := by trivial
noncomputable abbrev gz : Xq (fSc (fT 94)) := by trivial
theorem IK (P : Params) : FkT P 347 "ack_time" "ack_time" Bz ki gz "quic.connout" 744 346 := by kernel_rfl
noncomputable abbrev By : Xq (g7 (fT 95)) := by trivial
noncomputable abbrev kg : Xq (d6 (fT 95)) := by trivial
noncomputable abbrev gy : Xq (fSc (fT 95)) := by trivial
theorem IJ (P : Params) : FkT P 354 "wants_ack" "wants_ack" By kg gy "quic.connout" 744 353 := by kernel_rfl
noncomputable abbrev Bx : Xq (g7 (fT 96)) := by trivial
noncomputable abbrev ke : Xq (d6 (fT 96)) := by trivial
noncomputable abbrev gx : Xq (fSc (fT 96)) := by trivial
theorem II (P : Params) : FkT P 361 "datagram_size" "datagram_size" Bx ke gx "quic.connout" 744 360 := by kernel_rfl
noncomputable abbrev Bw : Xq (g7 (fT 97)) := by trivial
noncomputable abbrev kc : Xq (d6 (fT 97)) := by trivial
noncomputable abbrev gw : Xq (fSc (fT 97)) := by trivial
theorem IH (P : Params) : FkT P 368 "has_ack_room" "has_ack_room" Bw kc gw "quic.connout" 744 367 := by kernel_rfl
noncomputable abbrev Bv : Xq (g7 (fT 98)) := by trivial
noncomputable abbrev kb : Xq (d6 (fT 98)) := by trivial
noncomputable abbrev gu : Xq (fSc (fT 98)) := by trivial
theorem IG (P : Params) : FkT P 373 "next_ack_time" "next_ack_time" Bv kb gu "quic.connout" 744 372 := by kernel_rfl
noncomputable abbrev Bu : Xq (g7 (fT 99)) := by trivial
noncomputable abbrev ka : Xq (d6 (fT 99)) := by trivial
noncomputable abbrev gr : Xq (fSc (fT 99)) := by trivial
theorem IF (P : Params) : FkT P 380 "cut_ack" "cut_ack" Bu ka gr "quic.connout" 744 379 := by kernel_rfl
noncomputable abbrev Bt : Xq (g7 (fT 100)) := by trivial
noncomputable abbrev jZ : Xq (d6 (fT 100)) := by trivial
noncomputable abbrev gq : Xq (fSc (fT 100)) := by trivial
theorem IE (P : Params) : FkT P 387 "crypto_frames" "crypto_frames" Bt jZ gq "quic.connout" 744 386 := by kernel_rfl
noncomputable abbrev Bs : Xq (g7 (fT 101)) := by trivial
noncomputable abbrev jY : Xq (d6 (fT 101)) := by trivial
noncomputable abbrev gp : Xq (fSc (fT 101)) := by trivial
theorem ID (P : Params) : FkT P 394 "path_frames" "path_frames" Bs jY gp "quic.connout" 744 393 := by kernel_rfl
noncomputable abbrev Br : Xq (g7 (fT 102)) := by trivial
noncomputable abbrev jX : Xq (d6 (fT 102)) := by trivial
noncomputable abbrev gm : Xq (fSc (fT 102)) := by trivial
theorem IC (P : Params) : FkT P 399 "path_room" "path_room" Br jX gm "quic.connout" 744 398 := by kernel_rfl
noncomputable abbrev Bq : Xq (g7 (fT 103)) := by trivial
noncomputable abbrev jW : Xq (d6 (fT 103)) := by trivial
noncomputable abbrev gk : Xq (fSc (fT 103)) := by trivial
theorem IB (P : Params) : FkT P 404 "app_frames" "app_frames" Bq jW gk "quic.connout" 744 403 := by kernel_rfl
noncomputable abbrev Bp : Xq (g7 (fT 104)) := by trivial
noncomputable abbrev jV : Xq (d6 (fT 104)) := by trivial
noncomputable abbrev gj : Xq (fSc (fT 104)) := by trivial
theorem IA (P : Params) : FkT P 411 "may_carry" "may_carry" Bp jV gj "quic.connout" 744 410 := by kernel_rfl
noncomputable abbrev Bo : Xq (g7 (fT 105)) := by trivial
noncomputable abbrev jU : Xq (d6 (fT 105)) := by trivial
noncomputable abbrev gi : Xq (fSc (fT 105)) := by trivial
theorem Iz (P : Params) : FkT P 418 "may_try" "may_try" Bo jU gi "quic.connout" 744 417 := by kernel_rfl
noncomputable abbrev Bn : Xq (g7 (fT 106)) := by trivial
noncomputable abbrev jT : Xq (d6 (fT 106)) := by trivial
noncomputable abbrev gh : Xq (fSc (fT 106)) := by trivial
theorem Iy (P : Params) : FkT P 423 "frames_beside" "frames_beside" Bn jT gh "quic.connout" 744 422 := by kernel_rfl
noncomputable abbrev Bm : Xq (g7 (fT 107)) := by trivial
noncomputable abbrev jS : Xq (d6 (fT 107)) := by trivial
noncomputable abbrev gg : Xq (fSc (fT 107)) := by trivial
theorem Ix (P : Params) : FkT P 430 "frames_for" "frames_for" Bm jS gg "quic.connout" 744 429 := by kernel_rfl
noncomputable abbrev Bl : Xq (g7 (fM 113 0)) := by trivial
noncomputable abbrev jR : Xq (d6 (fM 113 0)) := by trivial
noncomputable abbrev ga : Xq (fSc (fM 113 0)) := by trivial
theorem Iw (P : Params) : FkT P 465 "__init__" "CryptoOut.__init__" Bl jR ga "quic.cryptostream" 942 464 := by kernel_rfl
noncomputable abbrev Bk : Xq (g7 (fT 118)) := by trivial
noncomputable abbrev jQ : Xq (d6 (fT 118)) := by trivial
noncomputable abbrev fZ : Xq (fSc (fT 118)) := by trivial
theorem Iu (P : Params) : FkT P 514 "initial_window" "initial_window" Bk jQ fZ "quic.newreno" 1016 513 := by kernel_rfl
noncomputable abbrev Bj : Xq (g7 (fM 119 0)) := by trivial
noncomputable abbrev jP : Xq (d6 (fM 119 0)) := by trivial
noncomputable abbrev fY : Xq (fSc (fM 119 0)) := by trivial
theorem It (P : Params) : FkT P 528 "__init__" "NewReno.__init__" Bj jP fY "quic.newreno" 1016 527 := by kernel_rfl
noncomputable abbrev Bi : Xq (g7 (fM 119 1)) := by trivial
noncomputable abbrev jO : Xq (d6 (fM 119 1)) := by trivial
noncomputable abbrev fX : Xq (fSc (fM 119 1)) := by trivial
theorem Ir (P : Params) : FkT P 535 "may_send" "NewReno.may_send" Bi jO fX "quic.newreno" 1016 534 := by kernel_rfl
noncomputable abbrev Bh : Xq (g7 (fM 126 0)) := by trivial
noncomputable abbrev jN : Xq (d6 (fM 126 0)) := by trivial
noncomputable abbrev fW : Xq (fSc (fM 126 0)) := by trivial
theorem Iq (P : Params) : FkT P 619 "__init__" "Path.__init__" Bh jN fW "quic.paths" 1150 618 := by kernel_rfl
noncomputable abbrev Bg : Xq (g7 (fM 126 2)) := by trivial
noncomputable abbrev jM : Xq (d6 (fM 126 2)) := by trivial
noncomputable abbrev fV : Xq (fSc (fM 126 2)) := by trivial
theorem Ip (P : Params) : FkT P 633 "room" "Path.room" Bg jM fV "quic.paths" 1150 632 := by kernel_rfl
noncomputable abbrev Bf : Xq (g7 (fM 126 4)) := by trivial
noncomputable abbrev jL : Xq (d6 (fM 126 4)) := by trivial
noncomputable abbrev fU : Xq (fSc (fM 126 4)) := by trivial
theorem Io (P : Params) : FkT P 647 "on_received" "Path.on_received" Bf jL fU "quic.paths" 1150 646 := by kernel_rfl
noncomputable abbrev Be : Xq (g7 (fM 127 0)) := by trivial
noncomputable abbrev jK : Xq (d6 (fM 127 0)) := by trivial
noncomputable abbrev fS : Xq (fSc (fM 127 0)) := by trivial
theorem Im (P : Params) : FkT P 703 "__init__" "Paths.__init__" Be jK fS "quic.paths" 1150 702 := by kernel_rfl
noncomputable abbrev Bd : Xq (g7 (fM 127 1)) := by trivial
noncomputable abbrev jJ : Xq (d6 (fM 127 1)) := by trivial
noncomputable abbrev fR : Xq (fSc (fM 127 1)) := by trivial
theorem Il (P : Params) : FkT P 710 "path_of" "Paths.path_of" Bd jJ fR "quic.paths" 1150 709 := by kernel_rfl
noncomputable abbrev Bc : Xq (g7 (fM 127 2)) := by trivial
noncomputable abbrev jI : Xq (d6 (fM 127 2)) := by trivial
noncomputable abbrev fQ : Xq (fSc (fM 127 2)) := by trivial
theorem Ik (P : Params) : FkT P 717 "opened" "Paths.opened" Bc jI fQ "quic.paths" 1150 716 := by kernel_rfl
noncomputable abbrev Bb : Xq (g7 (fM 127 3)) := by trivial
noncomputable abbrev jH : Xq (d6 (fM 127 3)) := by trivial
noncomputable abbrev fP : Xq (fSc (fM 127 3)) := by trivial
theorem Ij (P : Params) : FkT P 724 "on_datagram" "Paths.on_datagram" Bb jH fP "quic.paths" 1150 723 := by kernel_rfl
noncomputable abbrev Ba : Xq (g7 (fM 127 8)) := by trivial
noncomputable abbrev jG : Xq (d6 (fM 127 8)) := by trivial
noncomputable abbrev fO : Xq (fSc (fM 127 8)) := by trivial
theorem Ii (P : Params) : FkT P 759 "wants_challenge" "Paths.wants_challenge" Ba jG fO "quic.paths" 1150 758 := by kernel_rfl
noncomputable abbrev AZ : Xq (g7 (fT 129)) := by trivial
noncomputable abbrev jF : Xq (d6 (fT 129)) := by trivial
noncomputable abbrev fN : Xq (fSc (fT 129)) := by trivial
theorem Ih (P : Params) : FkT P 815 "add_number" "add_number" AZ jF fN "quic.ranges" 1423 814 := by kernel_rfl
noncomputable abbrev AY : Xq (g7 (fT 130)) := by trivial
noncomputable abbrev z9 : Xq (d6 (fT 130)) := by trivial
noncomputable abbrev Y3 : Xq (fSc (fT 130)) := by trivial
theorem Ig (P : Params) : FkT P 822 "add_range" "add_range" AY z9 Y3 "quic.ranges" 1423 821 := by kernel_rfl
noncomputable abbrev AX : Xq (g7 (fT 131)) := by trivial
noncomputable abbrev jE : Xq (d6 (fT 131)) := by trivial
noncomputable abbrev fL : Xq (fSc (fT 131)) := by trivial
theorem Ie (P : Params) : FkT P 829 "ack_of" "ack_of" AX jE fL "quic.ranges" 1423 828 := by kernel_rfl
noncomputable abbrev AW : Xq (g7 (fM 138 0)) := by trivial
noncomputable abbrev jD : Xq (d6 (fM 138 0)) := by trivial
noncomputable abbrev fK : Xq (fSc (fM 138 0)) := by trivial
theorem Id (P : Params) : FkT P 849 "__init__" "Space.__init__" AW jD fK "quic.spaces" 1459 848 := by kernel_rfl
noncomputable abbrev AV : Xq (g7 (fM 138 2)) := by trivial
noncomputable abbrev l7 : Xq (d6 (fM 138 2)) := by trivial
noncomputable abbrev Y2 : Xq (fSc (fM 138 2)) := by trivial
theorem Ic (P : Params) : FkT P 863 "on_received" "Space.on_received" AV l7 Y2 "quic.spaces" 1459 862 := by kernel_rfl
noncomputable abbrev AU : Xq (g7 (fM 138 3)) := by trivial
noncomputable abbrev jC : Xq (d6 (fM 138 3)) := by trivial
noncomputable abbrev fJ : Xq (fSc (fM 138 3)) := by trivial
theorem Ib (P : Params) : FkT P 870 "ack_frame" "Space.ack_frame" AU jC fJ "quic.spaces" 1459 869 := by kernel_rfl
noncomputable abbrev AT : Xq (g7 (fT 139)) := by trivial
noncomputable abbrev jB : Xq (d6 (fT 139)) := by trivial
noncomputable abbrev fF : Xq (fSc (fT 139)) := by trivial
theorem Ia (P : Params) : FkT P 987 "kept_ranges" "kept_ranges" AT jB fF "quic.spaces" 1459 986 := by kernel_rfl
noncomputable abbrev AS : Xq (g7 (fT 141)) := by trivial
noncomputable abbrev q6 : Xq (d6 (fT 141)) := by trivial
noncomputable abbrev cg : Xq (fSc (fT 141)) := by trivial
theorem HZ (P : Params) : FkT P 994 "_law_take" "_law_take" AS q6 cg "law_rg0261_01" 1668 993 := by kernel_rfl
noncomputable abbrev AR : Xq (g7 (fT 142)) := by trivial
noncomputable abbrev p9 : Xq (d6 (fT 142)) := by trivial
noncomputable abbrev K1 : Xq (fSc (fT 142)) := by trivial
theorem pg (P : Params) : FkT P 999 "_law_state" "_law_state" AR p9 K1 "law_rg0261_01" 1668 998 := by kernel_rfl
noncomputable abbrev qe : Xq (g7 (fT 143)) := by trivial
noncomputable abbrev bG : Xq (d6 (fT 143)) := by trivial
noncomputable abbrev aX : Xq (fSc (fT 143)) := by trivial
theorem zy (P : Params) : FkT P 1006 "_law_octets" "_law_octets" qe bG aX "law_rg0261_01" 1668 1005 := by kernel_rfl
noncomputable abbrev qd : Xq (g7 (fT 144)) := by trivial
noncomputable abbrev u6 : Xq (d6 (fT 144)) := by trivial
noncomputable abbrev K4 : Xq (fSc (fT 144)) := by trivial
theorem zx (P : Params) : FkT P 1011 "_law_size" "_law_size" qd u6 K4 "law_rg0261_01" 1668 1010 := by kernel_rfl
noncomputable abbrev qb : Xq (g7 (fT 145)) := by trivial
noncomputable abbrev x7 : Xq (d6 (fT 145)) := by trivial
noncomputable abbrev K3 : Xq (fSc (fT 145)) := by trivial
theorem zw (P : Params) : FkT P 1016 "_law_cut" "_law_cut" qb x7 K3 "law_rg0261_01" 1668 1015 := by kernel_rfl
noncomputable abbrev qa : Xq (g7 (fT 146)) := by trivial
noncomputable abbrev q0 : Xq (d6 (fT 146)) := by trivial
noncomputable abbrev K2 : Xq (fSc (fT 146)) := by trivial
theorem zv (P : Params) : FkT P 1023 "_law_fill" "_law_fill" qa q0 K2 "law_rg0261_01" 1668 1022 := by kernel_rfl
noncomputable abbrev pZ : Xq (g7 (fT 147)) := by trivial
noncomputable abbrev b7 : Xq (d6 (fT 147)) := by trivial
noncomputable abbrev aW : Xq (fSc (fT 147)) := by trivial
theorem iW (P : Params) : FkT P 1030 "law" "law" pZ b7 aW "law_rg0261_01" 1668 1029 := by kernel_rfl
end
structure Cx (w : World) (p : Program) (loose : List Str) (mean : ExcName -> Option Value) (mg mb : Str -> Option Value) (dp un : Nat) (cs : Scope) (A₀ : Around) (base : Heap) (outer : List Env) (h₀ : Heap) (L : Addr) (h : Heap) (m : Str -> Option Value) (news : List (Addr × Obj)) : Prop where
 B : Below A₀ base outer h₀
 F : Fr h₀ L h m
 X : (K w.params).In h₀
 N : News h₀ L h news
 T : Top p loose mean mg mb h₀
 k : cs.kind = .function
noncomputable abbrev mdl (w : World) : Model := model PySem.Challenge.pw_rg0261_01 w
section
variable {w : World} {p : Program} {loose : List Str} {mean : ExcName -> Option Value} {mg mb : Str -> Option Value}
 {dp un : Nat} {gd : Option (List Code)} {cn : Str} {cs : Scope} {a : Addr} {ccd : Value} {cl : List (Str × Addr)} {outer : List Env} {A₀ : Around} {base h₀ : Heap} {L : Addr} {m : Str -> Option Value} {news : List (Addr × Obj)} {s : Shared}
 {Q E : VP}
end
noncomputable def G7 : Code -> Bool
 | .builtin id _ => PySem.Builtin.Bytes.decodersThatHold.contains id
 | _ => false
def P2 (l : List (Code × Pos)) : Prop := ∀ x ∈ l, G7 x.1 = false
def wpC {α : Type} (M : Model) (A : Around) (t : Sem α) (Q : α -> Shared -> Prop) (E : VP) (s : Shared) : Prop :=
 ∀ Γ p, Γ.In A -> P2 ((Γ.code, p) :: Γ.below) -> Sem.wp M Γ t (fun a _ s' => Q a s') (fun e _ s' => E e s') p s
def l5 (M : Model) (A : Around) (c : Code) (R : Result -> Shared -> Prop) (s : Shared) : Prop :=
 ∀ Γ p, Γ.code = c -> Γ.Below A -> P2 Γ.below -> wpCode M Γ R p s
theorem P2.pos {c : Code} {p p' : Pos} {l : List (Code × Pos)} (h : P2 ((c, p) :: l)) : P2 ((c, p') :: l) := fun x hx => by
 rcases List.mem_cons.mp hx with rfl | hx
 · exact h (c, p) (List.mem_cons_self ..)
 · exact h x (List.mem_cons_of_mem _ hx)
theorem P2.tl {x : Code × Pos} {l : List (Code × Pos)} (h : P2 (x :: l)) : P2 l := fun y hy => h y (List.mem_cons_of_mem _ hy)
section
variable {α β : Type} {M : Model} {A : Around} {E : VP} {s : Shared}
theorem cC {t : Sem α} {Q : α -> Shared -> Prop} (h : wpAny M A t Q E s) : wpC M A t Q E s := fun Γ p hΓ _ => h Γ p hΓ
theorem kC {c : Code} {R : Result -> Shared -> Prop} (h : codeAny M A c R s) : l5 M A c R s := fun Γ p hc hΓ _ => h Γ p hc hΓ
theorem cP {a : α} {Q : α -> Shared -> Prop} (h : Q a s) : wpC M A (pure a) Q E s := fun _ _ _ _ => h
theorem cM {t : Sem α} {Q Q' : α -> Shared -> Prop} {E' : VP} (h : wpC M A t Q E s)
 (hQ : ∀ a s, Q a s -> Q' a s) (hE : ∀ e s, E e s -> E' e s := by intro _ _ x; exact x) : wpC M A t Q' E' s :=
 fun Γ p hΓ hc => Sem.wp_mono M Γ t (fun a _ s => hQ a s) (fun e _ s => hE e s) p s (h Γ p hΓ hc)
theorem cB {m : Sem α} {f : α -> Sem β} {Q : β -> Shared -> Prop} (h : wpC M A m (fun a s' => wpC M A (f a) Q E s') E s) :
 wpC M A (m >>= f) Q E s := fun Γ p hΓ hc => by
 rw [Sem.wp_bind']
 exact Sem.wp_mono M Γ m (fun a p' s' h' => h' Γ p' hΓ hc.pos) (fun _ _ _ h' => h') p s (h Γ p hΓ hc)
theorem cB' {m : Sem α} {f : α -> Sem β} {P : α -> Shared -> Prop} {Q : β -> Shared -> Prop} (h : wpC M A m P E s) (k : ∀ a s', P a s' -> wpC M A (f a) Q E s') :
 wpC M A (m >>= f) Q E s := cB (cM h k)
theorem cH {vs : List Value} {m : Sem α} {Q : α -> Shared -> Prop} (h : wpC M A m Q E s) : wpC M A (holding vs m) Q E s :=
 fun Γ p hΓ hc => by rw [Sem.wp_holding]; exact h Γ p hΓ hc
theorem cS {pos : Pos} {f : Unit -> Sem β} {Q : β -> Shared -> Prop} (h : wpC M A (f ()) Q E s) : wpC M A (standAt pos >>= f) Q E s :=
 cB (cC (wpAny_standAt h))
theorem cPB {a : α} {f : α -> Sem β} {Q : β -> Shared -> Prop} (h : wpC M A (f a) Q E s) : wpC M A (pure a >>= f) Q E s := cB (cP h)
theorem cO {vs : List Value} {m : Sem Value} {Q : VP} (h : wpC M A m Q E s) : wpC M A (operate vs m) Q E s :=
 fun Γ p hΓ hc => by rw [Sem.wp_operate]; exact h Γ p hΓ hc
theorem Js {vs : List Value} {m : Sem α} {Q : α -> Shared -> Prop} (h : wpC M A m Q E s) : wpC M A (m.keep vs) Q E s :=
 fun Γ p hΓ hc => by rw [Sem.wp_keep]; exact h Γ p hΓ hc
theorem cHB {vs : List Value} {m : Sem α} {f : α -> Sem β} {P : α -> Shared -> Prop} {Q : β -> Shared -> Prop} (h : wpC M A m P E s) (k : ∀ a s', P a s' -> wpC M A (f a) Q E s') :
 wpC M A (holding vs m >>= f) Q E s := cB' (cH h) k
theorem cR {m : Sem α} {k : Value -> Sem Unit} {Q : α -> Shared -> Prop}
 (h : wpC M A m Q (fun e s' => wpC M A (k e) (fun _ s'' => E e s'') E s') s) : wpC M A (m.onRaise k) Q E s := fun Γ p hΓ hc => by
 rw [Sem.wp_onRaise]
 exact Sem.wp_mono M Γ m (fun _ _ _ h' => h') (fun e p' s' h' => h' Γ p' hΓ hc.pos) p s (h Γ p hΓ hc)
theorem cA {m : Sem α} {Q : Except Value α -> Shared -> Prop} (h : wpC M A m (fun a => Q (.ok a)) (fun e => Q (.error e)) s) :
 wpC M A m.attempt Q E s := fun Γ p hΓ hc => by rw [Sem.wp_attempt]; exact h Γ p hΓ hc
theorem cE {t t' : Sem α} {Q : α -> Shared -> Prop} (e : t = t') (h : wpC M A t' Q E s) : wpC M A t Q E s := e ▸ h
theorem Jr {c : Code} {h : Option Value} {Q : Flow -> Shared -> Prop}
 (hc : l5 M (A.mark h) c (fun r s' => match r with | .ok f => Q f s' | .error e => E e s') s) (hnb : h ≠ some byPass := by intro x; cases x) :
 wpC M A (run c h) Q E s :=
 fun Γ p hΓ hk => by rw [Sem.wp_run]; exact hc _ p rfl (hΓ.enter c h p hnb) hk
theorem Jq {c : Code} {Q : VP}
 (hc : l5 M A c (fun r s' => match r with | .ok (.ret v) => Q v s' | .ok _ => False | .error e => E e s') s) :
 wpC M A (runValue c) Q E s := fun Γ p hΓ hk => by rw [Sem.wp_runValue]; exact hc _ p rfl (hΓ.enter c none p (by intro x; cases x)) hk
theorem H7 {f : Value} {pos : List Value} {kw : List (Str × Value)} {Q : VP}
 (hc : l5 M A (.call f ⟨pos, kw⟩) (fun r s' => match r with | .ok (.ret v) => Q v s' | .ok _ => False | .error e => E e s') s) :
 wpC M A (call f pos kw) Q E s := Jq hc
theorem kM {c : Code} {R R' : Result -> Shared -> Prop} (h : l5 M A c R s) (hR : ∀ r s, R r s -> R' r s) : l5 M A c R' s :=
 fun Γ p hc hΓ hk => wpCode_mono hR (h Γ p hc hΓ hk)
def lJ (M : Model) (A : Around) (R : Result -> Shared -> Prop) (fin : Fin) (s' : Shared) : Prop :=
 match fin with | .done f => R (.ok f) s' | .again c' => c'.quiet = true ∧ l5 M A c' R s'
theorem kT {c : Code} {R : Result -> Shared -> Prop} (hn : G7 c = false)
 (h : wpC M (A.under c) (M.den c) (lJ M A R) (fun e s' => R (.error e) s') s) : l5 M A c R s := fun Γ p hc hΓ hk => by
 rw [wpCode_iff_wp, hc]
 refine Sem.wp_mono M Γ _ (fun fin p' s' h' => ?_) (fun _ _ _ h' => h') p s (h Γ p (hc ▸ hΓ.in) (fun x hx => ?_))
 · cases fin with
   | done f => exact h'
   | again c' => exact ⟨h'.1, h'.2 (Γ.goto c') p' rfl (hΓ.goto c') hk⟩
 · rcases List.mem_cons.mp hx with rfl | hx
   · show G7 Γ.code = false
     rw [hc]; exact hn
   · exact hk x hx
theorem iy {c : Code} {R : Result -> Shared -> Prop} (hn : G7 c = false) (hq : c.quiet = true) (I : Nat -> Shared -> Prop)
 (turn : ∀ n s, I n s -> wpC M (A.under c) (M.den c)
  (fun fin s' => match fin with
   | .done f => R (.ok f) s'
   | .again c' => (c' = c ∧ ∃ m, m < n ∧ I m s') ∨ (c'.quiet = true ∧ l5 M A c' R s')) (fun e s' => R (.error e) s') s)
 (n : Nat) (h : I n s) : l5 M A c R s := by
 induction n using Nat.strongRecOn generalizing s with
 | ind n ih =>
  refine kT hn (cM (turn n s h) (fun fin s' hf => ?_))
  cases fin with
  | done f => exact hf
  | again c' =>
   rcases hf with ⟨rfl, m, hm, hI⟩ | hf
   · exact ⟨hq, ih m hm hI⟩
   · exact hf
variable {env : Env}
theorem zU {l op r pos} {Q : VP}
 (h : wpC M A (eval l env) (fun a a7 => wpC M A (eval r env) (fun b a8 => wpC M A (binaryOp op a b) Q E a8) E a7) E s) :
 wpC M A (eval (.BinOp l op r pos) env) Q E s := by
 rw [eval_BinOp]
 exact cB' h fun a a7 b6 => cHB b6 fun b a8 f8 => cS (cO f8)
theorem eC {l op r pos} {Q : VP}
 (h : wpC M A (eval l env) (fun a a7 => wpC M A (eval r env) (fun b a8 => wpC M A (compareOp op a b) Q E a8) E a7) E s)
 (hm : behindInMarks op r = false := by with_unfolding_all rfl) :
 wpC M A (eval (.Compare l [op] [r] pos) env) Q E s := by
 rw [eval_Compare1, markedBehindIn_of_false hm]
 exact cB' h fun a a7 b6 => cHB b6 fun b a8 f8 => cS (cO f8)
theorem J1 {l op r pos whole} {Q : Bool -> Shared -> Prop}
 (h : wpC M A (eval l env) (fun a a7 => wpC M A (eval r env) (fun b a8 => wpC M A (compareOp op a b)
  (fun c f7 => wpC M A (truthy c) Q E f7) E a8) E a7) E s)
 (hm : behindInMarks op r = false := by with_unfolding_all rfl) : wpC M A (isTrue (.Compare l [op] [r] pos) env whole) Q E s := fun Γ p hΓ hc => by
 simp only [isTrue_Compare1, markedBehindIn_of_false hm, Sem.wp_bind', Sem.wp_holding, Sem.wp_cmd_standAt, Sem.wp_operate]
 exact Sem.wp_mono M Γ _ (fun a p₁ a7 b6 => Sem.wp_mono M Γ _ (fun b _ a8 f8 => Sem.wp_mono M Γ _ (fun c p₃ f7 i8 => i8 Γ p₃ hΓ hc.pos)
  (fun _ _ _ h' => h') _ _ (f8 Γ _ hΓ hc.pos)) (fun _ _ _ h' => h') _ _ (b6 Γ p₁ hΓ hc.pos)) (fun _ _ _ h' => h') _ _ (h Γ p hΓ hc)
theorem ao {op : UnaryOp} {x : Expr} {pos : Pos} {Q : VP} (h : wpC M A (eval x env) (fun v a7 => wpC M A (unaryOp op v) Q E a7) E s) :
 wpC M A (eval (.UnaryOp op x pos) env) Q E s := by
 rw [arm_eval_UnaryOp]
 exact cB' h fun v a7 b6 => cS (cH b6)
theorem zT {test body orelse pos} {Q : VP}
 (h : wpC M A (isTrue test env (eval test env)) (fun c a8 => if c then wpC M A (eval body env) Q E a8 else wpC M A (eval orelse env) Q E a8) E s) :
 wpC M A (eval (.IfExp test body orelse pos) env) Q E s := by
 rw [eval_IfExp]
 refine cB' h fun c a8 f8 => ?_
 cases c <;> exact f8
theorem cAnd {b9 e7 rest pos} {Q : VP}
 (h : wpC M A (eval b9 env) (fun v a7 => wpC M A (truthy v) (fun c a8 => if c then wpC M A (eval (.BoolOp .And (e7 :: rest) pos) env) Q E a8 else Q v a8) E a7) E s) :
 wpC M A (eval (.BoolOp .And (b9 :: e7 :: rest) pos) env) Q E s := by
 refine cE (t' := eval b9 env >>= fun v => standAt pos >>= fun _ => holding [v] (truthy v) >>= fun c => match BoolOp.And, c with
  | .And, false | .Or, true => pure v
  | _, _ => boolOp pos .And (eval e7 env :: evalEach rest env)) rfl ?_
 refine cB' h fun v a7 b6 => cS (cHB b6 fun c a8 f8 => ?_)
 cases c with
 | false => exact cP f8
 | true => exact f8
theorem cOr {b9 e7 rest pos} {Q : VP}
 (h : wpC M A (eval b9 env) (fun v a7 => wpC M A (truthy v) (fun c a8 => if c then Q v a8 else wpC M A (eval (.BoolOp .Or (e7 :: rest) pos) env) Q E a8) E a7) E s) :
 wpC M A (eval (.BoolOp .Or (b9 :: e7 :: rest) pos) env) Q E s := by
 refine cE (t' := eval b9 env >>= fun v => standAt pos >>= fun _ => holding [v] (truthy v) >>= fun c => match BoolOp.Or, c with
  | .And, false | .Or, true => pure v
  | _, _ => boolOp pos .Or (eval e7 env :: evalEach rest env)) rfl ?_
 refine cB' h fun v a7 b6 => cS (cHB b6 fun c a8 f8 => ?_)
 cases c with
 | false => exact f8
 | true => exact cP f8
theorem jx {op e pos} {Q : VP} (h : wpC M A (eval e env) Q E s) : wpC M A (eval (.BoolOp op [e] pos) env) Q E s := h
theorem jp {x rest pos whole} {Q : Bool -> Shared -> Prop}
 (h : wpC M A (isTrue x env (eval x env)) (fun c s' => if c then wpC M A (isTrue (.BoolOp .And rest pos) env whole) Q E s' else Q false s') E s) :
 wpC M A (isTrue (.BoolOp .And (x :: rest) pos) env whole) Q E s := by
 refine cE (t' := isTrue x env (eval x env) >>= fun b => match BoolOp.And, b with
  | .And, false => pure false
  | .Or, true => pure true
  | _, _ => allTrue .And rest env) rfl ?_
 refine cB' h fun c s' h' => ?_
 cases c with
 | false => exact cP h'
 | true => exact h'
theorem nK {x rest pos whole} {Q : Bool -> Shared -> Prop}
 (h : wpC M A (isTrue x env (eval x env)) (fun c s' => if c then Q true s' else wpC M A (isTrue (.BoolOp .Or rest pos) env whole) Q E s') E s) :
 wpC M A (isTrue (.BoolOp .Or (x :: rest) pos) env whole) Q E s := by
 refine cE (t' := isTrue x env (eval x env) >>= fun b => match BoolOp.Or, b with
  | .And, false => pure false
  | .Or, true => pure true
  | _, _ => allTrue .Or rest env) rfl ?_
 refine cB' h fun c s' h' => ?_
 cases c with
 | false => exact h'
 | true => exact cP h'
theorem jo {x pos whole} {Q : Bool -> Shared -> Prop} (h : wpC M A (isTrue x env (eval x env)) (fun c s' => Q (!c) s') E s) :
 wpC M A (isTrue (.UnaryOp .Not x pos) env whole) Q E s := by
 refine cE (t' := isTrue x env (eval x env) >>= fun c => pure (!c)) rfl ?_
 exact cB' h fun c s' h' => cP h'
theorem bC {e : Expr} {whole : Sem Value} {Q : Bool -> Shared -> Prop} (h : wpC M A whole (fun v a7 => wpC M A (truthy v) Q E a7) E s)
 (he : isTrue e env whole = (do let v ← whole; standAt e.pos; holding [v] (truthy v)) := by rfl) : wpC M A (isTrue e env whole) Q E s :=
 cE he (cB' h fun v a7 b6 => cS (cH b6))
theorem nL {env : Env} {pos : Pos} {Q : List Value -> Shared -> Prop} (h : Q [] s) : wpC M A (spliced (backTo pos (starEach [] env))) Q E s := cC (spliced_none h)
theorem nO {x : Sem Value} {rest : List (Bool × Sem Value)} {Q : List Value -> Shared -> Prop}
 (h : wpC M A x (fun v a7 => wpC M A (spliced rest) (fun vs a8 => Q (v :: vs) a8) E a7) E s) : wpC M A (spliced ((false, x) :: rest)) Q E s := by
 rw [spliced]
 refine cB' h fun v a7 b6 => ?_
 simp only [Bool.false_eq_true, if_false]
 exact cPB (cHB b6 fun vs a8 f8 => cP f8)
theorem nN {env : Env} {e : Expr} {rest : List Expr} {pos : Pos} {Q : List Value -> Shared -> Prop}
 (h : wpC M A (eval e env) (fun v a7 => wpC M A (spliced (backTo pos (starEach rest env))) (fun vs a8 => Q (v :: vs) a8) E a7) E s)
 (he : starEach (e :: rest) env = (false, eval e env) :: starEach rest env := by rfl) : wpC M A (spliced (backTo pos (starEach (e :: rest) env))) Q E s := by
 rw [he]; exact nO h
theorem zS {elts : List Expr} {k : Nat} {pos : Pos} {Q : VP}
 (h : wpC M A (spliced (backTo pos (starEach elts env))) (fun vs a7 => wpC M A (newTuple vs) Q E a7) E s) : wpC M A (eval (.Tuple elts k pos) env) Q E s :=
 cE (t' := standAt pos >>= fun _ => spliced (backTo pos (starEach elts env)) >>= newTuple) rfl (cS (cB h))
theorem pk {elts : List Expr} {pos : Pos} {Q : VP}
 (h : wpC M A (spliced (backTo pos (starEach elts env))) (fun vs a7 => wpC M A (newList vs) Q E a7) E s) : wpC M A (eval (.List elts pos) env) Q E s :=
 cE (t' := standAt pos >>= fun _ => spliced (backTo pos (starEach elts env)) >>= newList) rfl (cS (cB h))
theorem u4 {value slice pos} {Q : VP}
 (h : wpC M A (eval value env) (fun o a7 => wpC M A (eval slice env) (fun i a8 => wpC M A (subscriptTail value slice o i) Q E a8) E a7) E s) :
 wpC M A (eval (.Subscript value slice pos) env) Q E s := by
 rw [eval_Subscript]
 exact cB' h fun o a7 b6 => cHB b6 fun i a8 f8 => cS f8
theorem pj {e : Expr} {Q : VP} (h : wpC M A (eval e env) Q E s) : wpC M A (evalPart (some e) env) Q E s := h
theorem bE {lower upper step : Option Expr} {p : Pos} {Q : VP}
 (h : wpC M A (evalPart lower env) (fun l a7 => wpC M A (evalPart upper env) (fun u a8 => wpC M A (evalPart step env) (fun st f7 =>
  Q (.ref f7.heap.objs.size) { f7 with heap := f7.heap.push { cls := .type "slice", data := .fields #[l, u, st] } }) E a8) E a7) E s) :
 wpC M A (eval (.Slice lower upper step p) env) Q E s := by
 rw [arm_eval_Slice]
 exact cB' h fun l a7 b6 => cHB b6 fun u a8 f8 => cHB f8 fun st f7 i8 => cC (wpAny_newObj_type i8)
theorem jv {func : Expr} {args : List Expr} {pos : Pos} {Q : VP}
 (h : wpC M A (eval func env) (fun f a7 => wpC M A (callWith pos f [] (backTo pos (starEach args env)) []) Q E a7) E s)
 (he : eval (.Call func args [] pos) env = (do callWith pos (← eval func env) [] (backTo pos (starEach args env)) (backToKw pos (keywordEach [] env))) := by rfl) :
 wpC M A (eval (.Call func args [] pos) env) Q E s := cE he (cB h)
theorem v5 {o : Expr} {name : Str} {apos pos : Pos} {args : List Expr} {pl : Sem Bool} {Q : VP}
 (h : wpC M A (eval o env) (fun ov a7 => wpC M A (getMethod ov name pl) (fun fx a8 => wpC M A (callWith pos fx.1 fx.2 (backTo pos (starEach args env)) []) Q E a8) E a7) E s)
 (he : eval (.Call (.Attribute o name apos) args [] pos) env = (do
  let ov ← eval o env
  standAt apos.atName
  let (f, first) ← holding [ov] (getMethod ov name pl)
  callWith pos f first (backTo pos (starEach args env)) []) := by rfl) :
 wpC M A (eval (.Call (.Attribute o name apos) args [] pos) env) Q E s :=
 cE he (cB' h fun ov a7 b6 => cS (cHB b6 fun fx a8 f8 => f8))
theorem A0 {f : Value} {x : Sem Value} {rest : List (Bool × Sem Value)} {Q : Args -> Shared -> Prop}
 (h : wpC M A (spliced ((false, x) :: rest)) (fun vs s' => Q ⟨vs, []⟩ s') E s) : wpC M A (evalArgs f true ((false, x) :: rest) []) Q E s := by
 unfold evalArgs
 show wpC M A (spliced ((false, x) :: rest) >>= _) Q E s
 exact cB' h fun vs s' h' => cH (cPB (cPB (cP h')))
theorem u5 {f : Value} {pos : Pos} {first : List Value} {args : List (Bool × Sem Value)} {Q : VP} {P : Heap -> Prop} (hplain : args.any (·.1) = false)
 (hk : ∀ h, P h -> ∃ k, (k = Keeper.frame ∨ k = Keeper.machine ∨ k = Keeper.boundFrame) ∧ Looks M h (keeperOf f) k)
 (h : wpC M A (evalArgs f true args []) (fun a a7 => P a7.heap ∧ wpC M A (call f (first ++ a.pos) a.kw) Q E a7) E s) : wpC M A (callWith pos f first args []) Q E s := by
 unfold callWith
 refine cHB h fun a a7 b6 => cS ?_
 obtain ⟨k, hk', L⟩ := hk _ b6.1
 simp only [hplain, List.any_nil, Bool.or_false]
 refine cB (cC (L.here ?_))
 have tail : ∀ {t : Sem Value}, wpC M A t Q E a7 -> wpC M A (t >>= fun r => holding [r] point >>= fun _ => pure r) Q E a7 :=
  fun ht => cB' ht fun r a8 hr => cB (cC (wpAny_holding (wpAny_point (cP hr))))
 have marked (mk : Value) : wpC M A (callMarked mk f (first ++ a.pos) a.kw) Q E a7 := by unfold callMarked; exact Js b6.2
 rcases hk' with rfl | rfl | rfl <;> dsimp only <;> first | exact tail b6.2 | (split <;> first | exact tail b6.2 | exact tail (marked _))
theorem ju {K : Frag} {f : Value} {pos : Pos} {first : List Value} {h₀ : Heap} {e : Expr} {rest : List Expr} {Q : VP} (_X : K.In h₀) (hk : keepIn K f = true) (h : wpC M A (spliced (backTo pos (starEach (e :: rest) env))) (fun vs a7 => K.In a7.heap ∧ wpC M A (call f (first ++ vs)) Q E a7) E s)
 (he : starEach (e :: rest) env = (false, eval e env) :: starEach rest env := by rfl) (hplain : (backTo pos (starEach rest env)).any (·.1) = false := by rfl) :
 wpC M A (callWith pos f first (backTo pos (starEach (e :: rest) env)) []) Q E s := by
 rw [he] at h ⊢
 exact u5 (by show (false || (backTo pos (starEach rest env)).any (·.1)) = false; rw [hplain]; rfl) (keeps_K hk) (A0 h)
theorem dr {K : Frag} {f : Value} {pos : Pos} {first : List Value} {Q : VP} (X : K.In s.heap) (hk : keepIn K f = true) (h : wpC M A (call f (first ++ [])) Q E s) : wpC M A (callWith pos f first (backTo pos (starEach [] env)) []) Q E s :=
 u5 rfl (keeps_K hk) (cC (evalArgs_nil3 ⟨X, h⟩))
theorem x6 {f : Value} {pos : Pos} {first : List Value} {args : List (Bool × Sem Value)} {Q : VP} (hplain : args.any (·.1) = false)
 (hf : ∃ k, (k = Keeper.frame ∨ k = Keeper.machine ∨ k = Keeper.boundFrame) ∧ keeperOf f = pure k)
 (h : wpC M A (evalArgs f true args []) (fun a a7 => wpC M A (call f (first ++ a.pos) a.kw) Q E a7) E s) : wpC M A (callWith pos f first args []) Q E s := by
 obtain ⟨k, hk, e⟩ := hf
 exact u5 (P := fun _ => True) hplain (fun _ _ => ⟨k, hk, Looks.of_pure e⟩) (cM h fun _ _ x => ⟨trivial, x⟩)
theorem R1 {pos : Pos} {id : String} {first : List Value} {e : Expr} {rest : List Expr} {Q : VP}
 (h : wpC M A (spliced (backTo pos (starEach (e :: rest) env))) (fun vs a7 => wpC M A (call (.builtin id) (first ++ vs)) Q E a7) E s)
 (he : starEach (e :: rest) env = (false, eval e env) :: starEach rest env := by rfl)
 (hplain : (backTo pos (starEach rest env)).any (·.1) = false := by rfl) :
 wpC M A (callWith pos (.builtin id) first (backTo pos (starEach (e :: rest) env)) []) Q E s := by
 rw [he] at h ⊢
 exact x6 (by show (false || (backTo pos (starEach rest env)).any (·.1)) = false; rw [hplain]; rfl) ⟨_, .inr (.inl rfl), rfl⟩ (A0 h)
theorem eE {pos : Pos} {id : String} {first : List Value} {Q : VP} (h : wpC M A (call (.builtin id) first) Q E s) :
 wpC M A (callWith pos (.builtin id) first (backTo pos (starEach [] env)) []) Q E s :=
 x6 (args := []) rfl ⟨_, .inr (.inl rfl), rfl⟩ (cC (evalArgs_nil3 (by simpa using h)))
theorem zQ {pos : Pos} {T : String} {e : Expr} {rest : List Expr} {Q : VP}
 (h : wpC M A (spliced (backTo pos (starEach (e :: rest) env))) (fun vs a7 => wpC M A (call (.type T) vs) Q E a7) E s)
 (he : starEach (e :: rest) env = (false, eval e env) :: starEach rest env := by rfl)
 (hplain : (backTo pos (starEach rest env)).any (·.1) = false := by rfl) :
 wpC M A (callWith pos (.type T) [] (backTo pos (starEach (e :: rest) env)) []) Q E s := by
 rw [he] at h ⊢
 exact x6 (by show (false || (backTo pos (starEach rest env)).any (·.1)) = false; rw [hplain]; rfl) ⟨_, .inr (.inl rfl), rfl⟩ (A0 h)
theorem zR {pos : Pos} {T : String} {Q : VP} (h : wpC M A (call (.type T) []) Q E s) :
 wpC M A (callWith pos (.type T) [] (backTo pos (starEach [] env)) []) Q E s :=
 x6 (args := []) rfl ⟨_, .inr (.inl rfl), rfl⟩ (cC (evalArgs_nil3 h))
theorem jt {st rest} {Q : Flow -> Shared -> Prop}
 (h : wpC M A (exec st env) (fun f s' => match f with | .next => wpC M A (execs rest env) Q E s' | f => Q f s') E s) :
 wpC M A (execs (st :: rest) env) Q E s := by
 rw [execs_cons]
 refine cB' h fun f s' h' => ?_
 cases f <;> first | exact h' | exact cP h'
theorem cRet {e pos} {Q : Flow -> Shared -> Prop} (h : wpC M A (eval e env) (fun v => Q (.ret v)) E s) :
 wpC M A (exec (.Return (some e) pos) env) Q E s := by
 rw [exec_Return_some]
 exact cS (cB' h fun v s' h' => cP h')
theorem cIf {test body orelse pos} {Q : Flow -> Shared -> Prop}
 (h : wpC M A (isTrue test env (eval test env))
  (fun b a8 => if b then wpC M A (execs body env) Q E a8 else wpC M A (execs orelse env) Q E a8) E s) :
 wpC M A (exec (.If test body orelse pos) env) Q E s := by
 rw [exec_If]
 refine cS (cB' h fun b a8 f8 => ?_)
 cases b <;> exact f8
theorem ar {x pos' value pos} {Q : Flow -> Shared -> Prop}
 (h : wpC M A (eval value env) (fun v a7 => wpC M A (storeName env x v) (fun _ => Q .next) E a7) E s)
 (hs : swapsWith value (some (.Name x pos')) pos.line env = pure false := by rfl) :
 wpC M A (exec (.Assign [.Name x pos'] value pos) env) Q E s := fun Γ p hΓ hc => by
 simp only [exec_Assign_Name env x pos' value pos hs, Sem.wp_bind', Sem.wp_cmd_standAt, Sem.wp_bindName, Sem.wp_pure']
 exact Sem.wp_mono M Γ _ (fun v _ a7 b6 => b6 Γ _ hΓ hc.pos) (fun _ _ _ h' => h') _ _ (h Γ _ hΓ hc.pos)
theorem jy {elts k tpos value pos} {Q : Flow -> Shared -> Prop}
 (h : wpC M A (eval value env) (fun v a7 => wpC M A (assign (.Tuple elts k tpos) env v) (fun _ => Q .next) E a7) E s)
 (hs : swapsWithSole [.Tuple elts k tpos] value pos.line env = pure false := by rfl)
 (hw : swappedStores [.Tuple elts k tpos] value env = pure none := by rfl) :
 wpC M A (exec (.Assign [.Tuple elts k tpos] value pos) env) Q E s := by
 rw [PyProof.Rows.exec_Assign]
 refine cS ?_
 rw [hs]
 refine cPB ?_
 rw [if_neg (by decide)]
 refine cB' h fun v a7 b6 => ?_
 rw [hw]
 refine cPB (cE (t' := assignAll v [assign (.Tuple elts k tpos) env] >>= fun _ => pure .next) rfl ?_)
 exact cB' b6 fun _ _ x => cP x
theorem jz {elts k tpos value pos} {names : List Str} {Q : Flow -> Shared -> Prop}
 (h : wpC M A (eval value env) (fun v a7 => wpC M A (unpackItems v names.length none) (fun items a8 =>
  wpC M A (assignInOrder (names.reverse.map fun n => bindName env n) items.reverse) (fun _ => Q .next) E a8) E a7) E s)
 (hs : swapsWithSole [.Tuple elts k tpos] value pos.line env = pure false := by rfl)
 (hw : swappedStores [.Tuple elts k tpos] value env = pure (some names) := by rfl) :
 wpC M A (exec (.Assign [.Tuple elts k tpos] value pos) env) Q E s := by
 rw [PyProof.Rows.exec_Assign]
 refine cS ?_
 rw [hs]
 refine cPB ?_
 rw [if_neg (by decide)]
 refine cB' h fun v a7 b6 => ?_
 rw [hw]
 refine cPB (cE (t' := rule "assign.swapped-stores" >>= fun _ => unpackItems v names.length none >>= fun items => assignInOrder (names.reverse.map fun n => bindName env n) items.reverse >>= fun _ => pure .next) rfl ?_)
 exact cB (cC (wpAny_rule (cB' b6 fun items a8 f8 => cB' f8 fun _ _ x => cP x)))
theorem aq {t : Value -> Sem Unit} {ts : List (Value -> Sem Unit)} {x : Value} {xs : List Value} {Q : Unit -> Shared -> Prop}
 (h : wpC M A (t x) (fun _ a7 => wpC M A (assignInOrder ts xs) Q E a7) E s) : wpC M A (assignInOrder (t :: ts) (x :: xs)) Q E s :=
 cE (t' := holding xs (t x) >>= fun _ => assignInOrder ts xs) rfl (cHB h fun _ _ x => x)
theorem Ju {o value : Expr} {attr : Str} {tpos pos : Pos} {op : Operator} {Q : Flow -> Shared -> Prop}
 (h : wpC M A (eval o env) (fun ov a7 => wpC M A (getAttr ov attr true) (fun old a8 =>
  wpC M A (eval value env) (fun v f7 => wpC M A (inplaceOp op old v) (fun new u7 =>
   wpC M A (setAttr ov attr new) (fun _ => Q .next) E u7) E f7) E a8) E a7) E s) :
 wpC M A (exec (.AugAssign (.Attribute o attr tpos) op value pos) env) Q E s := by
 refine cE (t' := do
  standAt pos
  let ov ← eval o env
  let new ← holding [ov] do
   standAt tpos.atName
   let old ← getAttr ov attr true
   let v ← holding [old] (eval value env)
   standAt pos
   operate [old, v] (inplaceOp op old v)
  standAt tpos.atName
  holding [new, ov] (setAttr ov attr new)
  release [new, ov] []
  pure .next) rfl ?_
 refine cS (cB' h fun ov a7 b6 => ?_)
 refine cB (cH (cS (cB' b6 fun old a8 f8 => cHB f8 fun v f7 i8 => cS (cO (cM i8 fun new u7 u8 => ?_)))))
 exact cS (cHB u8 fun _ _ B6 => cB (cC (wpAny_release (cP B6))))
theorem Jt {o i value : Expr} {tpos pos : Pos} {op : Operator} {Q : Flow -> Shared -> Prop}
 (h : wpC M A (eval o env) (fun ov a7 => wpC M A (eval i env) (fun iv a8 => wpC M A (getItem ov iv) (fun old f7 =>
  wpC M A (eval value env) (fun v u7 => wpC M A (inplaceOp op old v) (fun new R9 =>
   wpC M A (setItem ov iv new) (fun _ => Q .next) E R9) E u7) E f7) E a8) E a7) E s)
 (hi : ∀ ov iv new, augStore i ov iv new = (do holding [new, ov, iv] (setItem ov iv new); release [new, ov, iv] []; pure .next) := by intros; rfl) :
 wpC M A (exec (.AugAssign (.Subscript o i tpos) op value pos) env) Q E s := by
 refine cE (t' := do
  standAt pos
  let ov ← eval o env
  let iv ← holding [ov] (eval i env)
  let new ← holding [ov, iv] do
   standAt tpos
   let old ← getItem ov iv
   let v ← holding [old] (eval value env)
   standAt pos
   operate [old, v] (inplaceOp op old v)
  standAt tpos
  augStore i ov iv new) rfl ?_
 refine cS (cB' h fun ov a7 b6 => cHB b6 fun iv a8 f8 => ?_)
 refine cB (cH (cS (cB' f8 fun old f7 i8 => cHB i8 fun v u7 u8 => cS (cO (cM u8 fun new R9 B6 => ?_)))))
 refine cS (cE (hi _ _ _) ?_)
 exact cHB B6 fun _ _ zf => cB (cC (wpAny_release (cP zf)))
def F5 (M : Model) (A : Around) (env : Env) (E : VP) : VP :=
 fun x s' => wpC M A (do
  if (← field x 1) == .none then unsupported "frame.own-activation:exception-without-traceback"
  setFlight x env.frame) (fun _ s'' => E x s'') E s'
theorem dq {c : Code} {h : Option Value} {Q : Flow -> Shared -> Prop}
 (hc : l5 M (A.mark h) c (fun r s' => match r with | .ok f => Q f s' | .error e => F5 M A env E e s') s) (hnb : h ≠ some byPass := by intro x; cases x) :
 wpC M A (runOwn c env h) Q E s := by
 unfold runOwn
 exact cR (Jr hc hnb)
theorem cFor {target iter body orelse pos} {Q : Flow -> Shared -> Prop}
 (h : wpC M A (eval iter env) (fun x a7 => wpC M A (pyIter x) (fun it a8 =>
  l5 M A (.forLoop target it body orelse env) (fun r s' => match r with | .ok f => Q f s' | .error e => F5 M A env E e s') a8) E a7) E s)
 (hs : ∀ x, foldedSetIterable iter env x = pure x := by intro _; rfl) :
 wpC M A (exec (.For target iter body orelse pos) env) Q E s := by
 rw [PySem.exec_For]
 refine cS (cB' h fun x a7 b6 => ?_)
 rw [hs]
 exact cPB (cS (cHB b6 fun it a8 f8 => dq f8))
theorem zP {test body orelse pos} {Q : Flow -> Shared -> Prop}
 (h : l5 M A (.whileLoop test body orelse env) (fun r s' => match r with | .ok f => Q f s' | .error e => F5 M A env E e s') s) :
 wpC M A (exec (.While test body orelse pos) env) Q E s := by
 rw [exec_While]; exact cS (dq h)
def m7 (M : Model) (A : Around) (env : Env) (E : VP) : VP :=
 fun x s' => wpC M A (noteFrame x env) (fun _ s'' => E x s'') E s'
theorem N3 {m : Sem α} {Q : α -> Shared -> Prop} (h : wpC M A m Q (m7 M A env E) s) : wpC M A (m.onRaise fun x => do noteFrame x env; theTreesLotGoes x) Q E s :=
 cR (cM h (fun _ _ q => q) fun _ _ hx => cB (cM hx fun _ _ e => cC (wpAny_theTreesLotGoes e)))
end
section
variable {prog : Program} {w : World} {A : Around} {E : VP} {R : Result -> Shared -> Prop} {s : Shared} {env : Env}
theorem jr {e pos} {Q : Flow -> Shared -> Prop} (h : wpC (model prog w) A (eval e env) (fun _ => Q .next) E s)
 (hi : interactive env = false := by rfl) (hs : swapsWith e none pos.line env = pure false := by rfl) :
 wpC (model prog w) A (exec (.Expr e pos) env) Q E s := by
 rw [exec_Expr env e pos hi hs]
 exact cS (cB' h fun v s' h' => cC (wpAny_dropValue h'))
theorem Jv {value : Expr} {attr : Str} {pos : Pos} {Q : VP}
 (h : wpC (model prog w) A (eval value env) (fun o a7 => wpC (model prog w) A (getAttr o attr true) Q E a7) E s)
 (he : eval (.Attribute value attr pos) env = (do
  let o ← eval value env
  standAt pos.atName
  let r ← holding [o] (getAttr o attr true)
  letTemporaryGo value o r
  pure r) := by with_unfolding_all rfl) :
 wpC (model prog w) A (eval (.Attribute value attr pos) env) Q E s :=
 cE he (cB' h fun o a7 b6 => cS (cHB b6 fun r a8 f8 => cB (cC (wpAny_letTemporaryGo (cP f8)))))
theorem zb {stmts : List Stmt}
 (h : wpC (model prog w) A (execs stmts env) (fun f s' => R (.ok f) s') (m7 (model prog w) A env fun e s' => R (.error e) s') s) : l5 (model prog w) A (.block stmts env) R s := by
 refine kT rfl ?_
 show wpC _ _ (do return Fin.done (← (execs stmts env).onRaise (fun x => do noteFrame x env; theTreesLotGoes x))) _ _ s
 exact cB (N3 (cM h fun f s' h' => cP h'))
theorem za {test body orelse} (I : Nat -> Shared -> Prop)
 (turn : ∀ n s, I n s →
  wpC (model prog w) A (isTrue test env (eval test env)) (fun b a8 =>
   if b then wpC (model prog w) A (execs body env) (fun f f7 => match f with
    | .next | .cont => ∃ m, m < n ∧ I m f7
    | .brk => R (.ok .next) f7
    | .ret v => R (.ok (.ret v)) f7) (m7 (model prog w) A env fun e s' => R (.error e) s') a8
   else wpC (model prog w) A (execs orelse env) (fun f f7 => R (.ok f) f7) (m7 (model prog w) A env fun e s' => R (.error e) s') a8)
   (m7 (model prog w) A env fun e s' => R (.error e) s') s)
 (n : Nat) (h : I n s) : l5 (model prog w) A (.whileLoop test body orelse env) R s := by
 refine iy rfl rfl I (fun n s hI => ?_) n h
 show wpC _ A ((whileTurn test body orelse env).onRaise (fun x => do noteFrame x env; theTreesLotGoes x)) _ _ s
 refine N3 ?_
 simp only [whileTurn]
 refine cB' (turn n s hI) fun b a8 f8 => ?_
 cases b with
 | false => exact cB' f8 fun f f7 i8 => cP i8
 | true =>
  refine cB' f8 fun f f7 i8 => ?_
  cases f with
  | next => exact cP (.inl ⟨rfl, i8⟩)
  | cont => exact cP (.inl ⟨rfl, i8⟩)
  | brk => exact cP i8
  | ret v => exact cP i8
theorem kFor {target it body orelse} (I : Nat -> Shared -> Prop)
 (turn : ∀ n s, I n s -> wpC (model prog w) A (pyNext it) (fun r a7 => match r with
  | none => wpC (model prog w) A (execs orelse env) (fun f f7 => R (.ok f) f7) (m7 (model prog w) A env fun e s' => R (.error e) s') a7
  | some v => wpC (model prog w) A (letOwnedTupleGo target it v) (fun _ oA =>
   wpC (model prog w) A (assign target env v) (fun _ a8 => wpC (model prog w) A (execs body env) (fun f f7 => match f with
    | .next | .cont => ∃ m, m < n ∧ I m f7
    | .brk => R (.ok .next) f7
    | .ret v => R (.ok (.ret v)) f7) (m7 (model prog w) A env fun e s' => R (.error e) s') a8) (m7 (model prog w) A env fun e s' => R (.error e) s') oA) (m7 (model prog w) A env fun e s' => R (.error e) s') a7) (m7 (model prog w) A env fun e s' => R (.error e) s') s)
 (n : Nat) (h : I n s) : l5 (model prog w) A (.forLoop target it body orelse env) R s := by
 refine iy rfl rfl I (fun n s hI => ?_) n h
 show wpC _ A ((forTurn target it body orelse env).onRaise (fun x => do noteFrame x env; theTreesLotGoes x)) _ _ s
 refine N3 ?_
 simp only [forTurn]
 refine cS (cB (cR (cM (turn n s hI) (fun r a7 b6 => ?_) fun _ _ h' => cC (wpAny_standAt h'))))
 cases r with
 | none => exact cP (.inr ⟨rfl, zb b6⟩)
 | some v =>
  refine cB' b6 fun _ oA Gs => cB' Gs fun _ a8 f8 => cB' f8 fun f f7 i8 => ?_
  cases f with
  | next => exact cP (.inl ⟨rfl, i8⟩)
  | cont => exact cP (.inl ⟨rfl, i8⟩)
  | brk => exact cP i8
  | ret v => exact cP i8
theorem oW {body}
 (h : wpC (model prog w) (A.deeper env) (execs body env) (fun f s' => R (.ok (.ret (match f with | .ret v => v | _ => .none))) s')
  (fun e s' => wpC (model prog w) (A.deeper env) (leaving env e) (fun _ s'' => R (.error e) s'') (fun e' s'' => R (.error e') s'') s') s) :
 l5 (model prog w) A (.func body env) R s := by
 refine kT rfl ?_
 show wpC _ (A.deeper env) (do point; match ← (execs body env).onRaise (leaving env) with | .ret v => ret v | _ => ret .none) _ _ s
 refine cB (cC (wpAny_point (cB (cR (cM h (fun f s' h' => ?_))))))
 cases f <;> exact cP h'
theorem iz {a : Addr} {args : Args} {o : Obj} {fd : FuncData} {body : List Stmt} (hroom : A.depth < recursionLimit)
 (ho : s.heap.get? a = some o)
 (hd' : o.data = .func fd) (hco : fd.scope.isCoroutine = false) (hgen : fd.scope.isGenerator = false) (hbody : fd.body = .stmts body) (hcd : s.heap.CodeRec fd.code fd.qualname)
 (h : wpAny (model prog w) A.in1 (bindArgs fd args) (fun binds a7 =>
  wpAny (model prog w) A.in1 (newFunctionEnv fd.scope fd.globals fd.closure binds (fd.qualname ++ ".<locals>.") (some a) fd.code none fd.builtins)
   (fun env a8 => a8.heap.NoLimit ∧ l5 (model prog w) A (.func body env) R a8) (fun e s' => R (.error e) s') a7) (fun e s' => R (.error e) s') s) :
 l5 (model prog w) A (.call (.ref a) args) R s := by
 refine kT rfl (cC ?_)
 show wpAny _ A.in1 (callAny (.ref a) args) _ _ s
 simp only [callAny]
 refine wpAny_bind (wpAny_load ho ?_)
 obtain ⟨c, oc, vs, tq, hc, hoc, hdc, hq⟩ := hcd
 simp only [hd', callFunction, hco, hgen, hbody, hc]
 rw [hc] at h
 refine wpAny_bind (m := field (.ref c) 1) (wpAny_field hoc hdc hq (wpAny_bind (wpAny_pure ?_)))
 exact wpAny_bind (wpAny_mono h (fun binds a7 b6 => wpAny_bind (wpAny_mono b6 (fun env a8 f8 => wpAny_bind (wpAny_enterFrame f8.1 hroom
  (wpAny_pure (And.intro rfl f8.2)))) fun _ _ h' => h')) fun _ _ h' => h')
end
section
variable {p : Program} {loose : List Str} {mean : ExcName -> Option Value} {mg mb : Str -> Option Value}
variable {prog : Program} {w : World} {A₀ A : Around} {s : Shared} {base h₀ : Heap} {outer : List Env} {L : Addr} {m : Str -> Option Value} {env : Env} {news : List (Addr × Obj)} {K : Frag}
 {R : Result -> Shared -> Prop} {name qual : Str} {params : Arguments} {body : List Stmt} {scope : Scope} {dV kV doc pm cdv ct oc : Value} {an od : Option Addr} {osl : Array (Option Value)} {f : Addr} {args : Args} {binds : List (Str × Value)}
theorem Gm
 (B : Below A₀ base outer h₀) (F : Fr h₀ L s.heap m) (ow : K.In h₀) (N : News h₀ L s.heap news) (T : Top p loose mean mg mb h₀) (hA : A.frames = some (env :: outer)) (hf : env.frame = some L) (hke : env.scope.kind = .function)
 (ho : K.lookup f = some ⟨oc, od, .func (fnOf name qual params body scope dV kV doc pm an cdv ct), osl⟩) (hcd : codeIn K cdv qual = true) (hroom : A.depth < recursionLimit)
 (hbind : BindsTo s (fnOf name qual params body scope dV kV doc pm an cdv ct) args binds) (hkind : (binds.all fun y => scope.names.lookup y.1 == some .local || scope.names.lookup y.1 == some .cell) = true)
 (hnd : ((cellsFrom 0 scope.names []).map (·.1)).Nodup)
 (h : ∀ g L' b6 tk cells, Fr h₀ L g m -> Fr g L' b6 (bindL (envOfC qual scope L' f cdv).kindOf binds fun _ => none) -> News g L' b6 (cells ++ news) →
  CellsAre (bindC (envOfC qual scope L' f cdv).kindOf binds fun _ => none) (cellsFrom (L' + 1) scope.names []) cells -> Below A base (env :: outer) g -> K.In g -> Top p loose mean mg mb g -> (∀ p ∈ news, p.1 < L') →
  wpC (model prog w) (A.deeper (envOfC qual scope L' f cdv)) (execs body (envOfC qual scope L' f cdv))
   (fun fl s' => LeaveK h₀ L m g R (match fl with | .ret v => v | _ => .none) s')
   (fun e s' => wpC (model prog w) (A.deeper (envOfC qual scope L' f cdv)) (leaving (envOfC qual scope L' f cdv) e) (fun _ s'' => R (.error e) s'') (fun e' s'' => R (.error e') s'') s')
   { s with heap := b6, toks := tk })
 (hco : scope.isCoroutine = false) (hgen : scope.isGenerator = false) (hk : scope.kind = .function) : l5 (model prog w) A (.call (.ref f) args) R s := by
 obtain ⟨FG, BG, st, lv⟩ := groundX (R := R) B F N hA hf hke
 have X1 := ow.keeps F.keep
 refine iz hroom (X1 _ _ ho) rfl hco hgen rfl (codeRec_of X1 hcd) (hbind _ _ _ _ ?_)
 refine wpAny_newFunctionEnv_cells hk (kindsX hkind _) fun env' he s' x => ?_
 subst he
 refine ⟨(T.nolimit.keeps F.keep).keeps x.toInCall.keep, oW ?_⟩
 obtain ⟨b6, tk, rfl, _⟩ := x.done
 have cK := x.toInCall.keep
 obtain ⟨cells, NC, Y⟩ := Cl.news (h₀ := s.heap) (Nat.le_refl _) fun n c hm => ⟨x.cell n c (lookup_of_mem_nodup (cellsFrom_names scope.names 0 (s.heap.objs.size + 1) [] [] rfl ▸ hnd) hm), x.above n c hm⟩
 refine cM (h _ s.heap.objs.size b6 tk cells FG ⟨x.toInCall.ns, fun b o e => cK b o (of_hideAll _ e), Nat.le_of_eq (hideAll_size _ _)⟩ (fun p hp => ?_) Y BG (ow.keeps st) (T.keeps st) (fun p hp => Heap.lt_size (N p hp).1)) (fun fl s' hl => lv _ _ hl)
 rcases List.mem_append.mp hp with hp | hp
 · refine ⟨(NC p hp).1, (NC p hp).2.1, ?_⟩
   cases q : (hideAll s.heap (news.map (·.1))).get? p.1 with
   | none => rfl
   | some o => have := of_hideAll _ q; rw [(NC p hp).2.2] at this; cases this
 · exact ⟨cK _ _ (N p hp).1, Nat.ne_of_lt (Heap.lt_size (N p hp).1), hideAll_none _ (List.mem_map_of_mem hp)⟩
end
section
variable {prog : Program} {w : World} {A : Around} {E : VP} {s : Shared} {env : Env}
theorem nJ {elts : List Expr} {x1} {pos : Pos} {t : Addr} {items : Array Value} {Q : Unit -> Shared -> Prop} (hh : A.handled = none) (ht : IsTup s.heap t items)
 (hn : (assignEach elts env).length = items.size) (hstar : (assignEach elts env).findIdx? (·.1) = none)
 (h : ∀ h', Heap.ExtBut s.heap.objs.size s.heap h' -> wpC (model prog w) A (assignInOrder ((assignEach elts env).map (·.2)) items.toList) Q E { s with heap := h' }) :
 wpC (model prog w) A (assign (.Tuple elts x1 pos) env (.ref t)) Q E s := by
 rw [assign_Tuple]
 refine cS ?_
 unfold unpack
 rw [hn, hstar]
 exact cB (cC (wpAny_holding (unpackItems_tuple hh ht h)))
theorem L9 {id : String} {args : Args} {b : Builtin} {R : Result -> Shared -> Prop} (hn : G7 (.builtin id args) = false) (hb : entryFor table id = some b)
 (h : wpC (model prog w) (A.under (.builtin id args)) (b args) (lJ (model prog w) A R) (fun e s' => R (.error e) s') s) :
 l5 (model prog w) A (.builtin id args) R s := by
 refine kT hn ?_
 show wpC _ _ (match entryFor table id with | some b => b args | none => unsupported ((withoutEnding? id "#data").getD id)) _ _ s
 rw [hb]; exact h
theorem D7 {id : String} {args : Args} {b : Builtin} {R : Result -> Shared -> Prop} (hn : G7 (.builtin id args) = false) (hq : (Code.builtin id args).quiet = true) (hb : entryFor table id = some b)
 (h : wpAny (model prog w) A.in1 (checkBuiltinCall id args) (fun _ a7 => wpC (model prog w) (A.under (.builtin id args)) (b args) (lJ (model prog w) A R) (fun e s' => R (.error e) s') a7)
  (fun e s' => R (.error e) s') s) : l5 (model prog w) A (.call (.builtin id) args) R s := by
 refine kT rfl (cC ?_)
 show wpAny _ A.in1 (do checkBuiltinCall id args; again (.builtin id args)) _ _ s
 exact wpAny_bind (wpAny_mono h (fun _ a7 b6 => wpAny_pure (And.intro hq (L9 hn hb b6))) fun _ _ h' => h')
end
section
variable {prog : Program} {w : World} {A : Around} {C : Addr} {R : Result -> Shared -> Prop} {h : Heap} {g : Array GenState} {d : Drawn} {t : Nat} {os : OsState}
theorem dL {rest : List Value} {init : Value} (Y : Makes (model prog w) h C) (hi : Looks (model prog w) h (typeLookup (.ref C) "__init__") (some init))
 (hb : ∀ self, Looks (model prog w) h (bindSpecial init self) (init, [self])) (hne : (some init != some (Value.builtin "object.__init__")) = true ∨ (rest = [] ∧ ([] : List (Str × Value)) = []))
 (hq : l5 (model prog w) (A.under (.builtin "type.__call__" ⟨.ref C :: rest, []⟩)) (.call init ⟨.ref (h.objs.size + 1) :: rest, []⟩) (InitBack (h.objs.size + 1) R) ⟨(h.push emptyDict).push (instObj C h.objs.size), g, d, t, os⟩) :
 l5 (model prog w) A (.call (.ref C) ⟨rest, []⟩) R ⟨h, g, d, t, os⟩ := by
 have Y' := Y
 obtain ⟨⟨oc, od, cd, sl, hC, e1, e2, e4⟩, made, base, self, top, call, typ⟩ := Y
 refine kT rfl (cC ?_)
 show wpAny _ _ (callAny (.ref C) _) _ _ _
 refine nd_load hC ?_
 show wpAny _ _ (callAny.viaDunder (.ref C) _) _ _ _
 unfold callAny.viaDunder
 refine wpAny_bind (call.at ?_)
 dsimp only
 rw [tc_bind]
 refine wpAny_bind (wpAny_pure (wpAny_bind (wpAny_pure ?_)))
 refine wpAny_pure (a := Fin.again (.call (.builtin "type.__call__") ⟨.ref C :: rest, []⟩)) (And.intro rfl ?_)
 refine D7 (by show PySem.Builtin.Bytes.decodersThatHold.contains "type.__call__" = false; decide +kernel) (Code.quiet_builtin _ (by decide +kernel)) entry_typeCall (check_slot tc_kind tc_split typ (tc_args _ _ _) ?_)
 unfold Builtin.«type.__call__»
 have hm : Looks (model prog w) h (mroOf (.ref C)) cd.mro := ((Looks.ld (part := none) hC).andThen .now).andThen .now
 have k : ∀ b o, h.get? b = some o -> ((h.push emptyDict).push (instObj C h.objs.size)).get? b = some o := fun b o e => Heap.get?_push_of_some _ (Heap.get?_push_of_some _ e)
 have hx : ((h.push emptyDict).push (instObj C h.objs.size)).get? (h.objs.size + 1) = some (instObj C h.objs.size) := by heap_get
 have t1 : Looks (model prog w) ((h.push emptyDict).push (instObj C h.objs.size)) (typeOf (.ref (h.objs.size + 1))) (.ref C) := (Looks.ld hx).andThen .now
 have s1 := self.keeps k
 have i1 := hi.keeps k
 have b1 := (hb (.ref (h.objs.size + 1))).keeps k
 dsimp only
 refine cE (if_neg (fun x => Bool.false_ne_true x)) ?_
 refine cB (cC (hm.at ?_))
 refine cE (if_neg (by rw [e4]; exact Bool.false_ne_true)) ?_
 refine cB (cC (made.at ?_))
 dsimp only
 refine cPB (cB (cH (H7 (kC (new_K Y' hi hne ?_)))))
 dsimp only
 refine cB (cC ((show Looks _ _ (isInstance (.ref (h.objs.size + 1)) (.ref C)) true from t1.andThen s1).at ?_))
 refine cE (if_neg (fun x => Bool.false_ne_true x)) ?_
 refine cB (cH ?_)
 unfold callSpecial?
 refine cB (cC ((show Looks _ _ (specialOf (.ref (h.objs.size + 1)) "__init__") (some init) from t1.andThen i1).at ?_))
 dsimp only
 refine cH (cB (cC (b1.at ?_)))
 dsimp only
 refine cB (H7 (kM hq fun r s' z => ?_))
 rcases r with e | (v | _ | _ | _) <;> first | exact z | exact z.elim | skip
 obtain ⟨rfl, z⟩ := z
 exact cP (cP z)
theorem jw {K : Frag} {h₀ : Heap} {L : Addr} {m : Str -> Option Value} {news : List (Addr × Obj)} {s : Shared} {E : VP} {Q : VP} {pos : List Value} {fI : Addr} (F : Fr h₀ L s.heap m) (ow : K.In h₀) (N : News h₀ L s.heap news) (hm : makesIn K C = true) (hi : findIn K (.ref C) "__init__" = some (some (.ref fI))) (hf : isFn K (.ref fI) = true)
 (hq : ∀ x dx h', Fr h₀ L h' m -> News h₀ L h' ((x, instObj C dx) :: (dx, dictOf [] 0) :: news) -> (∀ p ∈ news, p.1 < dx) -> dx < x →
  l5 (model prog w) (A.under (.builtin "type.__call__" ⟨.ref C :: pos, []⟩)) (.call (.ref fI) ⟨.ref x :: pos, []⟩) (InitBack x fun r s' => match r with | .ok (.ret v) => Q v s' | .ok _ => False | .error e => E e s') { s with heap := h' }) :
 wpC (model prog w) A (call (.ref C) pos) Q E s := by
 obtain ⟨hh, g, d, t, os⟩ := s
 have X := ow.keeps F.keep
 refine H7 (dL (makes_of X hm) (looks_findIn X hi) (fun self => bind_fn X self (beq_iff_eq.mp hf)) (.inl rfl) (hq _ hh.objs.size _ ((F.push _).push _) ?_ (fun p hp => Heap.lt_size (N p hp).1) (Nat.lt_succ_self _)))
 have := (N.push F emptyDict).push (F.push _) (instObj C hh.objs.size)
 rwa [Heap.size_push] at this
end
noncomputable def J8 (ct : Option Expr) (env : Env) : Sem Bool := match ct with | none => pure true | some c => isTrue c env (eval c env)
theorem eT (ct : Option Expr) (env : Env) :
 (forIn ct.toList true fun c r => if r = true then do let ok ← isTrue c env (eval c env); pure (ForInStep.yield ok) else pure (ForInStep.yield r) : Sem Bool) = J8 ct env >>= fun b => pure b := by
 cases ct with
 | none => rfl
 | some c =>
  simp only [Option.toList_some, List.forIn_cons, List.forIn_nil, if_true, J8, bind_assoc, pure_bind]
section
variable {prog : Program} {w : World} {A : Around} {E : VP} {s : Shared} {env : Env} {R : Result -> Shared -> Prop}
theorem dM {elt target iter : Expr} {ct : Option Expr} {scope : Scope} {pos : Pos} {it acc : Value} (I : Nat -> Shared -> Prop)
 (turn : ∀ n s, I n s -> wpC (model prog w) A (pyNext it) (fun r a7 => match r with
  | none => R (.ok .next) a7
  | some v => wpC (model prog w) A (assign target env v) (fun _ a8 =>
   wpC (model prog w) A (J8 ct env) (fun ok f7 =>
    if ok = true then wpC (model prog w) A (eval elt env) (fun x u7 =>
     wpC (model prog w) A (call (.builtin "list.append") [acc, x]) (fun _ R9 => ∃ m, m < n ∧ I m R9) (m7 (model prog w) A env fun e s' => R (.error e) s') u7) (m7 (model prog w) A env fun e s' => R (.error e) s') f7
    else ∃ m, m < n ∧ I m f7) (m7 (model prog w) A env fun e s' => R (.error e) s') a8) (m7 (model prog w) A env fun e s' => R (.error e) s') a7) (m7 (model prog w) A env fun e s' => R (.error e) s') s)
 (n : Nat) (h : I n s) (ht : ∀ v, letOwnedTupleGo target it v = pure () := by intro _; rfl) :
 l5 (model prog w) A (.compLoop (.ListComp elt [⟨target, iter, ct.toList, 0⟩] scope pos) 0 it acc env) R s := by
 refine iy rfl rfl I (fun n s hI => ?_) n h
 show wpC _ A ((compTurn (.ListComp elt [⟨target, iter, ct.toList, 0⟩] scope pos) 0 it acc env).onRaise (fun x => do noteFrame x env; theTreesLotGoes x)) _ _ s
 refine N3 ?_
 rw [compTurn_list]
 refine cS (cB' (turn n s hI) fun r a7 b6 => ?_)
 cases r with
 | none => exact cP b6
 | some v =>
  refine cB (cE (ht v) (cP (cB' b6 fun _ a8 f8 => cB (cE (eT ct env) (cB' f8 fun ok f7 i8 => cP ?_)))))
  cases ok with
  | false => exact cP (.inl ⟨rfl, i8⟩)
  | true => exact cB (cB' i8 fun x u7 u8 => cB' u8 fun _ R9 B6 => cP (cP (.inl ⟨rfl, B6⟩)))
theorem bn {elt target iter : Expr} {ifs : List Expr} {scope : Scope} {pos : Pos} {it acc : Value}
 (h : wpC (model prog w) A (pyNext it) (fun r a7 => r = none ∧ R (.ok .next) a7) (m7 (model prog w) A env fun e s' => R (.error e) s') s) :
 l5 (model prog w) A (.compLoop (.ListComp elt [⟨target, iter, ifs, 0⟩] scope pos) 0 it acc env) R s := by
 refine kT rfl ?_
 show wpC _ A ((compTurn (.ListComp elt [⟨target, iter, ifs, 0⟩] scope pos) 0 it acc env).onRaise (fun x => do noteFrame x env; theTreesLotGoes x)) _ _ s
 refine N3 ?_
 rw [compTurn_list]
 refine cS (cB' h fun r a7 b6 => ?_)
 obtain ⟨rfl, b6⟩ := b6
 exact cP b6
theorem bm {elt target iter ifs rest scope pos it acc}
 (h0 : l5 (model prog w) A (.compLoop (.ListComp elt (⟨target, iter, ifs, 0⟩ :: rest) scope pos) 0 it acc env) R s)
 (h : ∀ E', wpAny (model prog w) A (pyIter it) (fun it' s' => l5 (model prog w) A (.compLoop (.ListComp elt (⟨target, iter, ifs, 0⟩ :: rest) scope pos) 0 it' acc env) R s') E' s) :
 l5 (model prog w) A (.compStart (.ListComp elt (⟨target, iter, ifs, 0⟩ :: rest) scope pos) 0 it acc env) R s := by
 refine kT rfl ?_
 show wpC _ _ ((compStart (.ListComp elt (⟨target, iter, ifs, 0⟩ :: rest) scope pos) 0 it acc env).onRaise (fun x => do noteFrame x env; standAt theWindowsPlace)) _ _ s
 refine cC (wpAny_notedAt ?_)
 unfold compStart
 show wpAny _ _ (ask >>= _) _ _ s
 refine wpAny_bind (wpAny_askSetting (wpAny_ite ?_))
 split
 · first
    | exact wpAny_bind (wpAny_pure (wpAny_pure (And.intro rfl h0)))
    | exact wpAny_pure (And.intro rfl h0)
 · first
    | exact wpAny_bind (wpAny_rule (wpAny_bind (wpAny_standAt (wpAny_bind (wpAny_mono (h _) (fun it' s' h' => wpAny_pure (And.intro rfl h')) fun _ _ x => x)))))
    | (refine wpAny_bind (wpAny_rule ?_); show wpAny _ _ (standAt iter.pos >>= _) _ _ s; exact wpAny_bind (wpAny_standAt (wpAny_bind (wpAny_mono (h _) (fun it' s' h' => wpAny_pure (And.intro rfl h')) fun _ _ x => x))))
theorem jq {α : Type} {M : Model} {c : Prop} [Decidable c] {pos : Pos} {k : PUnit -> Sem α} {Q : α -> Shared -> Prop} (h : wpC M A (k ()) Q E s) :
 wpC M A (if c then (standAt pos >>= k) else k ()) Q E s := by
 split
 · exact cS h
 · exact h
def hJ (M : Model) (A : Around) (E : VP) (use : Option (Value -> Sem Unit)) (Q : VP) (acc : Value) (C : Addr) (r : Result) (s' : Shared) : Prop :=
 match r, use with
 | .ok _, none => ∃ m, s'.heap.Ns C m ∧ ∀ h', Heap.SameBut C s'.heap h' -> Q acc { s' with heap := h' }
 | .ok _, some u => wpAny M A (u acc) (fun _ s'' => ∃ m, s''.heap.Ns C m ∧ ∀ h', Heap.SameBut C s''.heap h' -> Q .none { s'' with heap := h' }) E s'
 | .error x, _ => False
theorem pn {M : Model} {e : Expr} {scope : Scope} {pos : Pos} {newAcc first : Sem Value} {g : Comprehension} {gs : List Comprehension} {cl : List (Str × Addr)} {use : Option (Value -> Sem Unit)}
 {Q : VP}
 (hcl : clausesOf e = g :: gs) (hs : ∀ x, foldedSetIterable g.iter env x = pure x) (hclos : closureFor scope env = pure cl)
 (hkind : scope.kind = .function) (hnames : ∀ x ∈ scope.names, x.2 = .local -> scope.names.lookup x.1 = some .local)
 (h : wpC M A first (fun x a7 => wpAny M A (pyIter x) (fun it a8 => wpAny M A newAcc (fun acc f7 =>
  wpAny M A (newFunctionEnv scope env.globals cl [] env.qual none .none (some env)) (fun cenv u7 =>
   l5 M A (.compStart e 0 it acc { cenv with scope := relabel scope env }) (hJ M A E use Q acc cenv.locals) u7) E f7) E a8) E a7) E s) :
 wpC M A (comprehension e scope env pos newAcc false first use) Q E s := by
 unfold comprehension
 rw [hclos, hcl]
 refine cB' h fun x a7 b6 => cS (cB (cE (hs x) (cP (cHB (cC b6) fun it a8 f8 => jq (cB' (cC f8) fun acc f7 i8 => cPB (cB' (cC i8) fun cenv u7 u8 => ?_))))))
 dsimp only
 have hv : ∀ x ∈ (scope.names.filter fun x => (x.2 == .local || x.2 == .cell) && x.1 != (".0" : Str)).reverse, x.2 = .local →
  Env.kindOf { cenv with scope := relabel scope env } x.1 = some .local := fun x hx hl => lookup_relabel_local (hnames x (List.mem_filter.mp (List.mem_reverse.mp hx)).1 hl)
 have hv' : ∀ x ∈ (scope.names.filter fun x => (x.2 == .local || x.2 == .cell) && x.1 != (".0" : Str)).reverse.drop 1 ++ (scope.names.filter fun x => (x.2 == .local || x.2 == .cell) && x.1 != (".0" : Str)).reverse.take 1,
  x.2 = .local -> Env.kindOf { cenv with scope := relabel scope env } x.1 = some .local := fun x hx hl => by
  rcases List.mem_append.mp hx with h1 | h1
  · exact hv x (List.mem_of_mem_drop h1) hl
  · exact hv x (List.mem_of_mem_take h1) hl
 refine cH (cB (cA (cH (Jr (kM u8 fun r s' hr => ?_)))))
 cases r with
 | ok f =>
  cases use with
  | none =>
   obtain ⟨m, hn, hr⟩ := hr
   exact cC (wpAny_bind (wpAny_holding (wpAny_comp_letGo (cenv := { cenv with scope := relabel scope env }) hkind _ s' m hv hn fun h' m' _ hs' => wpAny_pure (hr h' hs'))))
  | some u =>
   refine cC (wpAny_bind (wpAny_rule (wpAny_bind (wpAny_holding (wpAny_mono hr (fun _ s'' hr' => ?_) fun _ _ h' => h')))))
   obtain ⟨m, hn, hr'⟩ := hr'
   exact wpAny_bind (wpAny_comp_letGo (cenv := { cenv with scope := relabel scope env }) hkind _ s'' m hv' hn fun h' m' _ hs' => wpAny_pure (hr' h' hs'))
 | error x => exact hr.elim
end
open LCg in
def aO (prog : Program) (w : World) (A : Around) (h₀ : Heap) (L : Addr) (m : Str -> Option Value) (env : Env) (ct : Option Expr) (elt : Expr) (x : Str) (scope : Scope) (cl : List (Str × Addr)) (s : Shared) (S : List (Addr × Obj) -> Prop) (P : Nat -> Value -> Prop)
 (Fin : List Value -> List (Addr × Obj) -> Prop) : Nat -> Nat -> List Value -> List (Addr × Obj) -> Prop
 | 0, _, ys, news => Fin ys news
 | k + 1, i, ys, news => ∀ v I oI C oC D w0 h tk (E' : VP), P i v -> NsObj oC w0 -> w0 x = some v -> Fr h₀ L h m -> News h₀ L h ((I, oI) :: (C, oC) :: (D, lst ys) :: news) -> Off3 I C D news -> ((@Ne Nat I C) ∧ (@Ne Nat I D) ∧ (@Ne Nat C D)) →
  wpC (model prog w) A (J8 ct (compEnvC scope cl C env)) (fun ok s' => if ok = true then
   wpC (model prog w) A (eval elt (compEnvC scope cl C env)) (CompEnd h₀ L m { s with heap := h, toks := tk } I oI C oC D (lst ys) S (fun y news' => aO prog w A h₀ L m env ct elt x scope cl s S P Fin k (i + 1) (ys ++ [y]) news')) E' s'
   else CompEnd h₀ L m { s with heap := h, toks := tk } I oI C oC D (lst ys) S (fun _ news' => aO prog w A h₀ L m env ct elt x scope cl s S P Fin k (i + 1) ys news') Value.none s') E' { s with heap := h, toks := tk }
open LCg in
inductive JJ (prog : Program) (w : World) (A : Around) (h₀ : Heap) (L : Addr) (m : Str -> Option Value) (env : Env) (ct : Option Expr) (elt : Expr) (x : Str) (scope : Scope) (cl : List (Str × Addr)) (a8 : Shared) (S : List (Addr × Obj) -> Prop) (P : Nat -> Value -> Prop)
 (Fin : List Value -> List (Addr × Obj) -> Prop) (n : Nat) (St : Nat -> Heap -> Prop) (I D C : Addr) (k : Nat) (s' : Shared) : Prop
 | mk (h' : Heap) (tk i : Nat) (ys : List Value) (m' : Str -> Option Value) (news' : List (Addr × Obj)) (e : s' = { a8 with heap := h', toks := tk }) (hi : i ≤ n) (hk : k = n + 1 - i) (hy : ys.length ≤ i) (hst : St i h') (F : Fr h₀ L h' m) (hn : h'.Ns C m') (N : News h₀ L h' ((D, lst ys) :: news')) (off : Off3 I C D news') (hS : S news') (R : aO prog w A h₀ L m env ct elt x scope cl a8 S P Fin (n - i) i ys news')
section
open LCg
variable {prog : Program} {w : World} {A : Around} {E : VP} {s : Shared} {h₀ : Heap} {L : Addr} {m : Str -> Option Value} {env : Env}
theorem du {ct : Option Expr} {elt iter t : Expr} {x : Str} {scope : Scope} {cl : List (Str × Addr)} {pos : Pos} {a8 : Shared} {I : Addr} {fp : List Addr} {n : Nat} {P : Nat -> Value -> Prop} {St : Nat -> Heap -> Prop} {S : List (Addr × Obj) -> Prop} {news : List (Addr × Obj)}
 {Fin : List Value -> List (Addr × Obj) -> Prop} {RR : Value -> Addr -> Result -> Shared -> Prop}
 (ht : (∃ px, t = .Name x px) ∨ n = 0) (W : Walks prog w A I fp [I] n P St) (hsz : n ≤ sizeLine) (hIo : ∀ i h, St i h -> ∃ o, h.get? I = some o)
 (hSt : ∀ i h h' o nw, St i h -> h.get? I = some o -> h'.get? I = some o -> (∀ b o, h₀.get? b = some o -> h'.get? b = some o) -> News h₀ L h' nw -> S nw -> St i h')
 (hcell : ∀ y ∈ scope.names, y.2 ≠ .cell) (hkind : scope.kind = .function) (hx : scope.names.lookup x = some .local) (hst : St 0 a8.heap) (hfp : ∀ b ∈ fp, b < a8.heap.objs.size)
 (F : Fr h₀ L a8.heap m) (N : News h₀ L a8.heap news) (hIL : L ≠ I) (cN : h₀.get? I = none) (off : ∀ p ∈ news, p.1 ≠ I) (hS : S news)
 (R : aO prog w A h₀ L m env ct elt x scope cl a8 S P Fin n 0 [] news)
 (hRR : ∀ D C h tk m' ys news', Fr h₀ L h m -> News h₀ L h ((D, lst ys) :: news') -> Off1 D news' -> h.Ns C m' -> h₀.get? C = none -> h₀.get? D = none -> C ≠ L -> D ≠ L -> C ≠ D -> (∀ p ∈ news', p.1 ≠ C) -> Fin ys news' -> RR (.ref D) C (.ok .next) { a8 with heap := h, toks := tk }) :
 wpAny (model prog w) A (newList []) (fun acc f7 => wpAny (model prog w) A (newFunctionEnv scope env.globals cl [] env.qual none .none (some env)) (fun cenv u7 =>
  l5 (model prog w) A (.compStart (.ListComp elt [⟨t, iter, ct.toList, 0⟩] scope pos) 0 (.ref I) acc { cenv with scope := relabel scope env }) (RR acc cenv.locals) u7) E f7) E a8 := by
 refine wpAny_newObj_type (wpAny_newFunctionEnv hcell (by intro y hy; simp at hy) (fun b6 E9 B7 => ?_) hkind)
 dsimp only at E9 B7 ⊢
 generalize hH2 : a8.heap.push { cls := .type "list", dict := none, data := .seq ([] : List Value).toArray } = H2 at E9 B7 ⊢
 have hC : H2.objs.size = a8.heap.objs.size + 1 := by rw [← hH2, Heap.size_push]
 have hDC : a8.heap.objs.size ≠ H2.objs.size := by rw [hC]; exact Nat.ne_of_lt (Nat.lt_succ_self _)
 have below : ∀ b, b < a8.heap.objs.size -> b ≠ H2.objs.size ∧ b ≠ a8.heap.objs.size := fun b hb => ⟨by rw [hC]; exact Nat.ne_of_lt (Nat.lt_succ_of_lt hb), Nat.ne_of_lt hb⟩
 have hDf : a8.heap.objs.size ∉ fp := fun hm => Nat.lt_irrefl _ (hfp _ hm)
 have hCf : H2.objs.size ∉ fp := fun hm => by have := hfp _ hm; rw [hC] at this; exact Nat.lt_irrefl _ (Nat.lt_of_succ_lt this)
 have hIf : I ∈ fp := W.sub I (List.mem_singleton.mpr rfl)
 have hIlt : I < a8.heap.objs.size := hfp I hIf
 have old : ∀ b o, a8.heap.get? b = some o -> b6.get? b = some o := fun b o e => B7.extBut b o (below b (Heap.lt_size e)).1 (Heap.get?_push_of_some _ (hH2 ▸ Heap.get?_push_of_some _ e))
 have hacc : b6.get? a8.heap.objs.size = some (lst []) := B7.extBut _ _ hDC (Heap.get?_push_of_some _ (hH2 ▸ Heap.get?_push_size _ rfl))
 have bt : St 0 b6 := W.frame _ _ _ hst fun b _ o e => old b o e
 have fresh : ∀ a, a8.heap.objs.size ≤ a -> a8.heap.get? a = none := fun a ha => by
  cases e : a8.heap.get? a with
  | none => rfl
  | some o' => exact absurd (Heap.lt_size e) (Nat.not_lt.mpr ha)
 have ae : ∀ a, a8.heap.objs.size ≤ a -> h₀.get? a = none := fun a ha => by
  cases e : h₀.get? a with
  | none => rfl
  | some o' => have := F.keep a o' e; rw [fresh a ha] at this; cases this
 have G9 : h₀.get? a8.heap.objs.size = none := ae _ (Nat.le_refl _)
 have H3 : h₀.get? H2.objs.size = none := ae _ (by rw [hC]; exact Nat.le_succ _)
 have hLlt : L < a8.heap.objs.size := F.ns.lt
 have hDL : a8.heap.objs.size ≠ L := Ne.symm (below L hLlt).2
 have hCL : H2.objs.size ≠ L := Ne.symm (below L hLlt).1
 have hCI : I ≠ H2.objs.size := (below I hIlt).1
 have hDI : I ≠ a8.heap.objs.size := (below I hIlt).2
 have V1 : Off3 I H2.objs.size a8.heap.objs.size news := Off3.of fun p hp => ⟨off p hp, (below _ (Heap.lt_size (N p hp).1)).1, (below _ (Heap.lt_size (N p hp).1)).2⟩
 have loop : ∀ f7 : Shared, f7 = { a8 with heap := b6, toks := a8.toks + ([] : List (Str × Value)).length } →
  l5 (model prog w) A (.compLoop (.ListComp elt [⟨t, iter, ct.toList, 0⟩] scope pos) 0 (.ref I) (.ref a8.heap.objs.size) (compEnvC scope cl H2.objs.size env))
   (RR (.ref a8.heap.objs.size) H2.objs.size) f7 := by
  rintro f7 rfl
  rcases ht with ⟨px, rfl⟩ | rfl
  rotate_left
  · refine bn (cC (W.done _ _ _ bt fun f8 bW z7 => ⟨rfl, ?_⟩))
    have F₁ := F.keeps old
    have N₁ : News h₀ L b6 ((a8.heap.objs.size, lst []) :: news) := fun p hp => by
     rcases List.mem_cons.mp hp with rfl | hp
     · exact ⟨hacc, hDL, G9⟩
     · exact ⟨old _ _ (N p hp).1, (N p hp).2⟩
    exact hRR _ _ f8 bW _ [] news (fr_but F₁ z7 hIL cN) (news_but N₁ z7 fun p hp => by
     rcases List.mem_cons.mp hp with rfl | hp
     · exact Ne.symm hDI
     · exact (V1.mem p hp).1) V1.one (E9.at' fun o e => z7 _ o (by simpa using Ne.symm hCI) e) H3 G9 hCL hDL (Ne.symm hDC) (fun p hp => (V1.mem p hp).2.1) R
  refine dM
   (JJ prog w A h₀ L m env ct elt x scope cl a8 S P Fin n St I a8.heap.objs.size H2.objs.size) ?_ (n + 1)
   ⟨b6, _, 0, [], _, news, rfl, Nat.zero_le _, rfl, Nat.le_refl _, bt, F.keeps old, E9, fun p hp => ?_, V1, hS, R⟩
  · rintro k s' ⟨h', tk, i, ys, m', news', rfl, hi, rfl, hyl, hst', F', hn', N', off', hS', R'⟩
    by_cases hlt : i < n
    · obtain ⟨j, hj⟩ : ∃ j, n - i = j + 1 := ⟨n - i - 1, by lia⟩
      rw [hj] at R'
      refine cC (W.item i _ _ _ hlt hst' fun v f8 bW hPv zg z7 => ?_)
      refine cC (wpAny_assign_Name (wpAny_storeName_local (lookup_relabel_local hx) (hn'.at' fun o e => z7 _ o (by simpa using Ne.symm hCI) e) (fun i8 Gw iK => ?_) (by simp [compEnvC, relabel, hkind])))
      have br : St (i + 1) i8 := W.frame _ _ _ zg fun b hb o e => iK.extBut b o (fun q => hCf (by have q' : b = H2.objs.size := q; rw [← q']; exact hb)) e
      obtain ⟨oI, heI⟩ := hIo _ _ br
      obtain ⟨oC, heC, hoC⟩ := ns_obj Gw
      have F₃ : Fr h₀ L i8 m := (fr_but F' z7 hIL cN).change iK hCL H3
      have off3 := off'.mem
      have N₂ : News h₀ L f8 ((a8.heap.objs.size, lst ys) :: news') := news_but N' z7 fun p hp => by
       rcases List.mem_cons.mp hp with rfl | hp
       · exact Ne.symm hDI
       · exact (off3 p hp).1
      have N₃ : News h₀ L i8 ((I, oI) :: (H2.objs.size, oC) :: (a8.heap.objs.size, lst ys) :: news') := fun p hp => by
       rcases List.mem_cons.mp hp with rfl | hp
       · exact ⟨heI, Ne.symm hIL, cN⟩
       · rcases List.mem_cons.mp hp with rfl | hp
         · exact ⟨heC, hCL, H3⟩
         · have z := N₂ p hp
           refine ⟨iK.extBut _ _ ?_ z.1, z.2⟩
           rcases List.mem_cons.mp hp with rfl | hp
           · exact hDC
           · exact (off3 p hp).2.1
      refine cM (R' v I oI H2.objs.size oC a8.heap.objs.size _ i8 _ _ hPv hoC (by simp) F₃ N₃ off' ⟨hCI, hDI, Ne.symm hDC⟩) fun ok u7 u8 => ?_
      cases ok with
      | true =>
       simp only [if_true] at u8 ⊢
       refine cM u8 fun y R9 B6 => ?_
       obtain ⟨u8, eR, D5, rfl, lI, X3, V0, Z9, Af⟩ := B6
       have zI := (X3 (I, oI) List.mem_cons_self).1
       have zC := (X3 (H2.objs.size, oC) (List.mem_cons_of_mem _ List.mem_cons_self)).1
       have zD := (X3 (a8.heap.objs.size, lst ys) (List.mem_cons_of_mem _ (List.mem_cons_of_mem _ List.mem_cons_self))).1
       have R5 : News h₀ L u8 D5 := fun p hp => X3 p (List.mem_cons_of_mem _ (List.mem_cons_of_mem _ (List.mem_cons_of_mem _ hp)))
       have bq : St (i + 1) u8 := hSt _ _ _ _ _ br heI zI lI.keep R5 Z9
       refine cC (append_at (hsz := by show ys.toArray.size ≤ sizeLine; rw [List.size_toArray]; exact Nat.le_trans (Nat.le_trans hyl hi) hsz) zD fun B6 cJ GA => ?_)
       have off4 := V0.mem
       refine ⟨n + 1 - (i + 1), by lia, B6, eR, i + 1, ys ++ [y], _, D5, rfl, hlt, rfl, by rw [List.length_append, List.length_singleton]; exact Nat.succ_le_succ hyl, W.frame _ _ _ bq fun b hb o e => cJ.extBut b o (fun q => hDf (q ▸ hb)) e, lI.change cJ hDL G9,
        (hoC.ns zC).sameBut cJ (Ne.symm hDC), fun p hp => ?_, V0, Z9, ?_⟩
       · rcases List.mem_cons.mp hp with rfl | hp
         · exact ⟨GA.trans (congrArg some (lst_snoc ys y)), hDL, G9⟩
         · exact ⟨cJ.extBut _ _ (off4 p hp).2.2 (R5 p hp).1, (R5 p hp).2⟩
       · rw [show n - (i + 1) = j by lia]
         exact Af
      | false =>
       simp only [Bool.false_eq_true, if_false] at u8 ⊢
       obtain ⟨B6, eR, D5, rfl, lI, X3, V0, Z9, Af⟩ := u8
       have zI := (X3 (I, oI) List.mem_cons_self).1
       have zC := (X3 (H2.objs.size, oC) (List.mem_cons_of_mem _ List.mem_cons_self)).1
       have R5 : News h₀ L B6 D5 := fun p hp => X3 p (List.mem_cons_of_mem _ (List.mem_cons_of_mem _ (List.mem_cons_of_mem _ hp)))
       have bq : St (i + 1) B6 := hSt _ _ _ _ _ br heI zI lI.keep R5 Z9
       refine ⟨n + 1 - (i + 1), by lia, B6, eR, i + 1, ys, _, D5, rfl, hlt, rfl, Nat.le_succ_of_le hyl, bq, lI, hoC.ns zC, fun p hp => ?_, V0, Z9, ?_⟩
       · rcases List.mem_cons.mp hp with rfl | hp
         · exact X3 _ (List.mem_cons_of_mem _ (List.mem_cons_of_mem _ List.mem_cons_self))
         · exact R5 p hp
       · rw [show n - (i + 1) = j by lia]
         exact Af
    · obtain rfl : i = n := Nat.le_antisymm hi (Nat.not_lt.mp hlt)
      rw [Nat.sub_self] at R'
      refine cC (W.done _ _ _ hst' fun f8 bW z7 => ?_)
      have off3 := off'.mem
      exact hRR _ _ f8 bW _ ys news' (fr_but F' z7 hIL cN) (news_but N' z7 fun p hp => by
       rcases List.mem_cons.mp hp with rfl | hp
       · exact Ne.symm hDI
       · exact (off3 p hp).1) off'.one (hn'.at' fun o e => z7 _ o (by simpa using Ne.symm hCI) e) H3 G9 hCL hDL (Ne.symm hDC) (fun p hp => (off3 p hp).2.1) R'
  · rcases List.mem_cons.mp hp with rfl | hp
    · exact ⟨hacc, hDL, G9⟩
    · exact ⟨old _ _ (N p hp).1, (N p hp).2⟩
 exact bm (loop _ rfl) (fun _ => W.self 0 _ _ _ bt (loop _ rfl))
end
section
variable {prog : Program} {w : World} {A : Around} {E : VP} {s : Shared}
theorem az : typeLookup (.type "int") "__bytes__" = pure none := by rw [typeLookup_type, builtinLookup_eq_fast]; kernel_rfl
theorem aA : typeLookup (.type "int") "__index__" = pure (some (.builtin "int.__index__")) := by rw [typeLookup_type, builtinLookup_eq_fast]; kernel_rfl
theorem aD : typeLookup (.type "bytearray") "__bytes__" = pure none := by rw [typeLookup_type, builtinLookup_eq_fast]; kernel_rfl
theorem aC : typeLookup (.type "bytearray") "__index__" = pure none := by rw [typeLookup_type, builtinLookup_eq_fast]; kernel_rfl
theorem F7 : typeLookup (.type "bytearray") "__buffer__" = pure (some (.builtin "bytearray.__buffer__")) := by rw [typeLookup_type, builtinLookup_eq_fast]; kernel_rfl
theorem au {n : Int} {u : Tok} {Q : VP} (h0 : 0 ≤ n) (h1 : n ≤ 100000) (hQ : ∀ t k, Q (.bytes (Array.replicate n.toNat 0) t) { s with toks := k }) :
 codeAny (model prog w) A (.call (.builtin "bytes.__new__") ⟨[.type "bytes", .int n u], []⟩) (wants Q E) s := by
 refine codeAny_of_tree ?_
 show wpAny _ A.in1 (do checkBuiltinCall "bytes.__new__" ⟨[.type "bytes", .int n u], []⟩; again (.builtin "bytes.__new__" ⟨[.type "bytes", .int n u], []⟩)) _ _ s
 refine wpAny_bind (wpAny_of_eq (F.bm_newCall _) (wpAny_pure ⟨plainId_quiet F.bm_plain _, codeAny_builtin F.bm_entry ?_⟩))
 rw [Around.under_plainId F.bm_plain _]
 have hT : s.TypeIs (.int n u) "int" := typeIs_int s n u
 unfold Builtin.«bytes.__new__»
 refine wpAny_bind (wpAny_of_eq (a := true) rfl ?_)
 refine bm_if_false rfl ?_
 refine wpAny_bind (wpAny_of_eq F.bm_sub ?_)
 refine bm_if_false rfl ?_
 refine wpAny_bind (wpAny_of_eq (F.bm_bind _) ?_)
 refine wpAny_bind (wpAny_of_eq (a := ()) rfl ?_)
 refine wpAny_bind (wpAny_of_eq (a := ()) rfl ?_)
 refine bm_if_false rfl ?_
 refine wpAny_bind (wpAny_specialOf hT az ?_)
 refine wpAny_bind (wpAny_of_eq (a := false) rfl ?_)
 refine bm_if_false rfl ?_
 refine wpAny_bind (wpAny_specialOf hT aA ?_)
 refine bm_if_false rfl ?_
 refine wpAny_bind (wpAny_of_eq (a := .ok n) rfl ?_)
 dsimp only
 refine bm_if_false (by simp [Builtin.Bytes.fitsIndex]; lia) ?_
 rw [if_neg (by lia), if_neg (by lia)]
 refine bm_if_false (by unfold Builtin.Bytes.tooLong; rw [sizeLine_eq]; simp; lia) ?_
 refine wpAny_bind (wpAny_rule (wpAny_bind (wpAny_mkBytes ?_ (by rw [sizeLine_eq]; simp; lia))))
 show wpAny _ _ (if (Value.type "bytes" == Value.type "bytes") = true then _ else _) _ _ _
 refine bm_if_true (by decide) ?_
 first
  | exact wpAny_pure (hQ _ _)
  | exact wpAny_bind (wpAny_pure (wpAny_pure (hQ _ _)))
theorem F6 {n : Int} {u : Tok} {Q : VP} (h0 : 0 ≤ n) (h1 : n ≤ 100000) (hQ : ∀ t k, Q (.bytes (Array.replicate n.toNat 0) t) { s with toks := k }) : wpAny (model prog w) A (call (.type "bytes") [.int n u]) Q E s := by
 refine callType_codes (Q₁ := fun obj a7 => a7.TypeIs obj "bytes" ∧ Q obj a7) F.bm_called (F.bm_typeCall _) F.entry_object_init
  (au h0 h1 fun t k => ⟨PySem.W.typeIs_bytes _ _ _, hQ t k⟩) fun obj a7 b6 => ?_
 exact ⟨b6.1, F.args_object_init_2 obj _, object_init_meets F.bm_called.init.lookup F.bm_called.made (by decide) prog w A.in1 _ a7 ⟨b6.1, rfl, b6.2⟩⟩
theorem bJ : typeLookup (.type "bytearray") "__release_buffer__" = pure (some (.builtin "bytearray.__release_buffer__")) := by rw [typeLookup_type, builtinLookup_eq_fast]; kernel_rfl
theorem W7 : isSubtype (.type "bytearray") (.type "bytearray") = pure true := by rw [isSubtype_type]; kernel_rfl
theorem bb {v : Value} {Q : Bool -> Shared -> Prop} (hT : s.TypeIs v "bytearray") (hQ : Q true s) : wpAny (model prog w) A (Builtin.Bytes.slotIsOwn v "__buffer__") Q E s := by
 unfold Builtin.Bytes.slotIsOwn
 refine wpAny_bind (wpAny_specialOf hT F7 ?_)
 dsimp only
 rw [if_neg (by decide +kernel), show (String.dropRight "bytearray.__buffer__" (String.length "__buffer__" + 1)) = "bytearray" by decide +kernel]
 exact wpAny_isInstance hT W7 hQ
theorem F9 {v : Value} {Q : Bool -> Shared -> Prop} (hT : s.TypeIs v "bytearray") (hQ : Q false s) : wpAny (model prog w) A (Builtin.Bytes.ownRelease v) Q E s := by
 unfold Builtin.Bytes.ownRelease Builtin.Bytes.slotIsOwn
 refine wpAny_bind (wpAny_bind (wpAny_specialOf hT bJ ?_))
 dsimp only
 rw [if_neg (by decide +kernel), show (String.dropRight "bytearray.__release_buffer__" (String.length "__release_buffer__" + 1)) = "bytearray" by decide +kernel]
 exact wpAny_isInstance hT W7 (wpAny_pure hQ)
theorem bF {a : Addr} {b : Array UInt8} {Q : VP} (ho : s.heap.get? a = some { cls := .type "bytearray", data := .bytearray b }) (h1 : b.size ≤ 100000) (hQ : ∀ t k, Q (.bytes b t) { s with toks := k }) :
 codeAny (model prog w) A (.call (.builtin "bytes.__new__") ⟨[.type "bytes", .ref a], []⟩) (wants Q E) s := by
 refine codeAny_of_tree ?_
 show wpAny _ A.in1 (do checkBuiltinCall "bytes.__new__" ⟨[.type "bytes", .ref a], []⟩; again (.builtin "bytes.__new__" ⟨[.type "bytes", .ref a], []⟩)) _ _ s
 refine wpAny_bind (wpAny_of_eq (F.bm_newCall _) (wpAny_pure ⟨plainId_quiet F.bm_plain _, codeAny_builtin F.bm_entry ?_⟩))
 rw [Around.under_plainId F.bm_plain _]
 have hT : s.TypeIs (.ref a) "bytearray" := ⟨_, ho, rfl⟩
 unfold Builtin.«bytes.__new__»
 refine wpAny_bind (wpAny_of_eq (a := true) rfl ?_)
 refine bm_if_false rfl ?_
 refine wpAny_bind (wpAny_of_eq F.bm_sub ?_)
 refine bm_if_false rfl ?_
 refine wpAny_bind (wpAny_of_eq (F.bm_bind _) ?_)
 refine wpAny_bind (wpAny_of_eq (a := ()) rfl ?_)
 refine wpAny_bind (wpAny_of_eq (a := ()) rfl ?_)
 refine bm_if_false rfl ?_
 refine wpAny_bind (wpAny_specialOf hT aD ?_)
 refine wpAny_bind (wpAny_bind ?_)
 show wpAny _ _ (load a >>= _) _ _ _
 refine wpAny_bind (wpAny_load ho ?_)
 refine wpAny_pure (wpAny_pure ?_)
 refine bm_if_false rfl ?_
 refine wpAny_bind (wpAny_specialOf hT aC ?_)
 refine bm_if_true rfl ?_
 first
  | show wpAny _ _ (Builtin.Bytes.buffer? "bytes.__new__" (.ref a) true >>= _) _ _ _
  | (refine wpAny_bind ?_; show wpAny _ _ (Builtin.Bytes.buffer? "bytes.__new__" (.ref a) true >>= _) _ _ _)
 refine wpAny_bind ?_
 unfold Builtin.Bytes.buffer?
 refine wpAny_bind (wpAny_specialOf hT F7 ?_)
 dsimp only
 refine wpAny_bind (bb hT ?_)
 refine bm_if_false rfl ?_
 refine wpAny_bind (wpAny_specialOf hT F7 ?_)
 refine wpAny_bind (F9 hT ?_)
 refine bm_if_false rfl ?_
 refine wpAny_bind ?_
 unfold Builtin.Bytes.payload Builtin.Bytes.payload?
 refine wpAny_bind (wpAny_bind (wpAny_load ho ?_))
 refine wpAny_pure (wpAny_pure ?_)
 refine wpAny_pure ?_
 dsimp only
 refine wpAny_bind (wpAny_rule (wpAny_bind (wpAny_mkBytes ?_ (by rw [sizeLine_eq]; lia))))
 show wpAny _ _ (if (Value.type "bytes" == Value.type "bytes") = true then _ else _) _ _ _
 refine bm_if_true (by decide) ?_
 first
  | exact wpAny_pure (hQ _ _)
  | exact wpAny_bind (wpAny_pure (wpAny_pure (hQ _ _)))
theorem J0 {a : Addr} {b : Array UInt8} {Q : VP} (ho : s.heap.get? a = some { cls := .type "bytearray", data := .bytearray b }) (h1 : b.size ≤ 100000) (hQ : ∀ t k, Q (.bytes b t) { s with toks := k }) : wpAny (model prog w) A (call (.type "bytes") [.ref a]) Q E s := by
 refine callType_codes (Q₁ := fun obj a7 => a7.TypeIs obj "bytes" ∧ Q obj a7) F.bm_called (F.bm_typeCall _) F.entry_object_init
  (bF ho h1 fun t k => ⟨PySem.W.typeIs_bytes _ _ _, hQ t k⟩) fun obj a7 b6 => ?_
 exact ⟨b6.1, F.args_object_init_2 obj _, object_init_meets F.bm_called.init.lookup F.bm_called.made (by decide) prog w A.in1 _ a7 ⟨b6.1, rfl, b6.2⟩⟩
theorem zh {id : String} {args : Args} (h : guardIds.contains id = true) (g : Code.isGuard (.builtin id args) = false) : False := by
 rw [show Code.isGuard (.builtin id args) = guardIds.contains id from rfl, h] at g; cases g
noncomputable def exB (v : Value) (x : Code × Pos) : Bool := Builtin.Bytes.exported.match_1 (fun _ => Bool) x (fun u _ _ _ => Builtin.Bytes.sameRef u v) (fun u _ _ _ => Builtin.Bytes.sameRef u v) (fun _ u _ _ _ => Builtin.Bytes.sameRef u v) (fun u _ _ _ => Builtin.Bytes.sameRef u v) (fun _ _ l _ _ => l.any (Builtin.Bytes.sameRef v)) (fun i u _ _ _ => Builtin.Bytes.sameRef u v && Builtin.Bytes.decodersThatHold.contains i) (fun _ => false)
theorem iP {id k : String} {args : Args} (g : Code.isGuard (.builtin id args) = false) (h : guardIds.contains k = true) : ¬ id = k := fun e => zh (e ▸ h) g
theorem zB (v : Value) (p : Pos) {c : Code} (g : c.isGuard = false) (hc : G7 c = false) : exB v (c, p) = false := by
 cases c with
 | builtin id args =>
  delta exB Builtin.Bytes.exported.match_1
  show dite (id = "bytearray.__contains__") _ _ = false
  refine (dif_neg (iP g (k := "bytearray.__contains__") (by decide +kernel))).trans ?_
  refine (dif_neg (iP g (k := "bytearray.__mod__") (by decide +kernel))).trans ?_
  refine (dif_neg (iP g (k := "bytearray.__rmod__") (by decide +kernel))).trans ?_
  refine (dif_neg (iP g (k := "_struct.pack_into.held") (by decide +kernel))).trans ?_
  refine (dif_neg (iP g (k := "bytearray.find.held") (by decide +kernel))).trans ?_
  cases args with
  | mk pos kw =>
   cases pos with
   | nil => rfl
   | cons u r => exact (congrArg (Builtin.Bytes.sameRef u v && ·) hc).trans (Bool.and_false _)
 | _ => rfl
theorem P9 {v : Value} : ∀ {l : List (Code × Pos)}, guardsOf l = [] -> P2 l -> l.any (exB v) = false
 | [], _, _ => rfl
 | (c, p) :: l, hg, hc => by
  rw [guardsOf_cons] at hg
  have g := List.append_eq_nil_iff.mp hg
  have gc : c.isGuard = false := by
   cases q : c.isGuard with
   | false => rfl
   | true => have := g.1; rw [Code.guards, q] at this; cases this
  rw [List.any_cons, P9 g.2 hc.tl, Bool.or_false]
  exact zB v p gc (hc (c, p) (List.mem_cons_self ..))
theorem bw {a : Addr} {Q : Bool -> Shared -> Prop} (hg : A.guards = some []) (h : Q false s) : wpC (model prog w) A (Builtin.Bytes.exported (.ref a)) Q E s := fun Γ p hΓ hc => by
 show Q (((Γ.code, p) :: Γ.below).any (exB (.ref a))) s
 rw [P9 (by rw [guardsOf_cons]; exact hΓ.2.2.2.1 _ hg) hc]
 exact h
theorem lg : mroOf (.type "bytearray") = pure [.type "bytearray", .type "object"] := by rw [mroOf_type]; kernel_rfl
theorem nV : typeLookup (.type "bytearray") "__new__" = pure (some (.builtin "bytearray.__new__")) := by rw [typeLookup_type, builtinLookup_eq_fast]; kernel_rfl
theorem E4 : Slot "bytearray" "__init__" "bytearray.__init__" :=
 .of (owner := "bytearray") (n := "__init__") (by rw [typeLookup_type, builtinLookup_eq_fast]; kernel_rfl) (by decide +kernel) (by decide +kernel) (by decide +kernel)
  (by first | exact .inl (by decide +kernel) | exact .inr (by decide +kernel)) (by rw [isSubtype_type]; kernel_rfl)
theorem eI : TypeCalled "bytearray" "bytearray.__new__" "bytearray.__init__" :=
 ⟨by decide +kernel, by decide +kernel, ⟨_, _, lg⟩, madeBy_type lg nV (by decide +kernel), by decide +kernel, W7, E4⟩
theorem W9 : entryFor table "bytearray.__new__" = some Builtin.«list.__new__» :=
 entryFor_alias (id' := "list.__new__") (by kernel_rfl) (by first | rfl | decide +kernel | (unfold String.splitOn; simp +decide [String.splitOnAux])) (by decide +kernel) (by kernel_rfl)
theorem P0 : entryFor table "bytearray.__init__" = some Builtin.«bytearray.__init__» := entryFor_of_tree (by kernel_rfl)
theorem aB (a : Value) : checkTypeCall "bytearray" ⟨[a], []⟩ = pure () := by kernel_rfl
theorem bK (a : Value) : checkBuiltinCall "bytearray.__new__" ⟨[.type "bytearray", a], []⟩ = pure () := by kernel_rfl
theorem X0 (a b : Value) : argsOk "bytearray.__init__" ⟨[a, b], []⟩ := by unfold argsOk; kernel_rfl
set_option maxRecDepth 1000000 in
set_option maxHeartbeats 4000000 in
theorem lf : ("bytearray.__new__".splitOn ".__new__").headD "" = "bytearray" := by simp +decide [String.splitOn, String.splitOnAux]
theorem Ac (a : Value) {Q₁ : VP}
 (h : Q₁ (.ref s.heap.objs.size) { s with heap := s.heap.push { cls := .type "bytearray", data := .bytearray #[] } }) :
 codeAny (model prog w) A (.call (.builtin "bytearray.__new__") ⟨[.type "bytearray", a], []⟩) (wants Q₁ E) s := by
 refine codeAny_of_tree ?_
 show wpAny _ A.in1 (do checkBuiltinCall "bytearray.__new__" ⟨[.type "bytearray", a], []⟩; again (.builtin "bytearray.__new__" ⟨[.type "bytearray", a], []⟩)) _ _ s
 have hp : plainId "bytearray.__new__" = true := by decide +kernel
 refine wpAny_bind (wpAny_of_eq (bK a) (wpAny_pure ⟨plainId_quiet hp _, codeAny_builtin_stack W9 rfl fun p st => ?_⟩))
 rw [Around.under_plainId hp _]
 have hsub := W7
 have hown := lf
 obtain ⟨hp, g, d, tk, os⟩ := s
 simp only [hown]
 wp_walk
 exact h
theorem eD {T newId initId : String} {args : List Value} {Q Q₁ : VP} (ft : TypeCalled T newId initId)
 (hct : checkTypeCall T ⟨args, []⟩ = pure ())
 (hnew : codeAny (model prog w) A.in1 (.call (.builtin newId) ⟨.type T :: args, []⟩) (wants Q₁ E) s)
 (hnext : ∀ obj a7, Q₁ obj a7 -> a7.TypeIs obj T ∧
  l5 (model prog w) A.in1 (.call (.builtin initId) ⟨obj :: args, []⟩) (fun r a8 => r = .ok (.ret .none) ∧ Q obj a8) a7) :
 wpC (model prog w) A (call (.type T) args) Q E s := by
 obtain ⟨c, tl, hmro⟩ := ft.mro
 have hmade := ft.made
 have hsub := ft.sub
 refine H7 (kT rfl (cC ?_))
 show wpAny _ _ (callAny (.type T) _) _ _ _
 refine wpAny_pure ⟨Code.quiet_builtin _ (by decide +kernel), L9 (by show PySem.Builtin.Bytes.decodersThatHold.contains "type.__call__" = false; decide +kernel) F.entry_type_call ?_⟩
 rw [Around.under_plain (weight_type_call_type T args []) rfl]
 have h1 := ft.notType
 have h2 := ft.canCreate
 unfold Builtin.«type.__call__»
 dsimp only
 refine cE (if_neg (by rw [h1]; exact Bool.false_ne_true)) ?_
 refine cE (if_neg (by rw [h2]; exact Bool.false_ne_true)) ?_
 rw [hct, hmro]
 refine cPB (cPB ?_)
 refine cE (if_neg (fun x => Bool.false_ne_true x)) ?_
 rw [hmade]
 refine cPB ?_
 dsimp only
 refine cPB (cB (cH (H7 (kM (kC hnew) fun r a7 hr => ?_))))
 cases r with
 | error e => exact hr
 | ok fl =>
  cases fl with
  | ret obj =>
   obtain ⟨hT, hi⟩ := hnext _ _ hr
   dsimp only
   refine cB (cC (wpAny_isInstance hT hsub ?_))
   refine cE (if_neg (fun x => Bool.false_ne_true x)) ?_
   refine cB (cH ?_)
   unfold callSpecial?
   refine cB (cC (wpAny_specialOf hT ft.init.lookup ?_))
   dsimp only
   rw [ft.init.bind obj]
   refine cH (cB (cP ?_))
   dsimp only
   refine cB (H7 (kM hi fun A1 a8 Gu => ?_))
   obtain ⟨rfl, hq⟩ := Gu
   exact cP (cP hq)
  | _ => exact hr.elim
theorem N5 {a : Addr} {b : Array UInt8} {f : Array UInt8 -> Array UInt8} {Q : Unit -> Shared -> Prop} (ho : s.heap.get? a = some { cls := .type "bytearray", data := .bytearray b })
 (h : ∀ h', Heap.SameBut a s.heap h' -> h'.get? a = some { cls := .type "bytearray", data := .bytearray (f b) } -> Q () { s with heap := h' }) (hz : (f b).size ≤ 100000) : wpAny (model prog w) A (Builtin.Bytes.write (.ref a) f) Q E s := by
 show wpAny _ _ (updateBytearray a f) _ _ _
 unfold updateBytearray
 refine wpAny_bind (wpAny_load ho ?_)
 dsimp only
 refine wpAny_bind (wpAny_update ho ?_)
 have ho' := Heap.get?_update_self (Obj.mapBytearray f) ho rfl
 exact wpAny_lookBehind ho' (by show Data.pastItsLine (.bytearray (f b)) = none; unfold Data.pastItsLine; simp only []; rw [if_neg (by rw [sizeLine_eq]; lia)]) (h _ (Heap.SameBut.update ..) ho')
theorem nW {a : Addr} {n : Int} {u : Tok} {Q : Shared -> Prop} (hg : A.guards = some []) (ho : s.heap.get? a = some { cls := .type "bytearray", data := .bytearray #[] }) (h0 : 0 < n) (h1 : n ≤ 100000)
 (hQ : ∀ h', Heap.SameBut a s.heap h' -> h'.get? a = some { cls := .type "bytearray", data := .bytearray (Array.replicate n.toNat 0) } -> Q { s with heap := h' }) :
 l5 (model prog w) A (.call (.builtin "bytearray.__init__") ⟨[.ref a, .int n u], []⟩) (fun r a8 => r = .ok (.ret .none) ∧ Q a8) s := by
 have hp : plainId "bytearray.__init__" = true := by decide +kernel
 have hT : s.TypeIs (.ref a) "bytearray" := ⟨_, ho, rfl⟩
 have hI : s.TypeIs (.int n u) "int" := typeIs_int s n u
 refine D7 (by show PySem.Builtin.Bytes.decodersThatHold.contains "bytearray.__init__" = false; decide +kernel) (plainId_quiet hp _) P0
  (E4.check _ _ _ _ _ _ _ _ hT (X0 _ _) ?_)
 rw [Around.under_plainId hp _]
 unfold Builtin.«bytearray.__init__»
 dsimp only
 refine cB (cC (F9 hT ?_))
 refine cE (if_neg (fun x => Bool.false_ne_true x)) ?_
 refine cB (cC (wpAny_of_eq (a := [some (.int n u), none, none]) (by kernel_rfl) ?_))
 dsimp only
 refine cB (cC (wpAny_of_eq (a := ()) rfl ?_))
 refine cB (cC (wpAny_of_eq (a := ()) rfl ?_))
 refine cB (cB (bw hg ?_))
 show wpC _ _ (Builtin.Bytes.exportsOf (.ref a) >>= fun k => pure (decide (k > 0))) _ _ _
 unfold Builtin.Bytes.exportsOf
 refine cB (cC (wpAny_bind (wpAny_load ho (wpAny_pure (cP ?_)))))
 refine cE (if_neg (by decide)) ?_
 refine cB (cC (N5 ho (fun h' hs' ho' => ?_) (by simp)))
 refine cB (cC (wpAny_of_eq (a := none) rfl ?_))
 refine cE (if_neg (by decide)) ?_
 have hf : Builtin.Bytes.fitsIndex n = true := by simp [Builtin.Bytes.fitsIndex]; lia
 have ht : Builtin.Bytes.tooLong n.toNat = false := by unfold Builtin.Bytes.tooLong; rw [sizeLine_eq]; simp; lia
 refine cE (if_neg (by rw [hf]; decide)) ?_
 refine cE (if_neg (by lia)) ?_
 refine cE (if_neg (by simp; lia)) ?_
 refine cE (if_neg (by rw [ht]; decide)) ?_
 refine cB (cC (wpAny_rule ?_))
 refine cE (if_pos h0) ?_
 refine cB (cC (N5 ho' (fun h'' hs'' ho'' => ?_) (by simp; lia)))
 first
  | exact cP ⟨rfl, hQ h'' (hs'.trans hs'') ho''⟩
  | exact cB (cP (cP ⟨rfl, hQ h'' (hs'.trans hs'') ho''⟩))
theorem N0 {n : Int} {u : Tok} {Q : VP} (hg : A.guards = some []) (h0 : 0 < n) (h1 : n ≤ 100000)
 (hQ : ∀ h', Heap.ExtBut s.heap.objs.size s.heap h' -> h'.get? s.heap.objs.size = some { cls := .type "bytearray", data := .bytearray (Array.replicate n.toNat 0) } -> Q (.ref s.heap.objs.size) { s with heap := h' }) :
 wpC (model prog w) A (call (.type "bytearray") [.int n u]) Q E s := by
 refine eD (Q₁ := fun obj a7 => obj = .ref s.heap.objs.size ∧ a7 = { s with heap := s.heap.push { cls := .type "bytearray", data := .bytearray #[] } }) eI (aB _) (Ac _ ⟨rfl, rfl⟩) fun obj a7 b6 => ?_
 obtain ⟨rfl, rfl⟩ := b6
 refine ⟨⟨_, Heap.get?_push_size _ rfl, rfl⟩, nW hg (Heap.get?_push_size _ rfl) h0 h1 fun h' hs ho' => hQ h' ?_ ho'⟩
 exact fun b o hb e => hs.extBut b o hb (Heap.get?_push_of_some _ e)
theorem H9 : Slot "bytearray" "__setitem__" "bytearray.__setitem__" :=
 .of (owner := "bytearray") (n := "__setitem__") (by rw [typeLookup_type, builtinLookup_eq_fast]; kernel_rfl) (by decide +kernel) (by decide +kernel) (by decide +kernel)
  (by first | exact .inl (by decide +kernel) | exact .inr (by decide +kernel)) (by rw [isSubtype_type]; kernel_rfl)
theorem W8 : entryFor table "bytearray.__setitem__" = some Builtin.«bytearray.__setitem__» := entryFor_of_tree (by kernel_rfl)
theorem aE (a b c : Value) : argsOk "bytearray.__setitem__" ⟨[a, b, c], []⟩ := by unfold argsOk; kernel_rfl
theorem lc {a : Addr} {b : Array UInt8} {k v : Int} {t t' : Tok} {Q : Unit -> Shared -> Prop} (ho : s.heap.get? a = some { cls := .type "bytearray", data := .bytearray b }) (h0 : 0 ≤ k) (h1 : k < b.size) (hz : b.size ≤ 100000) (v0 : 0 ≤ v) (v1 : v < 256)
 (hQ : ∀ h', Heap.SameBut a s.heap h' -> h'.get? a = some { cls := .type "bytearray", data := .bytearray (b.setIfInBounds k.toNat v.toNat.toUInt8) } -> Q () { s with heap := h' }) :
 wpAny (model prog w) A (setItem (.ref a) (.int k t) (.int v t')) Q E s := by
 have hT : s.TypeIs (.ref a) "bytearray" := ⟨_, ho, rfl⟩
 unfold setItem
 try with_reducible refine wpAny_holding ?_
 first | refine wpAny_bind (wpAny_pure ?_) | skip
 refine wpAny_bind (wpAny_sequenceKey hT (by decide) ?_)
 refine wpAny_bind (wpAny_callSpecial?_slot (name := Str.ofString "__setitem__") hT H9
  (wpAny_call_entry H9 hT W8 ?_ (aE _ _ _)))
 unfold Builtin.«bytearray.__setitem__»
 dsimp only
 refine bm_if_false rfl ?_
 have hf : Builtin.Bytes.fitsIndex k = true := by simp [Builtin.Bytes.fitsIndex]; lia
 refine wpAny_bind (wpAny_mono (Q := fun r s' => r = some k ∧ s' = s) ?_ (fun r s' hr => ?_) fun _ _ x => x)
 · unfold Builtin.Bytes.subscript?
   refine wpAny_bind (wpAny_specialOf (typeIs_int _ k t) aA ?_)
   refine bm_if_false rfl ?_
   refine wpAny_bind (wpAny_of_eq (a := k) rfl ?_)
   refine bm_if_false (by rw [hf]; rfl) ?_
   exact wpAny_pure ⟨rfl, rfl⟩
 obtain ⟨rfl, rfl⟩ := hr
 dsimp only
 refine wpAny_bind ?_
 unfold Builtin.Bytes.byteValue
 refine wpAny_bind (wpAny_of_eq (a := v) rfl ?_)
 refine bm_if_false (by simp; lia) ?_
 refine wpAny_pure ?_
 refine wpAny_bind ?_
 unfold Builtin.Bytes.payload Builtin.Bytes.payload?
 refine wpAny_bind (wpAny_bind (wpAny_load ho ?_))
 refine wpAny_pure (wpAny_pure ?_)
 dsimp only
 rw [seqIndex_of h0 h1]
 dsimp only
 refine wpAny_bind (N5 ho (fun h' hs ho' => ?_) (by simp; lia))
 first
  | exact wpAny_pure ⟨.none, rfl, wpAny_pure (hQ h' hs ho')⟩
  | exact wpAny_bind (wpAny_pure (wpAny_pure ⟨.none, rfl, wpAny_pure (hQ h' hs ho')⟩))
end
noncomputable abbrev rw0 : RowW := PySem.Challenge.rw_rg0261_01.row.toRowW
def YK (w : World) (h : Heap) : Prop := (K w.params).In h ∧ h.get? 996 = some (tabObj #[])
noncomputable abbrev al : PySem.Ctx := ⟨.builtin "claim.caller" {}, none, none, [], none⟩
theorem bA (p : Pos) : P2 ((al.code, p) :: al.below) := fun x hx => by
 rw [List.mem_singleton.mp hx]; show G7 (.builtin "claim.caller" {}) = false; decide +kernel
theorem eS {w : World} {t : Sem Fin} {s : Shared} {R : Result -> Shared -> Prop} (hreg : s.asleep)
 (h : wpC (mdl w) callerA t (fun fin s' => ∃ f, fin = .done f ∧ R (.ok f) s' ∧ AllBare s'.gens) (fun e s' => R (.error e) s' ∧ AllBare s'.gens) s) :
 ∃ n r s' s'', runN (denote table) PySem.Challenge.pw_rg0261_01 w n s ⟨t, .builtin "claim.caller" {}, default, []⟩ = .halted (outcomeOf r) s' ∧
  schedN (denote table) PySem.Challenge.pw_rg0261_01 w n (.single s ⟨t, .builtin "claim.caller" {}, default, []⟩) = .halted (outcomeOf r) s' ∧ s'.forget = s''.forget ∧ R r s'' := by
 have z := h al default caller_in (bA _)
 obtain ⟨n, r, a7, a8, hs, hn, hfo, hR⟩ := wp_halts_full (M := mdl w) (R := R) hreg (Sem.wp_mono (mdl w) al t (fun fin p' s' h' => by
  obtain ⟨f, rfl, a, b⟩ := h'
  exact ⟨a, leftWithCleanup_false_of_bare b⟩) (fun e p' s' h' => ⟨h'.1, leftWithCleanup_false_of_bare h'.2⟩) default s z)
 exact ⟨n, r, a8, a7, hn, hs, hfo, hR⟩
theorem pM (P : Params) : (hpF P).get? 996 = some (tabObj #[]) := by kernel_rfl
def pw : Prop := ∀ (w : World) (I4 a7 : Shared) (mg mb : Str -> Option Value), Ground qv z5 rw0.records (XL qv []) w I4 mg mb a7.heap -> YK w a7.heap -> a7.gens = #[] →
 ∀ (args : List WData) (vals : List Value) (as : List Addr), rw0.claim.pre args = true -> WData.layableAll args = true -> ReadsAllW rw0.records (classAt I4.heap) a7.heap vals args as -> WellAll w.params a7.heap vals args -> (∀ a ∈ as, (a == sysModules) = false) →
  wpC (mdl w) callerA (PySem.call (.ref 1030) vals) (fun v s' => GoodWG rw0.claim (classAt I4.heap) (ExcName.means I4.heap) args a7 (.ok (.ret v)) s')
   (fun e s' => GoodWG rw0.claim (classAt I4.heap) (ExcName.means I4.heap) args a7 (.error e) s') a7
theorem okv : (chainsOk qv && opensWell PySem.Challenge.rw_rg0261_01.row.prog && (frees PySem.Challenge.rw_rg0261_01.row.toRowW && PySem.Challenge.rw_rg0261_01.row.within.isEmpty)) = true := by decide +kernel
theorem Jx : PySem.Challenge.rw_rg0261_01.row.prog.bare := ⟨rfl, rfl, rfl, rfl, rfl, by decide +kernel⟩
theorem yX (P : Params) : nsIn (K P) mainGlobals PySem.Challenge.rw_rg0261_01.row.name = some (some (.ref 1030)) := by kernel_rfl
theorem nD : defOf qv PySem.Challenge.rw_rg0261_01.row.name = some (ek, []) := by kernel_rfl
theorem lU : PySem.Challenge.rw_rg0261_01.row.prog.theDef PySem.Challenge.rw_rg0261_01.row.name = some (ek.params, ek.body, ek.scope) := by kernel_rfl
theorem yZ : kwWritten? ek.params.kwonlyargs ek.params.kw_defaults = some [] := by kernel_rfl
set_option maxHeartbeats 1000000 in
theorem head1 (walk : pw) : PySem.Challenge.rw_rg0261_01.Holds := by
 w_on
 refine holds_law AF fun said => ⟨said, ?hw, ?hh⟩
 case hw => w_witness2
 case hh =>
 have hw : PySem.Challenge.rw_rg0261_01.row.toRowW.promised := by w_witness2
 obtain ⟨ok, k5⟩ := Bool.and_eq_true_iff.mp okv
 obtain ⟨hch, o1⟩ := Bool.and_eq_true_iff.mp ok
 obtain ⟨k5, k6⟩ := Bool.and_eq_true_iff.mp k5
 obtain ⟨hsame, hu, ha, hap, hmk⟩ := frees_parts k5
 have hX : ∀ s : Shared, (xlAt qv [] s && recOk (RowW.records PySem.Challenge.rw_rg0261_01.row.toRowW) s) = true -> XL qv [] (s.heap.nsMap mainGlobals) s.heap ∧ RecFacts PySem.Challenge.rw_rg0261_01.row.toRowW.records s.heap := fun s e => ⟨xl_of s (Bool.and_eq_true_iff.mp e).1, recFacts_of (Bool.and_eq_true_iff.mp e).2⟩
 refine ⟨⟨Jx, o1, rfl⟩, hw.witness, fun w => ?_⟩
 have bh := Ge.behind (XP := fun mg h => XL qv [] mg h ∧ RecFacts PySem.Challenge.rw_rg0261_01.row.toRowW.records h) hX hch w
 refine ⟨bh.1, fun s' hs' => ?_⟩
 obtain ⟨I4, hf, hg0, s, hT, hz, hgens, hg, G00, y⟩ := bh.2 s' hs'
 have G0 : Ground qv z5 [] (XL qv []) w s (s.heap.nsMap mainGlobals) (s.heap.nsMap builtinsNs) s.heap := ⟨G00.T, G00.B, G00.D, G00.TE, G00.TD, G00.W, G00.X.1, G00.cls, G00.has, G00.apart, G00.once, G00.K⟩
 have RF := G00.X.2
 refine ⟨I4, hf, hg0, s, hT, fun n hn => ?_, RF.1, RF.2.1, ?_⟩
 · obtain rfl : n = PySem.Challenge.rw_rg0261_01.row.name := by split at hn <;> simp_all
   exact pinned_of_view hg G0 nD lU yZ
 have hgens : s.gens = #[] := Array.eq_empty_of_size_eq_zero (beq_iff_eq.mp hgens)
 have Gr : Ground qv z5 PySem.Challenge.rw_rg0261_01.row.toRowW.records (XL qv []) w s _ _ s.heap := RF.ground G0
 have Y0 : YK w s.heap := by
  have e : s.heap = hpF w.params := y
  rw [YK, e]
  exact ⟨kIn w.params, pM w.params⟩
 intro args hpre hlay ord hord
 obtain ⟨⟨vs, a7⟩, hlaid⟩ := Option.isSome_iff_exists.mp (layAllW_isSome (P := w.params) (ord := ord) Gr.has args PySem.Challenge.rw_rg0261_01.row.toRowW.args s (pre_splitW hpre).1)
 have keeps := layAllW_keeps _ _ _ hlaid
 have hal := layAllW_rest _ _ _ hlaid
 obtain ⟨as, hrd, hin, hold⟩ := reads_layAllW hord _ _ _ hlaid hlay a7.heap (fun _ _ e => e)
 have L : Laid PySem.Challenge.rw_rg0261_01.row.toRowW.records w s a7 args vs as := ⟨⟨ord, hord, hlaid⟩, hrd, hin, hold, keeps, hal.1.trans hgens, hal.2.2.1⟩
 have b8 := Gr.keeps XL.keeps keeps
 have Y1 : YK w a7.heap := ⟨Frag.In.keeps Y0.1 keeps, keeps _ _ Y0.2⟩
 have hc := walk w s a7 _ _ b8 Y1 L.gens args vs as hpre hlay L.reads L.well (L.low Gr.low)
 have hwi : PySem.Challenge.rw_rg0261_01.row.toRowW.claim.within = [] := List.isEmpty_iff.mp k6
 have hi := ident_freeW hu ha hap
 have hmg := mg_of Y1.1 b8.T.g (yX w.params)
 have hcode : wpC (mdl w) callerA (do match ← nsGet mainNs PySem.Challenge.rw_rg0261_01.row.name with
  | some f => do ret (← PySem.call f vs)
  | none => unsupported "claim.caller:no-such-global") (fun fin s' => ∃ f, fin = .done f ∧ (PySem.Challenge.rw_rg0261_01.row.toRowW.claim.Ends s args vs a7 (.ok f) s' ∧ s'.os = s.os) ∧ AllBare s'.gens)
  (fun e s' => (PySem.Challenge.rw_rg0261_01.row.toRowW.claim.Ends s args vs a7 (.error e) s' ∧ s'.os = s.os) ∧ AllBare s'.gens) a7 := by
  refine cB (cC (wpAny_nsGet b8.T.g ?_))
  rw [hmg]
  refine cB (cM hc (fun v s' g => cP ?_) fun e s' g => ?_)
  · have z := g.laid (c := PySem.Challenge.rw_rg0261_01.row.toRowW.claim) hsame hwi hi L
    exact ⟨_, rfl, ⟨z.1, z.2.1⟩, z.2.2⟩
  · have z := g.laid (c := PySem.Challenge.rw_rg0261_01.row.toRowW.claim) hsame hwi hi L
    exact ⟨⟨z.1, z.2.1⟩, z.2.2⟩
 obtain ⟨k, r, s2, s3, hrun, hsched, hfo, hcase, hos⟩ := eS (s := a7) (R := fun r s' => PySem.Challenge.rw_rg0261_01.row.toRowW.claim.Ends s args vs a7 r s' ∧ s'.os = s.os) (Shared.asleep_of_life hal.2.2.2 hz) hcode
 obtain ⟨eh, _, _, eo, _⟩ := Shared.forget_eq hfo
 have hcase := hcase.congr eh
 rw [← eo] at hos
 have hlife : s2.heap.life = s.heap.life := (runN_life _ _ _ hrun).trans hal.2.2.2
 refine ⟨vs, a7, hlaid, k, _, s2, hsched, ?_, (fun _ i x hx => by rw [hgens] at hx; simp at hx), (fun q => by cases q), by rw [hlife], Shared.rest_eq hos⟩
 rcases hcase with ⟨v, rfl, d1, d2, d3, d4, d5⟩ | ⟨e, ob, cls, rfl, d1, d2, d3, d4, d5⟩
 · exact .inl ⟨v, rfl, d1, d2, d3, fun b o y _ => d4 b o y, d5⟩
 · exact .inr ⟨e, ob, cls, rfl, d1, d2, d3, d4, fun b o y _ => d5 b o y⟩
set_option backward.match.sparseCases false
inductive d9 {α β : Type} (R : α -> β -> Prop) : List α -> List β -> Prop
 | nil : d9 R [] []
 | cons {a b as bs} : R a b -> d9 R as bs -> d9 R (a :: as) (b :: bs)
theorem d9.imp {α β : Type} {R R' : α -> β -> Prop} (f : ∀ a b, R a b -> R' a b) {as : List α} {bs : List β} (h : d9 R as bs) : d9 R' as bs := by
 induction h with
 | nil => exact .nil
 | cons h _ ih => exact .cons (f _ _ h) ih
theorem d9.len {α β : Type} {R : α -> β -> Prop} {as : List α} {bs : List β} (h : d9 R as bs) : as.length = bs.length := by
 induction h with
 | nil => rfl
 | cons _ _ ih => rw [List.length_cons, List.length_cons, ih]
theorem d9.snoc {α β : Type} {R : α -> β -> Prop} {as : List α} {bs : List β} {a : α} {b : β} (h : d9 R as bs) (k : R a b) : d9 R (as ++ [a]) (bs ++ [b]) := by
 induction h with
 | nil => exact .cons k .nil
 | cons h _ ih => exact .cons h ih
theorem d9.app {α β : Type} {R : α -> β -> Prop} {as cs : List α} {bs ds : List β} (h : d9 R as bs) (k : d9 R cs ds) : d9 R (as ++ cs) (bs ++ ds) := by
 induction h with
 | nil => exact k
 | cons h _ ih => exact .cons h ih
theorem d9.get {α β : Type} {R : α -> β -> Prop} {as : List α} {bs : List β} (h : d9 R as bs) {i : Nat} {a : α} (e : as[i]? = some a) : ∃ b, bs[i]? = some b ∧ R a b := by
 induction h generalizing i with
 | nil => simp at e
 | cons h _ ih =>
  cases i with
  | zero => simp at e; subst e; exact ⟨_, by simp, h⟩
  | succ i => simp at e; simpa using ih e
theorem d9.set {α β : Type} {R : α -> β -> Prop} {as : List α} {bs : List β} (h : d9 R as bs) {i : Nat} {a : α} {b : β} (k : R a b) : d9 R (as.set i a) (bs.set i b) := by
 induction h generalizing i with
 | nil => exact .nil
 | cons h hs ih =>
  cases i with
  | zero => exact .cons k hs
  | succ i => exact .cons h ih
theorem d9.rev {α β : Type} {R : α -> β -> Prop} {as : List α} {bs : List β} (h : d9 R as bs) : d9 R as.reverse bs.reverse := by
 induction h with
 | nil => exact .nil
 | cons h _ ih => rw [List.reverse_cons, List.reverse_cons]; exact ih.snoc h
theorem d9.drop {α β : Type} {R : α -> β -> Prop} {as : List α} {bs : List β} (h : d9 R as bs) (n : Nat) : d9 R (as.drop n) (bs.drop n) := by
 induction h generalizing n with
 | nil => simp; exact .nil
 | cons h hs ih =>
  cases n with
  | zero => exact .cons h hs
  | succ n => simpa using ih n
theorem d9.take {α β : Type} {R : α -> β -> Prop} {as : List α} {bs : List β} (h : d9 R as bs) (n : Nat) : d9 R (as.take n) (bs.take n) := by
 induction h generalizing n with
 | nil => simp; exact .nil
 | cons h hs ih =>
  cases n with
  | zero => simp; exact .nil
  | succ n => simpa using d9.cons h (ih n)
theorem aL {α : Type} {a : α} {s t : List α} (h : a ∈ s) : a ∈ s ++ t := List.mem_append.mpr (.inl h)
theorem aR {α : Type} {a : α} {s t : List α} (h : a ∈ t) : a ∈ s ++ t := List.mem_append.mpr (.inr h)
theorem aM {α : Type} {a : α} {s t : List α} (h : a ∈ s ++ t) : a ∈ s ∨ a ∈ t := List.mem_append.mp h
theorem mC {α : Type} {a b : α} {l : List α} (h : a ∈ b :: l) : a = b ∨ a ∈ l := List.mem_cons.mp h
theorem nM {α : Type} {a b : α} (h : a ∈ [b]) : a = b := List.mem_singleton.mp h
theorem dO {p : Prop} [Decidable p] (h : decide p = true) : p := of_decide_eq_true h
theorem dT {p : Prop} [Decidable p] (h : p) : decide p = true := decide_eq_true h
theorem dF {p : Prop} [Decidable p] (h : ¬p) : decide p = false := decide_eq_false h
theorem bL {n m : Nat} (h : Nat.ble n m = true) : n ≤ m := Nat.le_of_ble_eq_true h
theorem nB {α : Type} [BEq α] [LawfulBEq α] {a b : α} (h : a ≠ b) : (a == b) = false := beq_eq_false_iff_ne.mpr h
inductive V | none | bool (b : Bool) | int (n : Int) | str (x : Str) | byt (n : Nat) | ref (l : Nat) | val (v : Value) | lam (k : Nat) | tup (xs : List V) | lst (xs : List V) | dct (ks : List Str) (xs : List V) | rng (a b c : Int)
structure Gam where
 κ : List (Addr × Obj)
 ρ : List Addr
 θ : List (Addr × Obj)
structure Le (G G' : Gam) : Prop where
 k : ∀ p ∈ G.κ, p ∈ G'.κ
 r : ∃ τ, G'.ρ = G.ρ ++ τ
 t : G'.θ = G.θ
structure Lk (G G' : Gam) : Prop where
 k : ∀ p ∈ G.κ, p ∈ G'.κ
 r : ∃ τ, G'.ρ = G.ρ ++ τ
theorem Le.lk {G G' : Gam} (h : Le G G') : Lk G G' := ⟨h.k, h.r⟩
theorem Lk.at {G G' : Gam} (h : Lk G G') {l : Nat} {a : Addr} (e : G.ρ[l]? = some a) : G'.ρ[l]? = some a := by
 obtain ⟨τ, e'⟩ := h.r
 rw [e', List.getElem?_append_left (List.getElem?_eq_some_iff.mp e).1]; exact e
theorem Le.refl (G : Gam) : Le G G := ⟨fun _ h => h, ⟨[], (List.append_nil _).symm⟩, rfl⟩
theorem Le.trans {G G' G'' : Gam} (h : Le G G') (k : Le G' G'') : Le G G'' := by
 obtain ⟨τ, e⟩ := h.r
 obtain ⟨τ', e'⟩ := k.r
 exact ⟨fun p q => k.k p (h.k p q), ⟨τ ++ τ', by rw [e', e, List.append_assoc]⟩, k.t.trans h.t⟩
theorem Le.at {G G' : Gam} (h : Le G G') {l : Nat} {a : Addr} (e : G.ρ[l]? = some a) : G'.ρ[l]? = some a := by
 obtain ⟨τ, e'⟩ := h.r
 rw [e', List.getElem?_append_left (List.getElem?_eq_some_iff.mp e).1]; exact e
noncomputable abbrev C9 (vs : List Value) (n : Nat) : Obj := { cls := .type "tuple", data := .seq vs.toArray n }
def has (P : Params) (G : Gam) (a : Addr) (o : Obj) : Prop := (a, o) ∈ G.κ ∨ (K P).lookup a = some o
theorem has.mono2 {P : Params} {G G' : Gam} (l : Lk G G') {a : Addr} {o : Obj} (h : has P G a o) : has P G' a o := h.elim (fun h => .inl (l.k _ h)) .inr
def dk (P : Params) (k : Str) (e : DictEntry) : Prop := ∃ t u, e = ⟨PyData.keyHash P k, .str k t, u⟩
noncomputable abbrev big : Nat := 100000
def dK : List Expr := match p9.1 with
 | _ :: _ :: .Assign _ (.Tuple es _ _) _ :: _ => es
 | _ => []
def z6 (k : Nat) : Expr := match dK[k]? with | some (.Lambda _ b _ _) => b | _ => .Constant .none 0 default
def L8 (k : Nat) : Arguments := match dK[k]? with | some (.Lambda p _ _ _) => p | _ => ⟨[], [], none, [], [], none, []⟩
def w8 (k : Nat) : Scope := match dK[k]? with | some (.Lambda _ _ s _) => s | _ => default
noncomputable abbrev Z5 : Str := "_law_state.<locals>.<lambda>"
def bS (P : Params) (G : Gam) (k : Nat) (o : Obj) : Prop := ∃ pm c ct oc vs t, o = kla_obj "<lambda>" Z5 (L8 k) (z6 k) (w8 k) [] pm c ct ∧ has P G c oc ∧ oc.data = .fields vs ∧ vs[1]? = some (.str Z5 t)
theorem bS.mono2 {P : Params} {G G' : Gam} (l : Lk G G') {k : Nat} {o : Obj} (h : bS P G k o) : bS P G' k o := by
 obtain ⟨pm, c, ct, oc, vs, t, h1, h2, h3⟩ := h; exact ⟨pm, c, ct, oc, vs, t, h1, h2.mono2 l, h3⟩
mutual
def RV (P : Params) (G : Gam) : V -> Value -> Prop
 | .none, v => v = .none
 | .bool b, v => v = .bool b
 | .int n, v => ∃ k, v = .int n k
 | .str x, v => ∃ k, v = .str x k
 | .byt n, v => ∃ b k, v = .bytes b k ∧ b.size = n ∧ n ≤ big
 | .ref l, v => ∃ a, G.ρ[l]? = some a ∧ v = .ref a
 | .val c, v => v = c
 | .lam p, v => ∃ a o, v = .ref a ∧ (a, o) ∈ G.κ ∧ bS P G p o
 | .tup xs, v => ∃ a us n, v = .ref a ∧ has P G a (C9 us n) ∧ RVs P G xs us ∧ xs.length ≤ big
 | .lst xs, v => ∃ a us n, v = .ref a ∧ has P G a (listOf us.toArray n) ∧ RVs P G xs us ∧ xs.length ≤ big
 | .dct ks xs, v => ∃ a des n, v = .ref a ∧ has P G a (dictOf des n) ∧ d9 (dk P) ks des ∧ RVs P G xs (des.map (·.val)) ∧ (a == sysModules) = false ∧ ks.Nodup
 | .rng x y z, v => ∃ a t t' t'', v = .ref a ∧ has P G a { cls := .type "range", data := .fields #[.int x t, .int y t', .int z t''] }
def RVs (P : Params) (G : Gam) : List V -> List Value -> Prop
 | [], us => us = []
 | x :: xs, us => ∃ u us', us = u :: us' ∧ RV P G x u ∧ RVs P G xs us'
end
theorem RVs.all {P : Params} {G : Gam} : ∀ {xs : List V} {us : List Value}, RVs P G xs us -> d9 (RV P G) xs us
 | [], us, h => by cases h; exact .nil
 | x :: xs, us, h => by obtain ⟨u, us', rfl, h1, h2⟩ := h; exact .cons h1 (RVs.all h2)
theorem d9.rvs {P : Params} {G : Gam} {xs : List V} {us : List Value} (h : d9 (RV P G) xs us) : RVs P G xs us := by
 induction h with
 | nil => exact rfl
 | cons h _ ih => exact ⟨_, _, rfl, h, ih⟩
mutual
theorem RV.mono2 {P : Params} {G G' : Gam} (l : Lk G G') : ∀ {x : V} {v : Value}, RV P G x v -> RV P G' x v
 | .ref k, v, h => h.imp fun a => And.imp_left l.at
 | .lam p, v, h => h.imp fun a => Exists.imp fun o => And.imp_right (And.imp (l.k _) (·.mono2 l))
 | .tup xs, v, h => h.imp fun a => Exists.imp fun us => Exists.imp fun n => And.imp_right (And.imp (·.mono2 l) (And.imp_left (RVs.mono2 l)))
 | .lst xs, v, h => h.imp fun a => Exists.imp fun us => Exists.imp fun n => And.imp_right (And.imp (·.mono2 l) (And.imp_left (RVs.mono2 l)))
 | .dct ks xs, v, h => h.imp fun a => Exists.imp fun us => Exists.imp fun n => And.imp_right (And.imp (·.mono2 l) (And.imp_right (And.imp_left (RVs.mono2 l))))
 | .rng x y z, v, h => h.imp fun a => Exists.imp fun t => Exists.imp fun t' => Exists.imp fun t'' => And.imp_right (·.mono2 l)
 | .none, v, h | .bool _, v, h | .int _, v, h | .str _, v, h | .byt _, v, h | .val _, v, h => h
theorem RVs.mono2 {P : Params} {G G' : Gam} (l : Lk G G') : ∀ {xs : List V} {us : List Value}, RVs P G xs us -> RVs P G' xs us
 | [], us, h => h
 | x :: xs, us, h => h.imp fun u => Exists.imp fun us' => And.imp_right (And.imp (RV.mono2 l) (RVs.mono2 l))
end
theorem has.mono {P : Params} {G G' : Gam} (l : Le G G') {a : Addr} {o : Obj} (h : has P G a o) : has P G' a o := h.mono2 l.lk
theorem RV.mono {P : Params} {G G' : Gam} (l : Le G G') {x : V} {v : Value} (h : RV P G x v) : RV P G' x v := RV.mono2 l.lk h
inductive O | list (xs : List V) | inst (cls : Addr) (d : Nat) | dict (es : List (Str × V)) | bya (n : Nat) | tab (ks : List (Nat × Nat))
section
noncomputable def j5 : V -> Option Int
 | .int n => some n
 | _ => none
noncomputable def da : V -> Option Bool
 | .bool b => some b
 | _ => none
noncomputable def I7 : V -> Option Nat
 | .ref l => some l
 | _ => none
noncomputable def M0 : V -> Bool
 | .none => true
 | _ => false
noncomputable def F1 : V -> Option (List V)
 | .tup xs => some xs
 | _ => none
noncomputable def GD : V -> Option Value
 | .val v => some v
 | _ => none
noncomputable def pe : O -> Option (List (Str × V))
 | .dict es => some es
 | _ => none
noncomputable def GH : O -> Option (Addr × Nat)
 | .inst C d => some (C, d)
 | _ => none
noncomputable def nj : O -> Option (List V)
 | .list xs => some xs
 | _ => none
noncomputable def GI : O -> Option Nat
 | .bya n => some n
 | _ => none
noncomputable def iQ : V -> Option Str
 | .str x => some x
 | _ => none
noncomputable def GG : V -> Option Nat
 | .lam k => some k
 | _ => none
noncomputable def one {α : Type} : List α -> Option α
 | [] => none
 | a :: r => match r with | [] => some a | _ :: _ => none
def two {α : Type} : List α -> Option (α × α)
 | [] => none
 | a :: r => (one r).map fun b => (a, b)
end
theorem bnd {α β : Type} {a : Option α} {f : α -> Option β} {b : β} (h : a.bind f = some b) : ∃ x, a = some x ∧ f x = some b := Option.bind_eq_some_iff.mp h
theorem mp {α β : Type} {a : Option α} {f : α -> β} {b : β} (h : a.map f = some b) : ∃ x, a = some x ∧ f x = b := Option.map_eq_some_iff.mp h
theorem gnd {α : Type} {c : Bool} {a : Option α} {b : α} (h : (bif c then none else a) = some b) : c = false ∧ a = some b := by
 cases c
 · exact ⟨rfl, h⟩
 · cases h
theorem e9 {α β : Type} {a : Option α} {f : α -> Option β} {b : β} {P : Prop} (h : a.bind f = some b) (k : ∀ x, a = some x -> f x = some b -> P) : P := by
 cases a with
 | none => cases h
 | some x => exact k x rfl h
theorem mpE {α β : Type} {a : Option α} {f : α -> β} {b : β} {P : Prop} (h : a.map f = some b) (k : ∀ x, a = some x -> f x = b -> P) : P := by
 cases a with
 | none => cases h
 | some x => exact k x rfl (Option.some.inj h)
theorem a9 {a b P : Prop} (h : a ∧ b) (k : a -> b -> P) : P := k h.1 h.2
theorem i5 {α : Type} {c : Bool} {a : Option α} {b : α} {P : Prop} (h : (bif c then a else none) = some b) (k : c = true -> a = some b -> P) : P := by
 cases c
 · cases h
 · exact k rfl h
def okG {α : Type} (o : Option α) (P : α -> Prop) : Prop := match o with
 | none => True
 | some a => P a
theorem okG.at {α : Type} {o : Option α} {P : α -> Prop} {a : α} (h : okG o P) (e : o = some a) : P a := by rw [e] at h; exact h
theorem okI {α : Type} {o : Option α} {P : α -> Prop} (h : ∀ a, o = some a -> P a) : okG o P := by
 cases o with
 | none => exact True.intro
 | some a => exact h a rfl
theorem okP {α β : Type} {o : Option (α × β)} {P : α × β -> Prop} (h : ∀ a b, o = some (a, b) -> P (a, b)) : okG o P := by
 cases o with
 | none => exact True.intro
 | some a => exact h a.1 a.2 rfl
theorem g9 {v : V} {n : Int} (h : j5 v = some n) : v = .int n := okG.at (P := fun n => v = .int n) (by cases v <;> first | exact True.intro | exact Eq.refl _) h
theorem M6 {v : V} {n : Bool} (h : da v = some n) : v = .bool n := okG.at (P := fun n => v = .bool n) (by cases v <;> first | exact True.intro | exact Eq.refl _) h
theorem cV {v : V} {n : Nat} (h : I7 v = some n) : v = .ref n := okG.at (P := fun n => v = .ref n) (by cases v <;> first | exact True.intro | exact Eq.refl _) h
theorem q8 {v : V} {n : List V} (h : F1 v = some n) : v = .tup n := okG.at (P := fun n => v = .tup n) (by cases v <;> first | exact True.intro | exact Eq.refl _) h
theorem nh {v : V} {n : Value} (h : GD v = some n) : v = .val n := okG.at (P := fun n => v = .val n) (by cases v <;> first | exact True.intro | exact Eq.refl _) h
theorem iT {o : O} {es : List (Str × V)} (h : pe o = some es) : o = .dict es := okG.at (P := fun es => o = .dict es) (by cases o <;> first | exact True.intro | exact Eq.refl _) h
theorem np {o : O} {i : Addr × Nat} (h : GH o = some i) : o = .inst i.1 i.2 := okG.at (P := fun i => o = .inst i.1 i.2) (by cases o <;> first | exact True.intro | exact Eq.refl _) h
theorem cW {o : O} {es : List V} (h : nj o = some es) : o = .list es := okG.at (P := fun es => o = .list es) (by cases o <;> first | exact True.intro | exact Eq.refl _) h
theorem nu {o : O} {n : Nat} (h : GI o = some n) : o = .bya n := okG.at (P := fun n => o = .bya n) (by cases o <;> first | exact True.intro | exact Eq.refl _) h
theorem J5 {v : V} {x : Str} (h : iQ v = some x) : v = .str x := okG.at (P := fun x => v = .str x) (by cases v <;> first | exact True.intro | exact Eq.refl _) h
theorem nl {v : V} {k : Nat} (h : GG v = some k) : v = .lam k := okG.at (P := fun k => v = .lam k) (by cases v <;> first | exact True.intro | exact Eq.refl _) h
theorem D8 {v : V} (h : M0 v = true) : v = .none := by
 have k : bif M0 v then v = .none else True := by cases v <;> first | exact True.intro | exact Eq.refl _
 rw [h] at k; exact k
theorem tE {α β γ : Type} {a v : α} {b H : β} {c ps : γ} {P : α -> β -> γ -> Prop} (h : some (a, b, c) = some (v, H, ps)) (k : P a b c) : P v H ps := by cases h; exact k
theorem B5 {α : Type} {l : List α} {a : α} (h : one l = some a) : l = [a] := by
 cases l with
 | nil => cases h
 | cons b r =>
  cases r with
  | nil => exact congrArg (fun x => [x]) (Option.some.inj h)
  | cons _ _ => cases h
theorem J7 {α : Type} {l : List α} {a : α × α} (h : two l = some a) : l = [a.1, a.2] := by
 cases l with
 | nil => cases h
 | cons b r => exact mpE h fun c h1 h => by rw [B5 h1, ← h]
theorem i0 {a b : Bool} (h : (a && b) = true) : a = true ∧ b = true := Bool.and_eq_true_iff.mp h
theorem yD {a : Bool} (h : (!a) = true) : a = false := by cases a; rfl; cases h
theorem cdE {α : Type} {c : Bool} {a b : Option α} {r : α} {P : Prop} (h : (bif c then a else b) = some r) (k : c = true -> a = some r -> P) (k' : c = false -> b = some r -> P) : P := by
 cases c
 · exact k' rfl h
 · exact k rfl h
def RE (P : Params) (G : Gam) (x : Str × V) (e : DictEntry) : Prop := ∃ k u, e = ⟨PyData.keyHash P x.1, .str x.1 k, u⟩ ∧ RV P G x.2 u
def Gq (n : Nat) (o : Obj) : Prop := ∃ b : Array UInt8, o = { cls := .type "bytearray", data := .bytearray b } ∧ b.size = n
def lH (G : Gam) (ks : List (Nat × Nat)) (o : Obj) : Prop := ∃ ps : Array Value, o = tabObj ps ∧ TriplesOk ps.toList ∧ (∀ q : Pos, (q.line, q.col) ∉ ks -> codeAmong q ps.toList = none) ∧ G.ρ.head? = some 996
theorem lH.mono2 {G G' : Gam} (l : Lk G G') {ks : List (Nat × Nat)} {o : Obj} (h : lH G ks o) : lH G' ks o := by
 obtain ⟨ps, h1, h2, h3, h4⟩ := h
 obtain ⟨τ, e⟩ := l.r
 refine ⟨ps, h1, h2, h3, ?_⟩
 rw [e]
 cases hr : G.ρ with
 | nil => rw [hr] at h4; cases h4
 | cons a r => rw [hr] at h4; exact h4
def RO (P : Params) (G : Gam) : O -> Obj -> Prop
 | .list xs, o => ∃ us n, o = listOf us.toArray n ∧ d9 (RV P G) xs us ∧ xs.length ≤ big
 | .inst c d, o => ∃ a sl, G.ρ[d]? = some a ∧ o = ⟨.ref c, some a, .plain, sl⟩
 | .dict es, o => ∃ des n, o = dictOf des n ∧ d9 (RE P G) es des
 | .bya n, o => Gq n o
 | .tab ks, o => lH G ks o
theorem RO.mono2 {P : Params} {G G' : Gam} (l : Lk G G') {x : O} {o : Obj} (h : RO P G x o) : RO P G' x o := by
 cases x with
 | list xs => obtain ⟨us, n, h1, h2, h3⟩ := h; exact ⟨us, n, h1, h2.imp fun _ _ h => h.mono2 l, h3⟩
 | inst c d => obtain ⟨a, sl, h1, h2⟩ := h; exact ⟨a, sl, l.at h1, h2⟩
 | dict es => obtain ⟨us, n, h1, h2⟩ := h; exact ⟨us, n, h1, h2.imp fun _ _ ⟨k, u, h, h'⟩ => ⟨k, u, h, h'.mono2 l⟩⟩
 | bya n => exact h
 | tab ks => exact lH.mono2 l h
theorem RO.mono {P : Params} {G G' : Gam} (l : Le G G') {x : O} {o : Obj} (h : RO P G x o) : RO P G' x o := h.mono2 l.lk
structure Co where
 sc : Scope
 C : Addr
 cl : List (Str × Addr)
 m : Str -> Option Value
structure Cf where
 p : Program
 loose : List Str
 mean : ExcName -> Option Value
 mg : Str -> Option Value
 mb : Str -> Option Value
 dp : Nat
 un : Nat
 gd : Option (List Code)
 cn : Str
 cs : Scope
 a : Addr
 ccd : Value
 cl : List (Str × Addr)
 cf : List (Str × V)
 co : Option Co
 outer : List Env
 A₀ : Around
 base : Heap
 h₀ : Heap
 L : Addr
noncomputable abbrev tp (X : Cf) : Around := ktrTop X.dp X.un X.gd X.cn X.cs X.L X.a X.ccd X.cl X.outer
noncomputable abbrev ev (X : Cf) : Env := envX X.cn X.cs X.L X.a X.ccd X.cl
def eX (X : Cf) : Env := match X.co with
 | none => ev X
 | some c => compEnvC c.sc c.cl c.C (ev X)
structure St where
 fr : List (Str × V)
 hp : List O
def RF (P : Params) (G : Gam) (fr : List (Str × V)) (m : Str -> Option Value) : Prop := ∀ x v, fr.lookup x = some v -> ∃ u, m x = some u ∧ RV P G v u
theorem RF.mono2 {P : Params} {G G' : Gam} (l : Lk G G') {fr : List (Str × V)} {m : Str -> Option Value} (h : RF P G fr m) : RF P G' fr m := fun x v e => by
 obtain ⟨u, h1, h2⟩ := h x v e; exact ⟨u, h1, h2.mono2 l⟩
theorem RF.mono {P : Params} {G G' : Gam} (l : Le G G') {fr : List (Str × V)} {m : Str -> Option Value} (h : RF P G fr m) : RF P G' fr m := h.mono2 l.lk
def CF (P : Params) (X : Cf) (G : Gam) : Prop := ∀ x v, X.cf.lookup x = some v -> ∃ c o u, (eX X).cells.lookup x = some c ∧ (c, o) ∈ G.κ ∧ o.data = .cell (some u) ∧ RV P G v u
def Frm (P : Params) (X : Cf) (G : Gam) (fr : List (Str × V)) (m : Str -> Option Value) : Prop := match X.co with
 | none => RF P G fr m
 | some c => m = c.m ∧ ∃ oC w0, (c.C, oC) ∈ G.θ ∧ LCg.NsObj oC w0 ∧ RF P G fr w0
theorem CF.mono2 {P : Params} {X : Cf} {G G' : Gam} (l : Lk G G') (h : CF P X G) : CF P X G' := fun x v e => by
 obtain ⟨c, o, u, h1, h2, h3, h4⟩ := h x v e
 exact ⟨c, o, u, h1, l.k _ h2, h3, h4.mono2 l⟩
theorem CF.mono {P : Params} {X : Cf} {G G' : Gam} (l : Le G G') (h : CF P X G) : CF P X G' := h.mono2 l.lk
theorem Frm.mono {P : Params} {X : Cf} {G G' : Gam} (l : Le G G') {fr : List (Str × V)} {m : Str -> Option Value} (h : Frm P X G fr m) : Frm P X G' fr m := by
 unfold Frm at h ⊢
 split
 · rename_i e; rw [e] at h; exact h.mono l
 · rename_i c e; rw [e] at h
   obtain ⟨h1, oC, w0, h2, h3, h4⟩ := h
   exact ⟨h1, oC, w0, l.t ▸ h2, h3, h4.mono l⟩
structure oy (G : Gam) : Prop where
 nd : G.ρ.Nodup
 kr : ∀ p ∈ G.κ, p.1 ∉ G.ρ
 tr : ∀ p ∈ G.θ, p.1 ∉ G.ρ
 kt : ∀ p ∈ G.κ, ∀ q ∈ G.θ, p.1 ≠ q.1
inductive OkH (w : World) (X : Cf) (G : Gam) (σ : St) (h : Heap) : Prop
 | mk (m : Str -> Option Value) (obs : List Obj) (C : Cx w X.p X.loose X.mean X.mg X.mb X.dp X.un X.cs X.A₀ X.base X.outer X.h₀ X.L h m (List.zip G.ρ obs ++ (G.κ ++ G.θ))) (h1 : G.ρ.length = obs.length) (h2 : oy G) (h3 : d9 (RO w.params G) σ.hp obs) (hf : Frm w.params X G σ.fr m) (hc : CF w.params X G)
def Ok (w : World) (X : Cf) (G : Gam) (σ : St) (s : Shared) : Prop := OkH w X G σ s.heap
def j3 (s s' : Shared) : Prop := s'.gens = s.gens ∧ s'.drawn = s.drawn ∧ s'.os = s.os
theorem j3.refl (s : Shared) : j3 s s := ⟨rfl, rfl, rfl⟩
theorem j3.trans {a b c : Shared} (h : j3 a b) (k : j3 b c) : j3 a c := ⟨k.1.trans h.1, k.2.1.trans h.2.1, k.2.2.trans h.2.2⟩
def Gv (w : World) (X : Cf) (G : Gam) (s : Shared) (t : Sem Value) (v : V) (σ' : St) : Prop :=
 ∀ Q E, (∀ G' u s', Le G G' -> Ok w X G' σ' s' -> RV w.params G' v u -> j3 s s' -> Q u s') -> wpC (mdl w) (tp X) t Q E s
def Ev (w : World) (X : Cf) (σ : St) (e : Expr) (v : V) (σ' : St) : Prop := ∀ G s, Ok w X G σ s -> Gv w X G s (eval e (eX X)) v σ'
section
variable {w : World} {X : Cf} {G : Gam} {σ σ' σ'' : St} {s : Shared}
theorem Ok.kin (h : Ok w X G σ s) : (K w.params).In s.heap := by
 obtain ⟨m, obs, C, _⟩ := h
 exact Frag.In.keeps C.X C.F.keep
theorem Ok.hasAt (h : Ok w X G σ s) {a : Addr} {o : Obj} (k : has w.params G a o) : s.heap.get? a = some o := by
 rcases k with k | k
 · obtain ⟨m, obs, C, _⟩ := h
   exact (C.N _ (aR (aL k))).1
 · exact h.kin _ _ k
theorem Ev.cInt {i : Int} {k pos} : Ev w X σ (.Constant (.int i) k pos) (.int i) σ := fun G s h Q E hq => cC (wpAny_Constant_int (hq G _ _ (.refl G) h ⟨_, rfl⟩ ⟨rfl, rfl, rfl⟩))
theorem Ev.cNone {k pos} : Ev w X σ (.Constant .none k pos) .none σ := fun G s h Q E hq => cC (wpAny_Constant_none (hq G _ _ (.refl G) h rfl (j3.refl s)))
theorem Ev.cBool {b : Bool} {k pos} : Ev w X σ (.Constant (.bool b) k pos) (.bool b) σ := fun G s h Q E hq => cC (wpAny_Constant_bool (hq G _ _ (.refl G) h rfl (j3.refl s)))
theorem Ev.cStr {x : Str} {k pos} : Ev w X σ (.Constant (.str x) k pos) (.str x) σ := fun G s h Q E hq => cC (wpAny_Constant_str (hq G _ _ (.refl G) h ⟨_, rfl⟩ ⟨rfl, rfl, rfl⟩))
theorem W3 (X : Cf) : (eX X).globals = mainGlobals ∧ (eX X).builtins = builtinsNs := by
 unfold eX; split <;> exact ⟨rfl, rfl⟩
theorem Ok.ns (h : Ok w X G σ s) : ∃ mm, s.heap.Ns (eX X).locals mm ∧ RF w.params G σ.fr mm := by
 obtain ⟨m, obs, C, h1, h2, h3, hf, hc⟩ := h
 unfold Frm at hf
 unfold eX
 split
 · rename_i e; rw [e] at hf; exact ⟨m, C.F.ns, hf⟩
 · rename_i c e; rw [e] at hf
   obtain ⟨g1, oC, w0, g2, g3, g4⟩ := hf
   exact ⟨w0, g3.ns (C.N _ (aR (aR g2))).1, g4⟩
theorem Ev.nm {x : Str} {v : V} {pos} (e : σ.fr.lookup x = some v) (hk : (eX X).scope.kind = .function) (hx : (eX X).kindOf x = some .local) (hd : (x == ("__debug__" : Str)) = false) : Ev w X σ (.Name x pos) v σ := fun G s h Q E hq => by
 obtain ⟨mm, hn, hf⟩ := h.ns
 obtain ⟨u, hu, hv⟩ := hf x v e
 exact cC (wpAny_Name (wpAny_loadName_local hk hx hn hu (hq G _ _ (.refl G) h hv (j3.refl s))) hd)
theorem Ev.ce {x : Str} {v : V} {pos} (e : X.cf.lookup x = some v) (hk : (eX X).scope.kind = .function) (hx : (eX X).kindOf x = some .cell) (hd : (x == ("__debug__" : Str)) = false) : Ev w X σ (.Name x pos) v σ := fun G s h Q E hq => by
 obtain ⟨m, obs, C, h1, h2, h3, hf, hc⟩ := id h
 obtain ⟨c, o, u, k1, k2, k3, k4⟩ := hc x v e
 exact cC (wpAny_Name (wpAny_loadName_cell hk hx k1 ⟨o, h.hasAt (.inl k2), k3⟩ (hq G _ _ (.refl G) h k4 (j3.refl s))) hd)
theorem Ev.gl {x : Str} {c : Value} {v : V} {pos} (e : nsIn (K w.params) mainGlobals x = some (some c)) (hv : ∀ G, RV w.params G v c) (hk : (eX X).scope.kind = .function) (hx : (eX X).kindOf x = some .globalImplicit) (hd : (x == ("__debug__" : Str)) = false) : Ev w X σ (.Name x pos) v σ := fun G s h Q E hq => by
 obtain ⟨m, obs, C, h1, h2, h3, hf, hc⟩ := id h
 have T := topRead_of C.T
 exact cC (Name_function_global hk hx (loadGlobal_global (env := eX X) (show s.heap.Ns (eX X).globals X.mg from (W3 X).1 ▸ T.g.keeps C.F.keep) (mg_of C.X T.g e) (hq G _ _ (.refl G) h (hv G) (j3.refl s))) hd)
theorem Ev.bi {x : Str} {c : Value} {pos} (e : nsIn (K w.params) mainGlobals x = some none) (hv : bootBuiltins x = some c) (hn : x ≠ "__name__") (hk : (eX X).scope.kind = .function) (hx : (eX X).kindOf x = some .globalImplicit) (hd : (x == ("__debug__" : Str)) = false) : Ev w X σ (.Name x pos) (.val c) σ := fun G s h Q E hq => by
 obtain ⟨m, obs, C, h1, h2, h3, hf, hc⟩ := id h
 have T := topRead_of C.T
 exact cC (Name_function_global hk hx (loadGlobal_builtin (env := eX X) (show s.heap.Ns (eX X).globals X.mg from (W3 X).1 ▸ T.g.keeps C.F.keep) (mg_none_of C.X T.g e) (show s.heap.Ns (eX X).builtins X.mb from (W3 X).2 ▸ T.b.keeps C.F.keep) ((T.builtins x hn).trans hv) (hq G _ _ (.refl G) h rfl (j3.refl s))) hd)
theorem Ev.two {l r : Expr} {a b : V} (hl : Ev w X σ l a σ') (hr : Ev w X σ' r b σ'') {Q : VP} {E : VP} {T : Value -> Value -> Sem Value} (h : Ok w X G σ s)
 (hT : ∀ G' u v s', Le G G' -> Ok w X G' σ'' s' -> RV w.params G' a u -> RV w.params G' b v -> j3 s s' -> wpC (mdl w) (tp X) (T u v) Q E s') :
 wpC (mdl w) (tp X) (eval l (eX X)) (fun u a7 => wpC (mdl w) (tp X) (eval r (eX X)) (fun v a8 => wpC (mdl w) (tp X) (T u v) Q E a8) E a7) E s := by
 refine hl G s h _ _ fun b8 u a7 c0 b6 hu b9 => ?_
 refine hr _ a7 b6 _ _ fun i6 v a8 f6 f8 hv e7 => ?_
 exact hT i6 u v a8 (c0.trans f6) f8 (hu.mono f6) hv (b9.trans e7)
theorem C4 {α β : Type} : ∀ {as : List α} {bs : List β} {a : α} {b : β}, as.length = bs.length -> List.zip (as ++ [a]) (bs ++ [b]) = List.zip as bs ++ [(a, b)]
 | [], [], _, _, _ => rfl
 | _ :: _, _ :: _, _, _, h => by rw [List.cons_append, List.cons_append, List.zip_cons_cons, C4 (Nat.succ.inj h)]; rfl
theorem Ok.fresh (h : Ok w X G σ s) {a : Addr} (ha : s.heap.objs.size ≤ a) : a ∉ G.ρ ∧ (∀ p ∈ G.κ, p.1 ≠ a) ∧ ∀ p ∈ G.θ, p.1 ≠ a := by
 obtain ⟨m, obs, C, h1, h2, h3, hf, hc⟩ := id h
 refine ⟨fun hm => ?_, fun p hp e => ?_, fun p hp e => ?_⟩
 · obtain ⟨i, hi, ei⟩ := List.mem_iff_getElem.mp hm
   have hi' : i < obs.length := h1 ▸ hi
   have := (C.N (G.ρ[i], obs[i]) (aL (List.mem_iff_getElem.mpr ⟨i, by rw [List.length_zip]; lia, by simp⟩))).1
   rw [ei] at this
   exact absurd (Heap.lt_size this) (Nat.not_lt.mpr ha)
 · have := (C.N p (aR (aL hp))).1
   rw [e] at this
   exact absurd (Heap.lt_size this) (Nat.not_lt.mpr ha)
 · have := (C.N p (aR (aR hp))).1
   rw [e] at this
   exact absurd (Heap.lt_size this) (Nat.not_lt.mpr ha)
noncomputable def St.push (σ : St) (o : O) : St := ⟨σ.fr, σ.hp ++ [o]⟩
noncomputable def Gam.mut (G : Gam) (a : Addr) : Gam := ⟨G.κ, G.ρ ++ [a], G.θ⟩
noncomputable def Gam.imm (G : Gam) (a : Addr) (o : Obj) : Gam := ⟨(a, o) :: G.κ, G.ρ, G.θ⟩
theorem Gam.le_mut (G : Gam) (a : Addr) : Le G (G.mut a) := ⟨fun _ h => h, ⟨[a], rfl⟩, rfl⟩
theorem Gam.le_imm (G : Gam) (a : Addr) (o : Obj) : Le G (G.imm a o) := ⟨fun _ h => .tail _ h, ⟨[], (List.append_nil _).symm⟩, rfl⟩
theorem Ok.hlen (h : Ok w X G σ s) : G.ρ.length = σ.hp.length := by
 obtain ⟨m, obs, C, h1, h2, h3, hf, hc⟩ := h
 rw [h1, h3.len]
theorem Ok.mutAt (h : Ok w X G σ s) (a : Addr) : (G.mut a).ρ[σ.hp.length]? = some a := by
 show (G.ρ ++ [a])[σ.hp.length]? = some a
 rw [← h.hlen]; simp
theorem Ok.newM {o : O} {ob : Obj} {tk : Nat} {a : Addr} {W : Prop} (ha0 : s.heap.objs.size ≤ a) (h : Ok w X G σ s) (ho : RO w.params G o ob) {α : Type} (u : α) (Q : α -> Shared -> Prop) (E : VP)
 (hq : ∀ s', Ok w X (G.mut a) (σ.push o) s' -> j3 s s' -> Q u s')
 (rule : ∀ (m : Str -> Option Value) (news : List (Addr × Obj)), Fr X.h₀ X.L s.heap m -> News X.h₀ X.L s.heap news -> (∀ h', Fr X.h₀ X.L h' m -> News X.h₀ X.L h' ((a, ob) :: news) -> Q u { s with heap := h', toks := tk }) -> W) :
 W := by
 obtain ⟨f1, f2, f3⟩ := h.fresh ha0
 obtain ⟨m, obs, C, h1, h2, h3, hf, hc⟩ := id h
 refine rule m _ C.F C.N fun h' F' N' => hq _ ⟨m, obs ++ [ob], ⟨C.B, F', C.X, ?_, C.T, C.k⟩, by simp [Gam.mut, h1], ?_, (h3.imp fun _ _ h => h.mono (G.le_mut a)).snoc (ho.mono (G.le_mut a)), hf.mono (G.le_mut a), hc.mono (G.le_mut a)⟩ ⟨rfl, rfl, rfl⟩
 · show News X.h₀ X.L h' (List.zip (G.ρ ++ [a]) (obs ++ [ob]) ++ (G.κ ++ G.θ))
   rw [C4 h1]
   intro p hp
   rcases aM hp with h | h
   · rcases aM h with h | h
     · exact N' p (.tail _ (aL h))
     · rw [nM h]; exact N' _ (.head _)
   · exact N' p (.tail _ (aR h))
 · refine ⟨List.nodup_append.mpr ⟨h2.nd, by simp, fun a1 ha b hb e => ?_⟩, fun p hp hm => ?_, fun p hp hm => ?_, h2.kt⟩
   · rw [List.mem_singleton] at hb
     subst hb e
     exact f1 ha
   · rcases aM hm with h | h
     · exact h2.kr p hp h
     · exact f2 p hp (nM h)
   · rcases aM hm with h | h
     · exact h2.tr p hp h
     · exact f3 p hp (nM h)
theorem Ok.newI {ob : Obj} {tk : Nat} {a : Addr} {W : Prop} (ha0 : s.heap.objs.size ≤ a) (h : Ok w X G σ s) {α : Type} (u : α) (Q : α -> Shared -> Prop) (E : VP)
 (hq : ∀ s', Ok w X (G.imm a ob) σ s' -> j3 s s' -> Q u s')
 (rule : ∀ (m : Str -> Option Value) (news : List (Addr × Obj)), Fr X.h₀ X.L s.heap m -> News X.h₀ X.L s.heap news -> (∀ h', Fr X.h₀ X.L h' m -> News X.h₀ X.L h' ((a, ob) :: news) -> Q u { s with heap := h', toks := tk }) -> W) :
 W := by
 obtain ⟨f1, f2, f3⟩ := h.fresh ha0
 obtain ⟨m, obs, C, h1, h2, h3, hf, hc⟩ := id h
 refine rule m _ C.F C.N fun h' F' N' => hq _ ⟨m, obs, ⟨C.B, F', C.X, ?_, C.T, C.k⟩, h1, ?_, h3.imp fun _ _ h => h.mono (G.le_imm a ob), hf.mono (G.le_imm a ob), hc.mono (G.le_imm a ob)⟩ ⟨rfl, rfl, rfl⟩
 · show News X.h₀ X.L h' (List.zip G.ρ obs ++ ((a, ob) :: G.κ ++ G.θ))
   intro p hp
   rcases aM hp with h | h
   · exact N' p (.tail _ (aL h))
   · rcases mC h with rfl | h
     · exact N' _ (.head _)
     · exact N' p (.tail _ (aR h))
 · refine ⟨h2.nd, fun p hp => ?_, h2.tr, fun p hp q hq => ?_⟩
   · rcases mC hp with rfl | hp
     · exact f1
     · exact h2.kr p hp
   · rcases mC hp with rfl | hp
     · exact (f3 q hq).symm
     · exact h2.kt p hp q hq
theorem Ok.newT {us : List Value} {xs : List V} {n : Nat} {a : Addr} (G : Gam) (h : d9 (RV w.params G) xs us) (hz : xs.length ≤ big) : RV w.params (G.imm a (C9 us n)) (.tup xs) (.ref a) :=
 ⟨a, us, n, rfl, .inl (.head _), (h.imp fun _ _ h => h.mono (G.le_imm a _)).rvs, hz⟩
theorem Ok.newL {us : List Value} {xs : List V} {n : Nat} {a : Addr} (G : Gam) (h : d9 (RV w.params G) xs us) (hz : xs.length ≤ big) : RV w.params (G.imm a (listOf us.toArray n)) (.lst xs) (.ref a) :=
 ⟨a, us, n, rfl, .inl (.head _), (h.imp fun _ _ h => h.mono (G.le_imm a _)).rvs, hz⟩
def Es (w : World) (X : Cf) (σ : St) (es : List Expr) (vs : List V) (σ' : St) : Prop := ∀ (pos : Pos) G s, Ok w X G σ s -> ∀ Q E, (∀ G' us s', Le G G' -> Ok w X G' σ' s' -> d9 (RV w.params G') vs us -> j3 s s' -> Q us s') -> wpC (mdl w) (tp X) (spliced (backTo pos (starEach es (eX X)))) Q E s
theorem Es.nil : Es w X σ [] [] σ := fun _ G s h Q E hq => nL (hq G [] _ (.refl G) h .nil (j3.refl s))
theorem Es.cons {e : Expr} {es : List Expr} {v : V} {vs : List V} (h1 : Ev w X σ e v σ') (h2 : Es w X σ' es vs σ'') (he : starEach (e :: es) (eX X) = (false, eval e (eX X)) :: starEach es (eX X)) : Es w X σ (e :: es) (v :: vs) σ'' := fun pos G s h Q E hq => by
 refine nN (h1 G s h _ _ fun b8 u a7 c0 k hu b9 => h2 pos _ a7 k _ _ fun i6 us a8 f6 k' hus e7 => ?_) he
 exact hq i6 _ _ (c0.trans f6) k' (.cons (hu.mono f6) hus) (b9.trans e7)
theorem Ev.mkTuple {es : List Expr} {k : Nat} {pos : Pos} {vs : List V} (h : Es w X σ es vs σ') (hz : vs.length ≤ big) : Ev w X σ (.Tuple es k pos) (.tup vs) σ' := fun G s ho Q E hq => by
 refine zS (h pos G s ho _ _ fun b8 us a7 c0 k hus b9 => ?_)
 have hl : us.length ≤ sizeLine := by rw [← hus.len, sizeLine_eq]; have hz : vs.length ≤ 100000 := hz; lia
 refine cC (k.newI (tk := a7.toks) (Nat.le_refl _) (Value.ref a7.heap.objs.size) Q E (fun s' k' e7 => ?_) fun m news F N hk => newTuple_N F N (fun h' F' N' => hk h' F' N') hl)
 exact hq _ _ _ (c0.trans (Gam.le_imm ..)) k' (Ok.newT b8 hus hz) (b9.trans e7)
theorem Ev.mkListF {es : List Expr} {pos : Pos} {vs : List V} (h : Es w X σ es vs σ') (hz : vs.length ≤ big) : Ev w X σ (.List es pos) (.lst vs) σ' := fun G s ho Q E hq => by
 refine pk (h pos G s ho _ _ fun b8 us a7 c0 k hus b9 => ?_)
 have hl : us.length ≤ sizeLine := by rw [← hus.len, sizeLine_eq]; have hz : vs.length ≤ 100000 := hz; lia
 refine cC (k.newI (tk := a7.toks) (Nat.le_refl _) (Value.ref a7.heap.objs.size) Q E (fun s' k' e7 => ?_) fun m news F N hk => newList_N F N (fun h' F' N' => hk h' F' N') hl)
 exact hq _ _ _ (c0.trans (Gam.le_imm ..)) k' (Ok.newL b8 hus hz) (b9.trans e7)
theorem Ev.mkList {es : List Expr} {pos : Pos} {vs : List V} (h : Es w X σ es vs σ') (hz : vs.length ≤ big) : Ev w X σ (.List es pos) (.ref σ'.hp.length) (σ'.push (.list vs)) := fun G s ho Q E hq => by
 refine pk (h pos G s ho _ _ fun b8 us a7 c0 k hus b9 => ?_)
 have hl : us.length ≤ sizeLine := by rw [← hus.len, sizeLine_eq]; have hz : vs.length ≤ 100000 := hz; lia
 refine cC (k.newM (tk := a7.toks) (o := .list vs) (ob := listOf us.toArray 0) (Nat.le_refl _) ⟨us, 0, rfl, hus, hz⟩ (Value.ref a7.heap.objs.size) Q E (fun s' k' e7 => ?_) fun m news F N hk => newList_N F N (fun h' F' N' => hk h' F' N') hl)
 exact hq _ _ _ (c0.trans (Gam.le_mut ..)) k' ⟨_, k.mutAt _, rfl⟩ (b9.trans e7)
inductive Fl | next | ret (v : V) | brk | cont
def RFl (P : Params) (G : Gam) : Fl -> Flow -> Prop
 | .next, f => f = .next
 | .ret v, f => ∃ u, f = .ret u ∧ RV P G v u
 | .brk, f => f = .brk
 | .cont, f => f = .cont
def GvF (w : World) (X : Cf) (G : Gam) (s : Shared) (t : Sem Flow) (fl : Fl) (σ' : St) : Prop :=
 ∀ Q E, (∀ G' f s', Le G G' -> Ok w X G' σ' s' -> RFl w.params G' fl f -> j3 s s' -> Q f s') -> wpC (mdl w) (tp X) t Q E s
def E1 (w : World) (X : Cf) (σ : St) (b : Stmt) (fl : Fl) (σ' : St) : Prop := ∀ G s, Ok w X G σ s -> GvF w X G s (exec b (eX X)) fl σ'
def Ex (w : World) (X : Cf) (σ : St) (bs : List Stmt) (fl : Fl) (σ' : St) : Prop := ∀ G s, Ok w X G σ s -> GvF w X G s (execs bs (eX X)) fl σ'
theorem Ex.nil : Ex w X σ [] .next σ := fun G s h Q E hq => cC (wpAny_execs_nil (hq G _ _ (.refl G) h rfl (j3.refl s)))
theorem Ex.cons {b : Stmt} {bs : List Stmt} {fl : Fl} (h1 : E1 w X σ b .next σ') (h2 : Ex w X σ' bs fl σ'') : Ex w X σ (b :: bs) fl σ'' := fun G s h Q E hq => by
 refine jt (h1 G s h _ _ fun b8 f a7 c0 k hf b9 => ?_)
 cases hf
 exact h2 _ a7 k _ _ fun i6 f' a8 f6 k' hf' e7 => hq i6 _ _ (c0.trans f6) k' hf' (b9.trans e7)
theorem Ex.stop {b : Stmt} {bs : List Stmt} {fl : Fl} (h1 : E1 w X σ b fl σ') (hn : fl ≠ .next) : Ex w X σ (b :: bs) fl σ' := fun G s h Q E hq => by
 refine jt (h1 G s h _ _ fun b8 f a7 c0 k hf b9 => ?_)
 cases fl with
 | next => exact absurd rfl hn
 | ret v => obtain ⟨u, rfl, hu⟩ := hf; exact hq b8 _ _ c0 k ⟨u, rfl, hu⟩ b9
 | brk => cases hf; exact hq b8 _ _ c0 k rfl b9
 | cont => cases hf; exact hq b8 _ _ c0 k rfl b9
theorem Ex.one {b : Stmt} {fl : Fl} (h1 : E1 w X σ b fl σ') : Ex w X σ [b] fl σ' := by
 cases fl with
 | next => exact .cons h1 .nil
 | _ => exact .stop h1 (by intro h; cases h)
theorem E1.ret {e : Expr} {v : V} {pos : Pos} (h : Ev w X σ e v σ') : E1 w X σ (.Return (some e) pos) (.ret v) σ' := fun G s k Q E hq =>
 cRet (h G s k _ _ fun b8 u a7 c0 k' hu b9 => hq b8 _ _ c0 k' ⟨u, rfl, hu⟩ b9)
noncomputable def St.put (σ : St) (x : Str) (v : V) : St := ⟨(x, v) :: σ.fr, σ.hp⟩
theorem Ok.put {x : Str} {v : V} {u : Value} (h : Ok w X G σ s) (hv : RV w.params G v u) (Q : Unit -> Shared -> Prop) (E : VP) (hco : X.co = none) (hk : X.cs.kind = .function) (hx : X.cs.names.lookup x = some .local)
 (hq : ∀ s', Ok w X G (σ.put x v) s' -> j3 s s' -> Q () s') : wpAny (mdl w) (tp X) (storeName (eX X) x u) Q E s := by
 obtain ⟨m, obs, C, h1, h2, h3, hf, hc⟩ := id h
 have ee : eX X = ev X := by unfold eX; rw [hco]
 rw [ee]
 refine storeX_L C.F C.N (fun h' F' N' => hq _ ⟨_, obs, ⟨C.B, F', C.X, N', C.T, C.k⟩, h1, h2, h3, ?_, hc⟩ ⟨rfl, rfl, rfl⟩) hk hx
 unfold Frm at hf ⊢
 rw [hco] at hf ⊢
 intro y v' e'
 have e' : List.lookup y ((x, v) :: σ.fr) = some v' := e'
 by_cases e : y = x
 · subst e
   rw [List.lookup_cons_self] at e'
   cases e'
   exact ⟨u, if_pos rfl, hv⟩
 · rw [List.lookup_cons, nB e] at e'
   dsimp only
   rw [if_neg e]
   exact hf y v' e'
theorem E1.assign {e : Expr} {x : Str} {v : V} {pos p' : Pos} (h : Ev w X σ e v σ') (hco : X.co = none) (hk : X.cs.kind = .function) (hx : X.cs.names.lookup x = some .local) (hs : swapsWith e (some (.Name x p')) pos.line (eX X) = pure false) : E1 w X σ (.Assign [.Name x p'] e pos) .next (σ'.put x v) := fun G s k Q E hq =>
 ar (h G s k _ _ fun b8 u a7 c0 k' hu b9 => cC (k'.put hu _ _ hco hk hx fun a8 i9 e7 => hq b8 _ _ c0 i9 rfl (b9.trans e7))) hs
def Te (w : World) (X : Cf) (σ : St) (e : Expr) (b : Bool) (σ' : St) : Prop := ∀ G s, Ok w X G σ s -> ∀ (Q : Bool -> Shared -> Prop) E, (∀ G' s', Le G G' -> Ok w X G' σ' s' -> j3 s s' -> Q b s') -> wpC (mdl w) (tp X) (isTrue e (eX X) (eval e (eX X))) Q E s
theorem E1.ite {e : Expr} {b1 b2 : List Stmt} {b : Bool} {fl : Fl} {pos : Pos} (h : Te w X σ e b σ') (h1 : b = true -> Ex w X σ' b1 fl σ'') (h2 : b = false -> Ex w X σ' b2 fl σ'') : E1 w X σ (.If e b1 b2 pos) fl σ'' := fun G s k Q E hq => by
 refine cIf (h G s k _ _ fun b8 a7 c0 k' b9 => ?_)
 cases b with
 | true =>
  rw [if_pos rfl]
  exact h1 rfl _ _ k' _ _ fun i6 f a8 f6 i9 hf e7 => hq i6 _ _ (c0.trans f6) i9 hf (b9.trans e7)
 | false =>
  rw [if_neg (by decide)]
  exact h2 rfl _ _ k' _ _ fun i6 f a8 f6 i9 hf e7 => hq i6 _ _ (c0.trans f6) i9 hf (b9.trans e7)
theorem Ev.ife {t a b : Expr} {c : Bool} {v : V} {pos : Pos} (h : Te w X σ t c σ') (h1 : c = true -> Ev w X σ' a v σ'') (h2 : c = false -> Ev w X σ' b v σ'') : Ev w X σ (.IfExp t a b pos) v σ'' := fun G s k Q E hq => by
 refine zT (h G s k _ _ fun b8 a7 c0 k' b9 => ?_)
 cases c with
 | true =>
  rw [if_pos rfl]
  exact h1 rfl _ _ k' _ _ fun i6 f a8 f6 i9 hf e7 => hq i6 _ _ (c0.trans f6) i9 hf (b9.trans e7)
 | false =>
  rw [if_neg (by decide)]
  exact h2 rfl _ _ k' _ _ fun i6 f a8 f6 i9 hf e7 => hq i6 _ _ (c0.trans f6) i9 hf (b9.trans e7)
theorem Ag {P : Params} {us : List Value} : ∀ {xs : List Str} {vs : List V}, d9 (RV P G) vs us -> d9 (fun (a : Str × V) (b : Str × Value) => a.1 = b.1 ∧ RV P G a.2 b.2) (List.zip xs vs) (List.zip xs us)
 | [], _, _ => by simp; exact .nil
 | _ :: _, _, .nil => by simp; exact .nil
 | x :: xs, _, .cons h hs => .cons ⟨rfl, h⟩ (Ag hs)
def Cf.inner (X : Cf) (cn : Str) (cs : Scope) (a : Addr) (ccd : Value) (h₀ : Heap) (L : Addr) : Cf :=
 { X with dp := X.dp + 1, un := X.un + 3, cn := cn, cs := cs, a := a, ccd := ccd, cl := [], cf := [], co := none, outer := envX X.cn X.cs X.L X.a X.ccd X.cl :: X.outer, A₀ := tp X, h₀ := h₀, L := L }
def Rm (X : Cf) (k : Nat) : Prop := X.dp + k < 900 ∧ X.un + 3 * k < 9000 ∧ X.gd = some []
theorem Rm.less {X : Cf} {k k' : Nat} (h : Rm X k) (e : k' ≤ k) : Rm X k' := ⟨by have := h.1; lia, by have := h.2.1; lia, h.2.2⟩
theorem Rm.inner {X : Cf} {k : Nat} {cn cs a ccd h₀ L} (h : Rm X (k + 1)) : Rm (X.inner cn cs a ccd h₀ L) k := ⟨by have := h.1; show X.dp + 1 + k < 900; lia, by have := h.2.1; show X.un + 3 + 3 * k < 9000; lia, h.2.2⟩
def Cl (w : World) (k : Nat) (f : Value) (H : List O) (vs : List V) (v : V) (H' : List O) : Prop := ∀ (X : Cf) (fr : List (Str × V)) G s us, Rm X k -> Ok w X G ⟨fr, H⟩ s -> d9 (RV w.params G) vs us -> Gv w X G s (call f us) v ⟨fr, H'⟩
def Cc (w : World) (k : Nat) (f : Value) (H : List O) (vs : List V) (v : V) (H' : List O) : Prop := ∀ (X : Cf) (fr : List (Str × V)) G s us, Rm X k -> Ok w X G ⟨fr, H⟩ s -> d9 (RV w.params G) vs us -> ∀ R, (∀ G' u s', Le G G' -> Ok w X G' ⟨fr, H'⟩ s' -> RV w.params G' v u -> j3 s s' -> R (.ok (.ret u)) s') -> l5 (mdl w) (tp X) (.call f ⟨us, []⟩) R s
theorem Cc.cl {k : Nat} {f : Value} {H H' : List O} {vs : List V} {v : V} (h : Cc w k f H vs v H') : Cl w k f H vs v H' := fun X fr G s us hd ho hus Q E hq => H7 (h X fr G s us hd ho hus _ hq)
end
noncomputable def iS : V -> Option (List V)
 | .lst xs => some xs
 | _ => none
def deL (hp : List O) (v : V) : Option (List V) := match iS v with
 | some xs => some xs
 | none => (I7 v).bind fun l => hp[l]?.bind nj
theorem iR {v : V} {xs : List V} (h : iS v = some xs) : v = .lst xs := okG.at (P := fun xs => v = .lst xs) (by cases v <;> first | exact True.intro | exact Eq.refl _) h
theorem zJ {hp : List O} {v : V} {xs : List V} {P : Prop} (h : deL hp v = some xs) (k : v = .lst xs -> P) (k' : ∀ l, v = .ref l -> hp[l]? = some (.list xs) -> P) : P := by
 unfold deL at h
 cases q : iS v with
 | some ys => rw [q] at h; exact k (Option.some.inj h ▸ iR q)
 | none => rw [q] at h; exact e9 h fun l e h => e9 h fun o e1 e2 => k' l (cV e) (cW e2 ▸ e1)
section
variable {w : World} {X : Cf} {G : Gam} {σ σ' σ'' : St} {s : Shared}
theorem Ok.at {l : Nat} {o : O} (h : Ok w X G σ s) (e : σ.hp[l]? = some o) : ∃ a ob, G.ρ[l]? = some a ∧ s.heap.get? a = some ob ∧ RO w.params G o ob := by
 obtain ⟨m, obs, C, h1, h2, h3, hf, hc⟩ := h
 obtain ⟨ob, e1, r⟩ := h3.get e
 have hl : l < G.ρ.length := by rw [h1]; exact (List.getElem?_eq_some_iff.mp e1).1
 refine ⟨G.ρ[l], ob, List.getElem?_eq_getElem hl, ?_, r⟩
 refine (C.N (G.ρ[l], ob) (aL (List.mem_iff_getElem?.mpr ⟨l, ?_⟩))).1
 rw [List.getElem?_zip_eq_some]
 exact ⟨List.getElem?_eq_getElem hl, e1⟩
inductive JE (w : World) (G : Gam) (s : Shared) (xs : List V) (u : Value) : Prop
 | mk (a : Addr) (us : List Value) (n : Nat) (e : u = .ref a) (g : s.heap.get? a = some (listOf us.toArray n)) (r : d9 (RV w.params G) xs us) (z : xs.length ≤ big)
inductive JD (w : World) (G : Gam) (s : Shared) (xs : List V) (u : Value) : Prop
 | mk (a : Addr) (us : List Value) (n : Nat) (e : u = .ref a) (g : s.heap.get? a = some (C9 us n)) (r : d9 (RV w.params G) xs us) (z : xs.length ≤ big)
theorem nE {hp : List O} {l : Nat} {xs : List V} (h : hp[l]? = some (.list xs)) : deL hp (.ref l) = some xs := by
 show (hp[l]?.bind nj) = _
 rw [h]; rfl
theorem Ok.listAt (h : Ok w X G σ s) {v : V} {xs : List V} {u : Value} (e : deL σ.hp v = some xs) (hv : RV w.params G v u) : JE w G s xs u := by
 refine zJ e (fun e => ?_) fun l e q => ?_
 · rw [e] at hv
   obtain ⟨a, us, n, h1, h2, h3, h4⟩ := hv
   exact ⟨a, us, n, h1, h.hasAt h2, h3.all, h4⟩
 · rw [e] at hv
   obtain ⟨a, h1, h2⟩ := hv
   obtain ⟨a', ob, h3, h4, us, n, e', h5, h6⟩ := h.at q
   have e2 := Option.some.inj (h1.symm.trans h3)
   exact ⟨a', us, n, e2 ▸ h2, e' ▸ h4, h5, h6⟩
theorem Ok.tupAt (h : Ok w X G σ s) {xs : List V} {u : Value} (hv : RV w.params G (.tup xs) u) : JD w G s xs u := by
 obtain ⟨a, us, n, h1, h2, h3, h4⟩ := hv
 exact ⟨a, us, n, h1, h.hasAt h2, h3.all, h4⟩
theorem isL {h : Heap} {a : Addr} {us : List Value} {n : Nat} (e : h.get? a = some (listOf us.toArray n)) : h.IsList a us.toArray := ⟨_, e, rfl, n, rfl⟩
theorem isT {h : Heap} {a : Addr} {us : List Value} {n : Nat} (e : h.get? a = some (C9 us n)) : IsTup h a us.toArray := ⟨_, e, rfl, n, rfl⟩
abbrev Gp (w : World) (X : Cf) (G : Gam) (σ : St) (s : Shared) (t : Sem Value) (v : V) : Prop :=
 ∀ Q E, (∀ G' u s', Le G G' -> Ok w X G' σ s' -> RV w.params G' v u -> j3 s s' -> Q u s') -> wpAny (mdl w) (tp X) t Q E s
theorem Gp.gv {t : Sem Value} {v : V} (h : Gp w X G σ s t v) : Gv w X G s t v σ := fun Q E hq => cC (h Q E hq)
theorem Gp.now {t : Sem Value} {v : V} (h : Ok w X G σ s) (k : ∀ Q E, (∀ u h' tk, h' = s.heap -> RV w.params G v u -> Q u { s with heap := h', toks := tk }) -> wpAny (mdl w) (tp X) t Q E s) : Gp w X G σ s t v := fun Q E hq =>
 k Q E fun u h' tk e hv => by subst e; exact hq G u _ (.refl G) h hv ⟨rfl, rfl, rfl⟩
theorem Ev.bin {op : Operator} {l r : Expr} {a b c : V} {pos : Pos} (hl : Ev w X σ l a σ') (hr : Ev w X σ' r b σ'')
 (hT : ∀ G s u v, Ok w X G σ'' s -> RV w.params G a u -> RV w.params G b v -> Gp w X G σ'' s (binaryOp op u v) c) : Ev w X σ (.BinOp l op r pos) c σ'' := fun G s h Q E hq =>
 zU (Ev.two hl hr h fun G' u v s' l' h' hu hv e => (hT G' s' u v h' hu hv).gv Q E fun i6 r a8 f6 k hr e7 => hq i6 r a8 (l'.trans f6) k hr (e.trans e7))
noncomputable def nq : V -> Option Nat
 | .byt n => some n
 | _ => none
theorem cY {v : V} {n : Nat} (h : nq v = some n) : v = .byt n := okG.at (P := fun n => v = .byt n) (by cases v <;> first | exact True.intro | exact Eq.refl _) h
noncomputable def bo : Operator -> Bool
 | .Add => true
 | _ => false
theorem dP {v : Operator} (h : bo v = true) : v = .Add := by
 have k : bif bo v then v = .Add else True := by cases v <;> first | exact True.intro | exact Eq.refl _
 rw [h] at k; exact k
theorem cnd {α : Type} {c : Bool} {a : Option α} {b : α} {P : Prop} (h : (bif c then a else none) = some b) (k : c = true -> a = some b -> P) : P := by
 cases c
 · cases h
 · exact k rfl h
theorem zK {α : Type} {c : Bool} {a : Option α} {b : α} {P : Prop} (h : (bif c then none else a) = some b) (k : c = false -> a = some b -> P) : P := by
 cases c
 · exact k rfl h
 · cases h
noncomputable def nU (op : Operator) (a b : Int) : Option Int := match op with
 | .Add => some (a + b)
 | .Sub => some (a - b)
 | .Mult => bif Nat.ble (Builtin.Int.intBits a) 64 then some (a * b) else none
 | .FloorDiv => bif b == 0 then none else bif Builtin.divisionGoesByPylong a b then none else some (a.fdiv b)
 | .Mod => bif b == 0 then none else some (a.fmod b)
 | .Pow => bif b == 0 then some 1 else bif decide (b > 0) && !(a == 0 || a == 1) && !(a == -1) && !Builtin.Int.intTooBig (((Builtin.Int.intBits a : Nat) : Int) * b) then some (a ^ b.toNat) else none
 | .LShift => bif decide (0 ≤ b) && decide (b ≤ 1000) && Nat.ble (Builtin.Int.intBits a) 1000 then some (a * 2 ^ b.toNat) else none
 | .RShift => bif decide (0 ≤ b) then some (a.fdiv (2 ^ b.toNat)) else none
 | .BitOr => some (Builtin.bitOr a b)
 | _ => none
def Ae (hp : List O) (a b : V) : Option (V × List Prop) := match nq a with
 | some x => (nq b).map fun y => (.byt (x + y), [x + y ≤ big])
 | none => match F1 a with
  | some xs => (F1 b).map fun ys => (.tup (xs ++ ys), [xs.length + ys.length ≤ big])
  | none => (deL hp a).bind fun xs => (deL hp b).map fun ys => (.lst (xs ++ ys), [xs.length + ys.length ≤ big])
def R3 (hp : List O) (op : Operator) (a b : V) : Option (V × List Prop) := match (j5 a).bind fun x => (j5 b).bind fun y => nU op x y with
 | some c => some (.int c, [])
 | none => bif bo op then Ae hp a b else none
theorem d9.nil_r {α β : Type} {R : α -> β -> Prop} {as : List α} (h : d9 R as []) : as = [] := by cases h; rfl
theorem eH {op : Operator} {a b c : Int} (h : Ok w X G σ s) {u v : Value} (hu : RV w.params G (.int a) u) (hv : RV w.params G (.int b) v)
 (k : ∀ t t' (Q : VP) E, (∀ t' tk, Q (.int c t') { s with toks := tk }) -> wpAny (mdl w) (tp X) (binaryOp op (.int a t) (.int b t')) Q E s) : Gp w X G σ s (binaryOp op u v) (.int c) := by
 obtain ⟨t, rfl⟩ := hu
 obtain ⟨t', rfl⟩ := hv
 exact Gp.now h fun Q E hq => k t t' Q E fun t' tk => hq _ _ tk rfl ⟨_, rfl⟩
theorem nT {op : Operator} {x y z : Int} (e : nU op x y = some z) (h : Ok w X G σ s) {u v : Value} (hu : RV w.params G (.int x) u) (hv : RV w.params G (.int y) v) : Gp w X G σ s (binaryOp op u v) (.int z) := by
 have k : ∀ {z' : Int}, some z' = some z -> (∀ t t' (Q : VP) E, (∀ t' tk, Q (.int z' t') { s with toks := tk }) -> wpAny (mdl w) (tp X) (binaryOp op (.int x t) (.int y t')) Q E s) -> Gp w X G σ s (binaryOp op u v) (.int z) := fun e k => Option.some.inj e ▸ eH h hu hv k
 refine okG.at (P := fun z' => z' = z -> Gp w X G σ s (binaryOp op u v) (.int z)) ?_ e rfl
 cases op with
 | Add => exact fun e => k (congrArg some e) fun _ _ Q E q => add_int (q _ _)
 | Sub => exact fun e => k (congrArg some e) fun _ _ Q E q => sub_int (q _ _)
 | Mult => exact okI fun z' e ez => cnd e fun hc e => k (e.trans (congrArg some ez)) fun _ _ Q E q => P.mul_int (q _ _) (IntMulOk.of_left (bL hc))
 | FloorDiv =>
  refine okI fun z' e ez => zK e fun hc e => zK e fun hd e => k (e.trans (congrArg some ez)) fun _ _ Q E q => ?_
  exact AutoIntOps.floordiv_1 (by rw [hc]; decide) (by rw [hd]; decide) (q _ _)
 | Mod =>
  refine okI fun z' e ez => zK e fun hc e => k (e.trans (congrArg some ez)) fun _ _ Q E q => ?_
  exact mod_int (beq_eq_false_iff_ne.mp hc) (q _ _)
 | Pow =>
  refine okI fun z' e ez => ?_
  cases h0 : (y == 0) with
  | true =>
   have e : (bif y == 0 then some 1 else _) = some z' := e
   rw [h0] at e
   refine k (e.trans (congrArg some ez)) fun _ _ Q E q => ?_
   exact AutoIntOps.pow_0 (by have := beq_iff_eq.mp h0; lia) h0 (q _ _)
  | false =>
   have e : (bif y == 0 then some 1 else _) = some z' := e
   rw [h0] at e
   refine cnd e fun hc e => k (e.trans (congrArg some ez)) fun _ _ Q E q => ?_
   have hc := i0 hc
   have c4 := hc.2
   have hc := i0 hc.1
   have c3 := hc.2
   have hc := i0 hc.1
   have c1 := dO hc.1
   have c2 := hc.2
   rw [Bool.not_eq_true'] at c2 c3 c4
   exact AutoIntOps.pow_4 (by lia) (by simp; lia) (by rw [c2]; decide) (by rw [c3]; decide) (by rw [c4]; decide) (q _ _)
 | LShift =>
  refine okI fun z' e ez => cnd e fun hc e => k (e.trans (congrArg some ez)) fun _ _ Q E q => ?_
  have hc := i0 hc
  have c3 := bL hc.2
  have hc := i0 hc.1
  have c2 := dO hc.2
  exact lshift_int (dO hc.1) (by lia) (q _ _)
 | RShift =>
  refine okI fun z' e ez => cnd e fun hc e => k (e.trans (congrArg some ez)) fun _ _ Q E q => ?_
  exact rshift_int (dO hc) (q _ _)
 | BitOr => exact fun e => k (congrArg some e) fun _ _ Q E q => or_int (q _ _)
 | _ => exact True.intro
theorem oq {a b : Nat} (hz : a + b ≤ big) (h : Ok w X G σ s) {u v : Value} (hu : RV w.params G (.byt a) u) (hv : RV w.params G (.byt b) v) : Gp w X G σ s (binaryOp .Add u v) (.byt (a + b)) := by
 obtain ⟨b1, k1, rfl, hs1, hz1⟩ := hu
 obtain ⟨b2, k2, rfl, hs2, hz2⟩ := hv
 have hz' : b1.size + b2.size ≤ 100000 := by rw [hs1, hs2]; exact hz
 exact Gp.now h fun Q E hq => KBy.add_bytes (by lia) fun t' k => hq _ _ k rfl ⟨_, _, rfl, by rw [Array.size_append, hs1, hs2], hz⟩
theorem om {xs ys : List V} (hz : xs.length + ys.length ≤ big) (h : Ok w X G σ s) {u v : Value} (hu : RV w.params G (.tup xs) u) (hv : RV w.params G (.tup ys) v) : Gp w X G σ s (binaryOp .Add u v) (.tup (xs ++ ys)) := by
 obtain ⟨a1, us1, n1, rfl, g1, r1, z1⟩ := h.tupAt hu
 obtain ⟨a2, us2, n2, rfl, g2, r2, z2⟩ := h.tupAt hv
 intro Q E hq
 by_cases e1 : us1 = []
 · subst e1
   obtain rfl := r1.nil_r
   obtain ⟨m, obs, C, -⟩ := id h
   exact add_tuples C.F C.N (isT g1) (isT g2) (fun _ => hq G _ _ (.refl G) h hv (.refl s)) (fun q => absurd rfl q) (fun q => absurd rfl q) (by simp only [List.length_nil]; rw [← r2.len, sizeLine_eq]; have z2 : ys.length ≤ 100000 := z2; lia)
 · by_cases e2 : us2 = []
   · subst e2
     obtain rfl := r2.nil_r
     obtain ⟨m, obs, C, -⟩ := id h
     exact add_tuples C.F C.N (isT g1) (isT g2) (fun q => absurd q e1) (fun _ _ => hq G _ _ (.refl G) h (by rw [List.append_nil]; exact hu) (.refl s)) (fun _ q => absurd rfl q) (by simp only [List.length_nil]; rw [← r1.len, sizeLine_eq]; have z1 : xs.length ≤ 100000 := z1; lia)
   · refine h.newI (tk := s.toks) (ob := C9 (us1 ++ us2) 0) (Nat.le_refl _) (Value.ref s.heap.objs.size) Q E (fun s' k' e7 => hq _ _ _ (Gam.le_imm ..) k' (Ok.newT G (r1.app r2) (by rw [List.length_append]; exact hz)) e7) fun m news F N hk => ?_
     exact add_tuples F N (isT g1) (isT g2) (fun q => absurd q e1) (fun _ q => absurd q e2) (fun _ _ h' F' N' => hk h' F' N') (by rw [← r1.len, ← r2.len, sizeLine_eq]; have hz : xs.length + ys.length ≤ 100000 := hz; lia)
theorem oo {a b : V} {xs ys : List V} (ea : deL σ.hp a = some xs) (eb : deL σ.hp b = some ys) (hz : xs.length + ys.length ≤ big) (h : Ok w X G σ s) {u v : Value} (hu : RV w.params G a u) (hv : RV w.params G b v) : Gp w X G σ s (binaryOp .Add u v) (.lst (xs ++ ys)) := by
 obtain ⟨a1, us1, n1, rfl, g1, r1, z1⟩ := h.listAt ea hu
 obtain ⟨a2, us2, n2, rfl, g2, r2, z2⟩ := h.listAt eb hv
 intro Q E hq
 refine h.newI (tk := s.toks) (ob := listOf (us1 ++ us2).toArray 0) (Nat.le_refl _) (Value.ref s.heap.objs.size) Q E (fun s' k' e7 => hq _ _ _ (Gam.le_imm ..) k' (Ok.newL G (r1.app r2) (by rw [List.length_append]; exact hz)) e7) fun m news F N hk => ?_
 exact add_arrays F N (isL g1) (isL g2) (fun h' F' N' => hk h' F' N') (by rw [List.size_toArray, List.size_toArray, ← r1.len, ← r2.len, sizeLine_eq]; have hz : xs.length + ys.length ≤ 100000 := hz; lia)
theorem sE0 {α : Type} {a v : α} {S S' : List Prop} {P : α -> List Prop -> Prop} (h : some (a, S) = some (v, S')) (k : P a S) : P v S' := by cases h; exact k
theorem ot {a b c : V} {ps : List Prop} (e : Ae σ.hp a b = some (c, ps)) (hp : ∀ p ∈ ps, p) (h : Ok w X G σ s) {u v : Value} (hu : RV w.params G a u) (hv : RV w.params G b v) : Gp w X G σ s (binaryOp .Add u v) c := by
 unfold Ae at e
 cases q : nq a with
 | some x =>
  rw [q] at e
  rw [cY q] at hu
  refine mpE e fun y hy e => sE0 (P := fun c ps => (∀ p ∈ ps, p) -> Gp w X G σ s (binaryOp .Add u v) c) (congrArg some e) (fun hp => ?_) hp
  rw [cY hy] at hv
  exact oq (hp _ (.head _)) h hu hv
 | none =>
  rw [q] at e
  cases q : F1 a with
  | some xs =>
   dsimp only at e
   rw [q] at e
   rw [q8 q] at hu
   refine mpE e fun y hy e => sE0 (P := fun c ps => (∀ p ∈ ps, p) -> Gp w X G σ s (binaryOp .Add u v) c) (congrArg some e) (fun hp => ?_) hp
   rw [q8 hy] at hv
   exact om (hp _ (.head _)) h hu hv
  | none =>
   dsimp only at e
   rw [q] at e
   exact e9 e fun xs ea e => mpE e fun y hy e => sE0 (P := fun c ps => (∀ p ∈ ps, p) -> Gp w X G σ s (binaryOp .Add u v) c) (congrArg some e) (fun hp => oo ea hy (hp _ (.head _)) h hu hv) hp
theorem ay {op : Operator} {a b c : V} {ps : List Prop} (e : R3 σ.hp op a b = some (c, ps)) (hp : ∀ p ∈ ps, p) (h : Ok w X G σ s) {u v : Value} (hu : RV w.params G a u) (hv : RV w.params G b v) : Gp w X G σ s (binaryOp op u v) c := by
 unfold R3 at e
 cases q : (j5 a).bind fun x => (j5 b).bind fun y => nU op x y with
 | some z =>
  rw [q] at e
  refine e9 q fun x h1 q => e9 q fun y h2 q => ?_
  rw [g9 h1] at hu
  rw [g9 h2] at hv
  exact sE0 (P := fun c _ => Gp w X G σ s (binaryOp op u v) c) e (nT q h hu hv)
 | none =>
  rw [q] at e
  refine i5 e fun g e => ?_
  rw [dP g]
  exact ot e hp h hu hv
end
noncomputable def e8 {α : Type} : List (Option α) -> Option (List α)
 | [] => some []
 | none :: _ => none
 | some a :: l => match e8 l with
  | some bs => some (a :: bs)
  | none => none
noncomputable def lO (r : Option (List Bool)) (c : Bool) : Option Bool := match r with
 | some bs => some (bs.all id && c)
 | none => none
noncomputable def eP (r : Option (List Bool)) : Option Bool := match r with
 | some bs => some (bs.all id)
 | none => none
def pG (f : V -> V -> Option Bool) (a b : V) : Option Bool := match a with
 | .none => (match b with | .none => some true | .int _ => some false | .tup _ => some false | _ => none)
 | .int a => (match b with | .none => some false | .int b => some (a == b) | _ => none)
 | .bool a => (match b with | .bool b => some (a == b) | _ => none)
 | .str a => (match b with | .str b => some (a == b) | _ => none)
 | .tup xs => (match b with | .none => some false | .tup ys => lO (e8 (List.zipWith f xs ys)) (Nat.beq xs.length ys.length) | _ => none)
 | .lst xs => (match b with | .lst ys => bif Nat.beq xs.length ys.length then eP (e8 (List.zipWith f xs ys)) else some false | _ => none)
 | _ => none
def veq : Nat -> V -> V -> Option Bool
 | 0 => fun _ _ => none
 | n + 1 => pG (veq n)
theorem P5 {r : Option (List Bool)} {c : Bool} (e : eP r = some c) : ∃ bs, r = some bs ∧ bs.all id = c := by
 cases r with
 | none => cases e
 | some bs => exact ⟨bs, rfl, Option.some.inj e⟩
theorem P4 {r : Option (List Bool)} {c d : Bool} (e : lO r c = some d) : ∃ bs, r = some bs ∧ (bs.all id && c) = d := by
 cases r with
 | none => cases e
 | some bs => exact ⟨bs, rfl, Option.some.inj e⟩
theorem yF (a b : Nat) : (a == b) = Nat.beq a b := by
 cases h : Nat.beq a b with
 | true => rw [Nat.eq_of_beq_eq_true h]; exact beq_self_eq_true b
 | false => exact nB (Nat.ne_of_beq_eq_false h)
theorem L2 {α : Type} : ∀ {l : List (Option α)} {bs : List α}, e8 l = some bs -> l = bs.map some
 | [], bs, h => by cases h; rfl
 | none :: l, bs, h => by cases h
 | some a :: l, bs, h => by
  unfold e8 at h
  cases hm : e8 l with
  | none => rw [hm] at h; cases h
  | some cs => rw [hm] at h; cases h; rw [L2 hm]; rfl
section
variable {w : World} {X : Cf} {G : Gam} {σ σ' σ'' : St} {s : Shared}
theorem aI {bs : List Bool} : (List.range bs.length).all (fun j => bs.getD j true) = bs.all id := by
 rw [Bool.eq_iff_iff, List.all_eq_true, List.all_eq_true]
 constructor
 · intro h x hx
   obtain ⟨i, hi, rfl⟩ := List.mem_iff_getElem.mp hx
   have := h i (List.mem_range.mpr hi)
   simpa [hi] using this
 · intro h i hi
   have hi := List.mem_range.mp hi
   have := h bs[i] (List.getElem_mem hi)
   simpa [hi] using this
theorem dh {n : Nat} {xs ys : List V} {us vs : List Value} {bs : List Bool} (A : Around) (h1 : d9 (RV w.params G) xs us) (h2 : d9 (RV w.params G) ys vs) (e : e8 (List.zipWith (veq n) xs ys) = some bs)
 (ih : ∀ x y b u v, veq n x y = some b -> RV w.params G x u -> RV w.params G y v -> SeqAt.EqAt A s u v b) :
 bs.length = min us.length vs.length ∧ ∀ j (k1 : j < us.toArray.size) (k2 : j < vs.toArray.size), SeqAt.EqAt A s us.toArray[j] vs.toArray[j] (bs.getD j true) := by
 have e' := L2 e
 have hl : bs.length = min us.length vs.length := by
  have := congrArg List.length e'
  rw [List.length_zipWith, List.length_map, h1.len, h2.len] at this
  exact this.symm
 refine ⟨hl, fun j k1 k2 => ?_⟩
 rw [List.size_toArray] at k1 k2
 have hj : j < bs.length := by rw [hl]; lia
 have x1 : j < xs.length := by rw [h1.len]; exact k1
 have y1 : j < ys.length := by rw [h2.len]; exact k2
 obtain ⟨u, hu, ru⟩ := h1.get (List.getElem?_eq_getElem x1)
 obtain ⟨v, hv, rv⟩ := h2.get (List.getElem?_eq_getElem y1)
 have q : veq n xs[j] ys[j] = some bs[j] := by
  have := congrArg (fun l => l[j]?) e'
  simp only [List.getElem?_map, List.getElem?_eq_getElem hj, Option.map_some] at this
  rw [List.getElem?_zipWith, List.getElem?_eq_getElem x1, List.getElem?_eq_getElem y1] at this
  simpa using this
 have := ih _ _ _ _ _ q ru rv
 rw [List.getElem?_eq_getElem k1] at hu
 rw [List.getElem?_eq_getElem k2] at hv
 cases hu; cases hv
 simpa [hj] using this
theorem Y8 {n : Nat} {A : Around} {xs ys : List V} {us vs : List Value} {a b : Addr} {c : Bool} (hu : A.units < cLine) (g1 : s.heap.IsList a us.toArray) (g2 : s.heap.IsList b vs.toArray) (h1 : d9 (RV w.params G) xs us) (h2 : d9 (RV w.params G) ys vs)
 (e : (bif Nat.beq xs.length ys.length then eP (e8 (List.zipWith (veq n) xs ys)) else some false) = some c)
 (ih : ∀ x y b u v, veq n x y = some b -> RV w.params G x u -> RV w.params G y v -> SeqAt.EqAt A.in1 s u v b) :
 SeqAt.RcAt A s (.ref a) (.ref b) c ∧ SeqAt.RcNeAt A s (.ref a) (.ref b) (!c) := by
 cases hl : Nat.beq xs.length ys.length with
 | false =>
  rw [hl] at e; cases e
  have hz : (us.toArray.size != vs.toArray.size) = true := by
   have := Nat.ne_of_beq_eq_false hl
   rw [List.size_toArray, List.size_toArray, ← h1.len, ← h2.len]
   simpa using this
  exact ⟨SeqAt.RcAt.lists_lengths g1 g2 hz hu, SeqAt.RcNeAt.lists_lengths g1 g2 hz hu⟩
 | true =>
  rw [hl] at e
  have hl := Nat.eq_of_beq_eq_true hl
  obtain ⟨bs, q, rfl⟩ := P5 e
  · obtain ⟨e1, e2⟩ := dh A.in1 h1 h2 q ih
    have hz : us.toArray.size = vs.toArray.size := by rw [List.size_toArray, List.size_toArray, ← h1.len, ← h2.len, hl]
    have hb : us.toArray.size = bs.length := by
     rw [e1]; rw [List.size_toArray, List.size_toArray] at hz; rw [List.size_toArray]; lia
    have z1 := SeqAt.RcAt.lists g1 g2 hz hu e2
    have z2 := SeqAt.RcNeAt.lists g1 g2 hz hu e2
    rw [hb, aI] at z1 z2
    exact ⟨z1, z2⟩
theorem P7 {n : Nat} {A : Around} {xs ys : List V} {us vs : List Value} {a b : Addr} {c : Bool} (hu : A.units < cLine) (g1 : s.heap.IsTuple a us.toArray) (g2 : s.heap.IsTuple b vs.toArray) (h1 : d9 (RV w.params G) xs us) (h2 : d9 (RV w.params G) ys vs)
 (e : lO (e8 (List.zipWith (veq n) xs ys)) (Nat.beq xs.length ys.length) = some c)
 (ih : ∀ x y b u v, veq n x y = some b -> RV w.params G x u -> RV w.params G y v -> SeqAt.EqAt A.in1 s u v b) :
 SeqAt.RcAt A s (.ref a) (.ref b) c ∧ SeqAt.RcNeAt A s (.ref a) (.ref b) (!c) := by
 obtain ⟨bs, q, rfl⟩ := P4 e
 · obtain ⟨e1, e2⟩ := dh A.in1 h1 h2 q ih
   have z1 := SeqAt.RcAt.tuples g1 g2 hu e2
   have z2 := SeqAt.RcNeAt.tuples g1 g2 hu e2
   have hb : min us.toArray.size vs.toArray.size = bs.length := by rw [e1, List.size_toArray, List.size_toArray]
   have hc : (us.toArray.size == vs.toArray.size) = Nat.beq xs.length ys.length := by rw [List.size_toArray, List.size_toArray, ← h1.len, ← h2.len]; exact yF _ _
   rw [hb, aI, hc] at z1 z2
   exact ⟨z1, z2⟩
theorem O9 {h : Heap} {a : Addr} {us : List Value} {n : Nat} (e : h.get? a = some (C9 us n)) : h.IsTuple a us.toArray := ⟨_, e, rfl, n, rfl⟩
theorem K5 {n : Nat} {xs ys : List V} {us : List Value} {bs : List Bool} (h1 : d9 (RV w.params G) xs us) (h2 : d9 (RV w.params G) ys us) (e : e8 (List.zipWith (veq n) xs ys) = some bs)
 (ih : ∀ x y b u, veq n x y = some b -> RV w.params G x u -> RV w.params G y u -> b = true) : bs.all id = true := by
 have e' := L2 e
 rw [List.all_eq_true]
 intro b hb
 obtain ⟨j, hj, rfl⟩ := List.mem_iff_getElem.mp hb
 have hl := congrArg List.length e'
 rw [List.length_zipWith, List.length_map, h1.len, h2.len, Nat.min_self] at hl
 have x1 : j < xs.length := by rw [h1.len, hl]; exact hj
 have y1 : j < ys.length := by rw [h2.len, hl]; exact hj
 obtain ⟨u, hu, ru⟩ := h1.get (List.getElem?_eq_getElem x1)
 obtain ⟨v, hv, rv⟩ := h2.get (List.getElem?_eq_getElem y1)
 rw [hu] at hv; cases hv
 have q : veq n xs[j] ys[j] = some bs[j] := by
  have := congrArg (fun l => l[j]?) e'
  simp only [List.getElem?_map, List.getElem?_eq_getElem hj, Option.map_some] at this
  rw [List.getElem?_zipWith, List.getElem?_eq_getElem x1, List.getElem?_eq_getElem y1] at this
  simpa using this
 exact ih _ _ _ _ q ru rv
theorem X6 (h : Ok w X G σ s) : ∀ (n : Nat) (x y : V) (b : Bool) (u : Value), veq n x y = some b -> RV w.params G x u -> RV w.params G y u -> b = true := by
 intro n
 induction n with
 | zero => intro x y b u e; cases e
 | succ n ih =>
  intro x y b u e
  refine okG.at (P := fun b => RV w.params G x u -> RV w.params G y u -> b = true) ?_ (show pG (veq n) x y = some b from e)
  clear e
  cases x with
  | none =>
   cases y with
   | none => exact fun _ _ => rfl
   | int _ => exact fun hu hv => hv.elim fun _ q => nomatch (show u = .none from hu).symm.trans q
   | tup _ => exact fun hu hv => hv.elim fun _ q => q.elim fun _ q => q.elim fun _ q => nomatch (show u = .none from hu).symm.trans q.1
   | _ => exact True.intro
  | int a =>
   cases y with
   | none => exact fun hv hu => hv.elim fun _ q => nomatch (show u = .none from hu).symm.trans q
   | int _ => exact fun hu hv => by obtain ⟨_, rfl⟩ := hu; obtain ⟨_, q⟩ := hv; cases q; exact beq_self_eq_true _
   | _ => exact True.intro
  | bool a =>
   cases y with
   | bool _ => exact fun hu hv => by cases hu; cases hv; exact beq_self_eq_true _
   | _ => exact True.intro
  | str a =>
   cases y with
   | str _ => exact fun hu hv => by obtain ⟨_, rfl⟩ := hu; obtain ⟨_, q⟩ := hv; cases q; exact beq_self_eq_true _
   | _ => exact True.intro
  | tup xs =>
   cases y with
   | none => exact fun hv hu => hv.elim fun _ q => q.elim fun _ q => q.elim fun _ q => nomatch (show u = .none from hu).symm.trans q.1
   | tup ys =>
    refine okI fun b e hu hv => ?_
    obtain ⟨a1, us, k1, rfl, g1, r1, z1⟩ := h.tupAt hu
    obtain ⟨a2, vs, k2, q, g2, r2, z2⟩ := h.tupAt hv
    cases q
    rw [g1] at g2; cases g2
    obtain ⟨bs, q, rfl⟩ := P4 e
    rw [K5 r1 r2 q ih, r1.len, r2.len, Nat.beq_refl]; rfl
   | _ => exact True.intro
  | lst xs =>
   cases y with
   | lst ys =>
    refine okI fun b e hu hv => ?_
    obtain ⟨a1, us, k1, rfl, g1, r1, z1⟩ := h.listAt (v := .lst _) rfl hu
    obtain ⟨a2, vs, k2, q, g2, r2, z2⟩ := h.listAt (v := .lst _) rfl hv
    cases q
    rw [g1] at g2; cases g2
    have e : (bif Nat.beq xs.length ys.length then eP (e8 (List.zipWith (veq n) xs ys)) else some false) = some b := e
    rw [r1.len, r2.len, Nat.beq_refl] at e
    obtain ⟨bs, q, rfl⟩ := P5 e
    exact K5 r1 r2 q ih
   | _ => exact True.intro
  | _ => exact True.intro
theorem Q5 {A : Around} {v : Value} {b : Bool} (e : b = true) : SeqAt.EqAt A s v v b := by subst e; exact SeqAt.EqAt.same _
theorem aP (h : Ok w X G σ s) : ∀ (n : Nat) (x y : V) (b : Bool) (A : Around) (u v : Value), veq n x y = some b -> A.units + n < cLine -> RV w.params G x u -> RV w.params G y v -> SeqAt.EqAt A s u v b := by
 intro n
 induction n with
 | zero => intro x y b A u v e; cases e
 | succ n ih0 =>
  intro x y b A u v e hA
  have ih := fun x y b u v q => ih0 x y b A.in1 u v q (by show A.units + 1 + n < cLine; omega)
  have hA' : A.units < cLine := by omega
  refine okG.at (P := fun b => RV w.params G x u -> RV w.params G y v -> SeqAt.EqAt A s u v b) ?_ (show pG (veq n) x y = some b from e)
  clear e
  cases x with
  | none =>
   cases y with
   | none => exact fun hu hv => by cases hu; cases hv; exact SeqAt.EqAt.same _
   | int _ => exact fun hu hv => by cases hu; obtain ⟨_, rfl⟩ := hv; exact SeqAt.EqAt.none_int _ _
   | tup _ => exact fun hu hv => by cases hu; obtain ⟨a, us, k, rfl, g, r, z⟩ := h.tupAt hv; exact SeqAt.EqAt.none_tuple (O9 g) hA'
   | _ => exact True.intro
  | int a =>
   cases y with
   | none => exact fun hu hv => by cases hv; obtain ⟨_, rfl⟩ := hu; exact SeqAt.EqAt.int_none _ _
   | int _ => exact fun hu hv => by obtain ⟨_, rfl⟩ := hu; obtain ⟨_, rfl⟩ := hv; exact SeqAt.EqAt.int_int _ _ _ _
   | _ => exact True.intro
  | bool a =>
   cases y with
   | bool _ => exact fun hu hv => by cases hu; cases hv; exact SeqAt.EqAt.bool_bool _ _
   | _ => exact True.intro
  | str a =>
   cases y with
   | str _ => exact fun hu hv => by obtain ⟨_, rfl⟩ := hu; obtain ⟨_, rfl⟩ := hv; exact SeqAt.EqAt.str_str _ _ _ _
   | _ => exact True.intro
  | tup xs =>
   cases y with
   | none => exact fun hu hv => by cases hv; obtain ⟨a, us, k, rfl, g, r, z⟩ := h.tupAt hu; exact SeqAt.EqAt.tuple_none (O9 g) hA'
   | tup ys =>
    refine okI fun b e hu hv => ?_
    obtain ⟨a1, us, k1, rfl, g1, r1, z1⟩ := h.tupAt hu
    obtain ⟨a2, vs, k2, rfl, g2, r2, z2⟩ := h.tupAt hv
    by_cases q : a1 = a2
    · subst q
      exact Q5 (X6 h (n + 1) (.tup xs) (.tup ys) b _ e hu hv)
    · exact SeqAt.EqAt.of_refs q (P7 (A := A) hA' (O9 g1) (O9 g2) r1 r2 e ih).1
   | _ => exact True.intro
  | lst xs =>
   cases y with
   | lst ys =>
    refine okI fun b e hu hv => ?_
    obtain ⟨a1, us, k1, rfl, g1, r1, z1⟩ := h.listAt (v := .lst _) rfl hu
    obtain ⟨a2, vs, k2, rfl, g2, r2, z2⟩ := h.listAt (v := .lst _) rfl hv
    by_cases q : a1 = a2
    · subst q
      exact Q5 (X6 h (n + 1) (.lst xs) (.lst ys) b _ e hu hv)
    · exact SeqAt.EqAt.of_refs q (Y8 (A := A) hA' (isL g1) (isL g2) r1 r2 e ih).1
   | _ => exact True.intro
  | _ => exact True.intro
end
def zO (a b : V) : Option Bool := match a with
 | .none => (match b with | .none => some true | .int _ => some false | _ => none)
 | .int a => (match b with | .none => some false | .int b => some (a == b) | _ => none)
 | .str a => (match b with | .str b => some (a == b) | _ => none)
 | .tup xs => (match b with | .tup ys => lO (e8 (List.zipWith (veq 8) xs ys)) (Nat.beq xs.length ys.length) | _ => none)
 | _ => none
def ceqL (xs ys : List V) : Option Bool := bif Nat.beq xs.length ys.length then eP (e8 (List.zipWith (veq 8) xs ys)) else some false
def ceq (hp : List O) (a b : V) : Option Bool := match deL hp a with
 | none => zO a b
 | some xs => (match deL hp b with | none => zO a b | some ys => ceqL xs ys)
def cI (a b : V) (f : Int -> Int -> Bool) : Option Bool := (j5 a).bind fun x => (j5 b).map fun y => f x y
theorem cIE {a b : V} {f : Int -> Int -> Bool} {c : Bool} {P : Prop} (h : cI a b f = some c) (k : ∀ x y, a = .int x -> b = .int y -> f x y = c -> P) : P := by
 obtain ⟨x, h1, h⟩ := bnd h
 obtain ⟨y, h2, h⟩ := mp h
 exact k x y (g9 h1) (g9 h2) h
noncomputable def V.isNone : V -> Option Bool
 | .none => some true
 | .val _ => Option.none
 | _ => some false
def isN (a b : V) : Option Bool := bif M0 b then a.isNone else none
def R0 (hp : List O) (op : CmpOp) (a b : V) : Option Bool :=
 match op with
 | .Lt => cI a b fun a b => decide (a < b)
 | .Gt => cI a b fun a b => decide (b < a)
 | .LtE => cI a b fun a b => decide (a ≤ b)
 | .GtE => cI a b fun a b => decide (a ≥ b)
 | .Is => isN a b
 | .IsNot => (isN a b).map fun c => !c
 | .Eq => ceq hp a b
 | .NotEq => (ceq hp a b).map fun c => !c
 | _ => none
section
variable {w : World} {X : Cf} {G : Gam} {σ σ' σ'' : St} {s : Shared}
theorem RV.notNone {P : Params} {a : V} {u : Value} {c : Bool} (h : RV P G a u) (e : a.isNone = some c) : (c = true ∧ u = .none) ∨ (c = false ∧ plainIs u .none = true ∧ u ≠ .none) := by
 have k : ∀ {z : Value}, u = z -> c = false -> plainIs z .none = true -> z ≠ .none -> (c = true ∧ u = .none) ∨ (c = false ∧ plainIs u .none = true ∧ u ≠ .none) := fun q e p n => .inr ⟨e, q ▸ p, q ▸ n⟩
 cases a with
 | none => exact .inl ⟨(Option.some.inj e).symm, h⟩
 | val v => cases e
 | bool b => exact k h (Option.some.inj e).symm rfl nofun
 | int b => exact h.elim fun _ q => k q (Option.some.inj e).symm rfl nofun
 | str b => exact h.elim fun _ q => k q (Option.some.inj e).symm rfl nofun
 | byt b => obtain ⟨_, _, q, _⟩ := h; exact k q (Option.some.inj e).symm rfl nofun
 | ref b => obtain ⟨_, _, q⟩ := h; exact k q (Option.some.inj e).symm rfl nofun
 | lam b => obtain ⟨_, _, q, _⟩ := h; exact k q (Option.some.inj e).symm rfl nofun
 | tup b => obtain ⟨_, _, _, q, _⟩ := h; exact k q (Option.some.inj e).symm rfl nofun
 | lst b => obtain ⟨_, _, _, q, _⟩ := h; exact k q (Option.some.inj e).symm rfl nofun
 | dct b b' => obtain ⟨_, _, _, q, _⟩ := h; exact k q (Option.some.inj e).symm rfl nofun
 | rng x y z => obtain ⟨_, _, _, _, q, _⟩ := h; exact k q (Option.some.inj e).symm rfl nofun
theorem jm {a b : V} {c : Bool} (e : ceq σ.hp a b = some c) (hm : Rm X 0) (h : Ok w X G σ s) {u v : Value} (hu : RV w.params G a u) (hv : RV w.params G b v) : SeqAt.RcAt (tp X) s u v c ∧ SeqAt.RcNeAt (tp X) s u v (!c) := by
 have hun : (tp X).units + 100 < cLine := by have := hm.2.1; show X.un + 100 < 9900; lia
 have hu1 : (tp X).units < cLine := by lia
 have ih : ∀ x y b u v, veq 8 x y = some b -> RV w.params G x u -> RV w.params G y v -> SeqAt.EqAt (tp X).in1 s u v b := fun x y b u v q => aP h 8 x y b _ u v q (by show (tp X).units + 1 + 8 < cLine; lia)
 have pl : zO a b = some c -> SeqAt.RcAt (tp X) s u v c ∧ SeqAt.RcNeAt (tp X) s u v (!c) := fun e => by
  refine okG.at (P := fun c => RV w.params G a u -> RV w.params G b v -> SeqAt.RcAt (tp X) s u v c ∧ SeqAt.RcNeAt (tp X) s u v (!c)) ?_ e hu hv
  clear e hu hv
  cases a with
  | none =>
   cases b with
   | none => exact fun hu hv => by cases hu; cases hv; exact ⟨SeqAt.RcAt.none_none, SeqAt.RcNeAt.none_none⟩
   | int _ => exact fun hu hv => by cases hu; obtain ⟨_, rfl⟩ := hv; exact ⟨SeqAt.RcAt.none_int _ _, SeqAt.RcNeAt.none_int _ _⟩
   | _ => exact True.intro
  | int _ =>
   cases b with
   | none => exact fun hu hv => by cases hv; obtain ⟨_, rfl⟩ := hu; exact ⟨SeqAt.RcAt.int_none _ _, SeqAt.RcNeAt.int_none _ _⟩
   | int _ => exact fun hu hv => by obtain ⟨_, rfl⟩ := hu; obtain ⟨_, rfl⟩ := hv; exact ⟨SeqAt.RcAt.int_int _ _ _ _, SeqAt.RcNeAt.int_int _ _ _ _⟩
   | _ => exact True.intro
  | str _ =>
   cases b with
   | str _ => exact fun hu hv => by obtain ⟨_, rfl⟩ := hu; obtain ⟨_, rfl⟩ := hv; exact ⟨SeqAt.RcAt.str_str _ _ _ _, SeqAt.RcNeAt.str_str _ _ _ _⟩
   | _ => exact True.intro
  | tup _ =>
   cases b with
   | tup _ =>
    refine okI fun c e hu hv => ?_
    obtain ⟨a1, us, k1, rfl, g1, r1, z1⟩ := h.tupAt hu
    obtain ⟨a2, vs, k2, rfl, g2, r2, z2⟩ := h.tupAt hv
    exact P7 hu1 (O9 g1) (O9 g2) r1 r2 e ih
   | _ => exact True.intro
  | _ => exact True.intro
 unfold ceq at e
 cases ea : deL σ.hp a with
 | none => rw [ea] at e; exact pl e
 | some xs =>
  rw [ea] at e
  cases eb : deL σ.hp b with
  | none => rw [eb] at e; exact pl e
  | some ys =>
   rw [eb] at e
   obtain ⟨a1, us, k1, rfl, g1, r1, z1⟩ := h.listAt ea hu
   obtain ⟨a2, vs, k2, rfl, g2, r2, z2⟩ := h.listAt eb hv
   exact Y8 hu1 (isL g1) (isL g2) r1 r2 e ih
theorem M9 {op : CmpOp} {a b : V} {c : Bool} (e : R0 σ.hp op a b = some c) (hm : Rm X 0) (h : Ok w X G σ s) {u v : Value} (hu : RV w.params G a u) (hv : RV w.params G b v) (Q : VP) (E : VP)
 (hq : ∀ tk, Q (.bool c) { s with toks := tk }) : wpAny (mdl w) (tp X) (compareOp op u v) Q E s := by
 have it : ∀ {f : Int -> Int -> Bool}, cI a b f = some c -> (∀ x y k k', f x y = c -> wpAny (mdl w) (tp X) (compareOp op (.int x k) (.int y k')) Q E s) -> wpAny (mdl w) (tp X) (compareOp op u v) Q E s := fun e k => by
  refine cIE e fun x y q1 q2 q => ?_
  subst q1 q2
  obtain ⟨_, rfl⟩ := hu
  obtain ⟨_, rfl⟩ := hv
  exact k _ _ _ _ q
 cases op with
 | Lt => exact it e fun x y _ _ q => by subst q; exact lt_int (hq s.toks)
 | Gt => exact it e fun x y _ _ q => by subst q; exact gt_int (hq s.toks)
 | LtE => exact it e fun x y _ _ q => by subst q; exact le_int (hq s.toks)
 | GtE => exact it e fun x y _ _ q => by subst q; exact P.ge_int (hq s.toks)
 | Is =>
  refine i5 (show (bif M0 b then a.isNone else none) = some c from e) fun g e => ?_
  rw [D8 g] at hv
  cases hv
  rcases RV.notNone hu e with ⟨rfl, rfl⟩ | ⟨rfl, q, q'⟩
  · exact wpAny_is_self rfl (hq s.toks)
  · exact wpAny_is_other q q' (hq s.toks)
 | IsNot =>
  obtain ⟨c', ec, rfl⟩ := mp e
  refine i5 (show (bif M0 b then a.isNone else none) = some c' from ec) fun g ec => ?_
  rw [D8 g] at hv
  cases hv
  rcases RV.notNone hu ec with ⟨rfl, rfl⟩ | ⟨rfl, q, q'⟩
  · exact wpAny_isNot_self rfl (hq s.toks)
  · exact wpAny_isNot_other q q' (hq s.toks)
 | Eq => exact (jm e hm h hu hv).1 _ w E Q (hq s.toks)
 | NotEq =>
  obtain ⟨c', ec, rfl⟩ := mp e
  exact (jm ec hm h hu hv).2 _ w E Q (hq s.toks)
 | _ => cases e
noncomputable def l8 : Expr -> Bool
 | .Set _ _ _ => false
 | _ => true
theorem w6 {op : CmpOp} {r : Expr} (h : l8 r = true) : behindInMarks op r = false := by
 have k : bif l8 r then behindInMarks op r = false else True := by cases r <;> first | exact True.intro | exact Eq.refl _
 rw [h] at k; exact k
noncomputable def aY : Expr -> Bool
 | .UnaryOp .. => false
 | .BoolOp .. => false
 | .IfExp .. => false
 | .Compare .. => false
 | _ => true
theorem dN {e : Expr} {env : Env} {whole : Sem Value} (h : aY e = true) : isTrue e env whole = (do let v ← whole; standAt e.pos; holding [v] (truthy v)) := by
 cases e <;> first | rfl | cases h
theorem Te.val {e : Expr} {b : Bool} (h : Ev w X σ e (.bool b) σ') (hp : aY e = true) : Te w X σ e b σ' := fun G s k Q E hq =>
 bC (h G s k _ _ fun b8 u a7 c0 k₁ hu b9 => by cases hu; exact cC (wpAny_truthy_bool (hq b8 a7 c0 k₁ b9))) (dN hp)
theorem Te.not {e : Expr} {b : Bool} {pos : Pos} (h : Te w X σ e b σ') : Te w X σ (.UnaryOp .Not e pos) (!b) σ' := fun G s k Q E hq =>
 jo (h G s k _ _ fun b8 a7 c0 k₁ b9 => hq b8 a7 c0 k₁ b9)
theorem Te.and0 {pos : Pos} : Te w X σ (.BoolOp .And [] pos) true σ := fun G s k Q E hq => cC (isTrue_and_nil (hq G s (.refl G) k (.refl s)))
theorem Te.or0 {pos : Pos} : Te w X σ (.BoolOp .Or [] pos) false σ := fun G s k Q E hq => cC (isTrue_or_nil (hq G s (.refl G) k (.refl s)))
theorem Te.and {e : Expr} {es : List Expr} {b c : Bool} {pos : Pos} (h : Te w X σ e b σ') (h1 : b = true -> Te w X σ' (.BoolOp .And es pos) c σ'') (h2 : b = false -> c = false ∧ σ'' = σ') : Te w X σ (.BoolOp .And (e :: es) pos) c σ'' := fun G s k Q E hq => by
 refine jp (h G s k _ _ fun b8 a7 c0 k₁ b9 => ?_)
 cases b with
 | true => exact h1 rfl b8 a7 k₁ Q E fun i6 a8 f6 i9 e7 => hq i6 a8 (c0.trans f6) i9 (b9.trans e7)
 | false => obtain ⟨rfl, rfl⟩ := h2 rfl; exact hq b8 a7 c0 k₁ b9
theorem Te.or {e : Expr} {es : List Expr} {b c : Bool} {pos : Pos} (h : Te w X σ e b σ') (h1 : b = false -> Te w X σ' (.BoolOp .Or es pos) c σ'') (h2 : b = true -> c = true ∧ σ'' = σ') : Te w X σ (.BoolOp .Or (e :: es) pos) c σ'' := fun G s k Q E hq => by
 refine nK (h G s k _ _ fun b8 a7 c0 k₁ b9 => ?_)
 cases b with
 | false => exact h1 rfl b8 a7 k₁ Q E fun i6 a8 f6 i9 e7 => hq i6 a8 (c0.trans f6) i9 (b9.trans e7)
 | true => obtain ⟨rfl, rfl⟩ := h2 rfl; exact hq b8 a7 c0 k₁ b9
theorem Ev.boolOne {op : BoolOp} {e : Expr} {v : V} {pos : Pos} (h : Ev w X σ e v σ') : Ev w X σ (.BoolOp op [e] pos) v σ' := fun G s k Q E hq => jx (h G s k Q E hq)
theorem Ev.and {e e2 : Expr} {es : List Expr} {b : Bool} {v : V} {pos : Pos} (h : Ev w X σ e (.bool b) σ') (h1 : b = true -> Ev w X σ' (.BoolOp .And (e2 :: es) pos) v σ'') (h2 : b = false -> v = .bool false ∧ σ'' = σ') : Ev w X σ (.BoolOp .And (e :: e2 :: es) pos) v σ'' := fun G s k Q E hq => by
 refine cAnd (h G s k _ _ fun b8 u a7 c0 k₁ hu b9 => ?_)
 cases hu
 refine cC (wpAny_truthy_bool ?_)
 cases b with
 | true => exact h1 rfl b8 a7 k₁ Q E fun i6 u a8 f6 i9 hu e7 => hq i6 u a8 (c0.trans f6) i9 hu (b9.trans e7)
 | false => obtain ⟨rfl, rfl⟩ := h2 rfl; exact hq b8 _ a7 c0 k₁ rfl b9
theorem Ev.or {e e2 : Expr} {es : List Expr} {b : Bool} {v : V} {pos : Pos} (h : Ev w X σ e (.bool b) σ') (h1 : b = false -> Ev w X σ' (.BoolOp .Or (e2 :: es) pos) v σ'') (h2 : b = true -> v = .bool true ∧ σ'' = σ') : Ev w X σ (.BoolOp .Or (e :: e2 :: es) pos) v σ'' := fun G s k Q E hq => by
 refine cOr (h G s k _ _ fun b8 u a7 c0 k₁ hu b9 => ?_)
 cases hu
 refine cC (wpAny_truthy_bool ?_)
 cases b with
 | false => exact h1 rfl b8 a7 k₁ Q E fun i6 u a8 f6 i9 hu e7 => hq i6 u a8 (c0.trans f6) i9 hu (b9.trans e7)
 | true => obtain ⟨rfl, rfl⟩ := h2 rfl; exact hq b8 _ a7 c0 k₁ rfl b9
theorem Ok.ext {h' : Heap} {tk : Nat} (h : Ok w X G σ s) (hk : ∀ b o, s.heap.get? b = some o -> h'.get? b = some o) : Ok w X G σ { s with heap := h', toks := tk } := by
 obtain ⟨m, obs, C, h1, h2, h3, hf, hc⟩ := h
 exact ⟨m, obs, ⟨C.B, C.F.keeps hk, C.X, C.N.grown hk, C.T, C.k⟩, h1, h2, h3, hf, hc⟩
theorem Ok.gets {h' : Heap} {tk : Nat} {a : Addr} {o : Obj} (h : Ok w X G σ s) (hk : ∀ b o, s.heap.get? b = some o -> h'.get? b = some o) (ha : s.heap.objs.size ≤ a) (ho : h'.get? a = some o) : Ok w X (G.imm a o) σ { s with heap := h', toks := tk } := by
 obtain ⟨f1, f2, f3⟩ := h.fresh ha
 obtain ⟨m, obs, C, h1, h2, h3, hf, hc⟩ := h
 have hn : X.h₀.get? a = none := by
  cases q : X.h₀.get? a with
  | none => rfl
  | some o' => exact absurd (Heap.lt_size (C.F.keep a o' q)) (Nat.not_lt.mpr ha)
 have hL : a ≠ X.L := fun e => absurd (e ▸ C.F.ns.lt) (Nat.not_lt.mpr ha)
 refine ⟨m, obs, ⟨C.B, C.F.keeps hk, C.X, fun p hp => ?_, C.T, C.k⟩, h1, ⟨h2.nd, fun p hp => ?_, h2.tr, fun p hp q hq => ?_⟩, h3.imp fun _ _ h => h.mono (G.le_imm a o), hf.mono (G.le_imm a o), hc.mono (G.le_imm a o)⟩
 · have old := C.N.grown hk
   rcases aM hp with q | q
   · exact old p (aL q)
   · rcases mC q with rfl | q
     · exact ⟨ho, hL, hn⟩
     · exact old p (aR q)
 · rcases mC hp with rfl | hp
   · exact f1
   · exact h2.kr p hp
 · rcases mC hp with rfl | hp
   · exact (f3 q hq).symm
   · exact h2.kt p hp q hq
theorem Gc {k : Nat} {H : List O} {v : V} {xs : List V} (e : deL H v = some xs) : Cl w k (.builtin "len") H [v] (.int xs.length) H := fun X fr G s us hd h hus Q E hq => by
 obtain _ | ⟨hu, _ | _⟩ := hus
 obtain ⟨a, us, n, rfl, g, r, z⟩ := h.listAt e hu
 have e : us.toArray.size = xs.length := by rw [List.size_toArray, r.len]
 refine cC (PyProof.Rows.len_list (isL g) (by rw [e]; have z : xs.length ≤ 100000 := z; lia) ?_)
 rw [e]
 exact hq G _ _ (.refl G) h ⟨_, rfl⟩ ⟨rfl, rfl, rfl⟩
theorem Gb {k : Nat} {H : List O} {xs : List V} : Cl w k (.builtin "len") H [.tup xs] (.int xs.length) H := fun X fr G s us hd h hus Q E hq => by
 obtain _ | ⟨hu, _ | _⟩ := hus
 obtain ⟨a, us, n, rfl, g, r, z⟩ := h.tupAt hu
 have e : us.toArray.size = xs.length := by rw [List.size_toArray, r.len]
 refine cC (PyProof.Rows.len_tuple (isT g) (by rw [e]; have z : xs.length ≤ 100000 := z; lia) ?_)
 rw [e]
 exact hq G _ _ (.refl G) h ⟨_, rfl⟩ ⟨rfl, rfl, rfl⟩
theorem Gd {k : Nat} {H : List O} {n : Nat} : Cl w k (.builtin "len") H [.byt n] (.int n) H := fun X fr G s us hd h hus Q E hq => by
 obtain _ | ⟨hu, _ | _⟩ := hus
 obtain ⟨b, t, rfl, e, z⟩ := hu
 subst e
 have z : b.size ≤ 100000 := z
 exact cC (len_bytes (by lia) (hq G _ _ (.refl G) h ⟨_, rfl⟩ ⟨rfl, rfl, rfl⟩))
theorem pt {k : Nat} {H : List O} {n : Int} : Cl w k (.builtin "abs") H [.int n] (.int (if n < 0 then -n else n)) H := fun X fr G s us hd h hus Q E hq => by
 obtain _ | ⟨hu, _ | _⟩ := hus
 obtain ⟨t, rfl⟩ := hu
 exact cC (call_abs_int fun u tk => hq G _ _ (.refl G) h ⟨_, rfl⟩ ⟨rfl, rfl, rfl⟩)
theorem FM {k : Nat} {H : List O} {a b : Int} : Cl w k (.builtin "max") H [.int a, .int b] (.int (if b > a then b else a)) H := fun X fr G s us hd h hus Q E hq => by
 obtain _ | ⟨hu, _ | ⟨hv, _ | _⟩⟩ := hus
 obtain ⟨t, rfl⟩ := hu
 obtain ⟨t', rfl⟩ := hv
 refine cC (max_two_ints rfl fun h' tk hk => ?_)
 split
 · rename_i q; exact hq G _ _ (.refl G) (h.ext hk) ⟨t', by rw [if_pos q]⟩ ⟨rfl, rfl, rfl⟩
 · rename_i q; exact hq G _ _ (.refl G) (h.ext hk) ⟨t, by rw [if_neg q]⟩ ⟨rfl, rfl, rfl⟩
theorem FL {k : Nat} {H : List O} {a b : Int} : Cl w k (.builtin "min") H [.int a, .int b] (.int (if b < a then b else a)) H := fun X fr G s us hd h hus Q E hq => by
 obtain _ | ⟨hu, _ | ⟨hv, _ | _⟩⟩ := hus
 obtain ⟨t, rfl⟩ := hu
 obtain ⟨t', rfl⟩ := hv
 refine cC (min_two_ints rfl fun h' tk hk => ?_)
 split
 · rename_i q; exact hq G _ _ (.refl G) (h.ext hk) ⟨t', by rw [if_pos q]⟩ ⟨rfl, rfl, rfl⟩
 · rename_i q; exact hq G _ _ (.refl G) (h.ext hk) ⟨t, by rw [if_neg q]⟩ ⟨rfl, rfl, rfl⟩
noncomputable def p3 : List V -> Option (List Int)
 | [] => some []
 | .int n :: r => match p3 r with | some ns => some (n :: ns) | none => none
 | _ => none
theorem M1 : ∀ {xs : List V} {ns : List Int} {us : List Value}, p3 xs = some ns -> d9 (RV w.params G) xs us -> AllInts us.toArray ∧ numsOf us = ns
 | [], ns, us, e, h => by cases e; cases h; exact ⟨fun v hv => by simp at hv, rfl⟩
 | x :: xs, ns, us, e, h => by
  cases h with
  | cons hu hus =>
   cases x with
   | int n =>
    unfold p3 at e
    split at e
    · rename_i ns' q
      cases e
      obtain ⟨i1, i2⟩ := M1 q hus
      obtain ⟨t, rfl⟩ := hu
      refine ⟨fun v hv => ?_, by rw [numsOf, i2]⟩
      rw [List.mem_toArray] at hv
      rcases mC hv with rfl | hv
      · exact ⟨_, _, rfl⟩
      · exact i1 v (by rw [List.mem_toArray]; exact hv)
    · cases e
   | _ => cases e
theorem oB {k : Nat} {H : List O} {v : V} {xs : List V} {ns : List Int} (e : deL H v = some xs) (hi : p3 xs = some ns) : Cl w k (.builtin "sum") H [v] (.int ns.sum) H := fun X fr G s us hd h hus Q E hq => by
 obtain _ | ⟨hu, _ | _⟩ := hus
 obtain ⟨a, us, n, rfl, g, r, z⟩ := h.listAt e hu
 obtain ⟨i1, i2⟩ := M1 hi r
 obtain ⟨ps, e'⟩ := i1.items
 have g' := isL g
 rw [e'] at g'
 have hn : ps.toList.map (·.1) = ns := by rw [← nums_intItems, ← e']; exact i2
 refine cC (sum_intListG rfl g' fun h' tk t' hk => ?_)
 rw [preSum_eq, List.take_of_length_le (by simp), hn]
 exact hq G _ _ (.refl G) (h.ext hk) ⟨_, rfl⟩ ⟨rfl, rfl, rfl⟩
theorem lQ {k : Nat} {H : List O} {v : V} {xs : List V} (e : deL H v = some xs) : Cl w k (.type "tuple") H [v] (.tup xs) H := fun X fr G s us hd h hus Q E hq => by
 obtain _ | ⟨hu, _ | _⟩ := hus
 obtain ⟨a, us, n, rfl, g, r, z⟩ := h.listAt e hu
 refine cC (call_tuple_list (isL g) (fun h' hk => ?_) (by rw [List.size_toArray, ← r.len, sizeLine_eq]; have z : xs.length ≤ 100000 := z; lia))
 have h2 := h.ext (tk := s.toks) hk
 exact hq _ _ _ (Gam.le_imm G _ (C9 us 0)) (h2.gets (tk := s.toks) (fun b o e => Heap.get?_push_of_some _ e) (Nat.le_refl _) (Heap.get?_push_size _ rfl)) (Ok.newT G r z) ⟨rfl, rfl, rfl⟩
end
theorem bU {d : Addr} {o o' : Obj} {l l' : List (Addr × Obj)} (h : Upd d o o' l l') : ∀ {r : List (Addr × Obj)}, (∀ p ∈ r, p.1 ≠ d) -> Upd d o o' (l ++ r) (l' ++ r) := by
 induction h with
 | head h => intro r hr; exact .head fun p hp => (aM hp).elim (h p) (hr p)
 | tail h _ ih => intro r hr; exact .tail h (ih hr)
theorem R7 {o o' : Obj} : ∀ {as : List Addr} {bs : List Obj} {l : Nat} {a : Addr}, as.Nodup -> as.length = bs.length -> as[l]? = some a -> bs[l]? = some o -> Upd a o o' (List.zip as bs) (List.zip as (bs.set l o'))
 | [], _, _, _, _, _, e, _ => by simp at e
 | a :: as, b :: bs, 0, a', hn, hl, e, eb => by
  simp at e eb; subst e; subst eb
  rw [List.set_cons_zero, List.zip_cons_cons, List.zip_cons_cons]
  refine .head fun p hp => fun q => ?_
  exact (List.nodup_cons.mp hn).1 (q ▸ (List.of_mem_zip hp).1)
 | a :: as, b :: bs, l + 1, a', hn, hl, e, eb => by
  simp at e eb
  rw [List.set_cons_succ, List.zip_cons_cons, List.zip_cons_cons]
  refine .tail ?_ (R7 (List.nodup_cons.mp hn).2 (Nat.succ.inj hl) e eb)
  intro q
  have : a' ∈ as := List.mem_iff_getElem?.mpr ⟨l, e⟩
  have q' : a = a' := q
  exact (List.nodup_cons.mp hn).1 (q'.symm ▸ this)
 | _ :: _, [], _, _, _, hl, _, _ => by cases hl
section
variable {w : World} {X : Cf} {G : Gam} {σ σ' σ'' : St} {s : Shared}
theorem Ok.upd {l : Nat} {a : Addr} {x' : O} {x : O} {tk : Nat} (h : Ok w X G σ s) (ha : G.ρ[l]? = some a) (hx : σ.hp[l]? = some x) {α : Type} {t : Sem α} (u : α) (Q : α -> Shared -> Prop) (E : VP)
 (ob' : Obj -> Obj) (ho : ∀ ob, RO w.params G x ob -> RO w.params G x' (ob' ob))
 (hq : ∀ s', Ok w X G ⟨σ.fr, σ.hp.set l x'⟩ s' -> j3 s s' -> Q u s')
 (rule : ∀ (m : Str -> Option Value) (news news' : List (Addr × Obj)) ob, RO w.params G x ob -> s.heap.get? a = some ob -> Fr X.h₀ X.L s.heap m -> News X.h₀ X.L s.heap news -> Upd a ob (ob' ob) news news' -> (∀ h', Fr X.h₀ X.L h' m -> News X.h₀ X.L h' news' -> Q u { s with heap := h', toks := tk }) -> wpAny (mdl w) (tp X) t Q E s) :
 wpAny (mdl w) (tp X) t Q E s := by
 obtain ⟨a', ob, k1, k2, k3⟩ := h.at hx
 obtain rfl : a = a' := by rw [ha] at k1; exact Option.some.inj k1
 obtain ⟨m, obs, C, h1, h2, h3, hf, hc⟩ := id h
 obtain ⟨ob2, e2, r2⟩ := h3.get hx
 have hl : l < G.ρ.length := (List.getElem?_eq_some_iff.mp ha).1
 have e3 : ob2 = ob := by
  have := (C.N (a, ob2) (aL (List.mem_iff_getElem?.mpr ⟨l, by rw [List.getElem?_zip_eq_some]; exact ⟨ha, e2⟩⟩))).1
  rw [k2] at this; exact (Option.some.inj this).symm
 subst e3
 have hm : a ∈ G.ρ := List.mem_iff_getElem?.mpr ⟨l, ha⟩
 have U : Upd a ob2 (ob' ob2) (List.zip G.ρ obs ++ (G.κ ++ G.θ)) (List.zip G.ρ (obs.set l (ob' ob2)) ++ (G.κ ++ G.θ)) := bU (R7 h2.nd h1 ha e2) fun p hp => by
  rcases aM hp with q | q
  · exact fun e => h2.kr p q (e ▸ hm)
  · exact fun e => h2.tr p q (e ▸ hm)
 refine rule m _ _ ob2 r2 k2 C.F C.N U fun h' F' N' => hq _ ⟨m, obs.set l (ob' ob2), ⟨C.B, F', C.X, N', C.T, C.k⟩, by rw [List.length_set]; exact h1, h2, h3.set (ho ob2 r2), hf, hc⟩ ⟨rfl, rfl, rfl⟩
theorem Ok.set {l : Nat} {a : Addr} {ob : Obj} {o' : O} {h' : Heap} {tk : Nat} (h : Ok w X G σ s) (ha : G.ρ[l]? = some a) (hs : Heap.SameBut a s.heap h') (hob : h'.get? a = some ob) (ho : RO w.params G o' ob) :
 Ok w X G ⟨σ.fr, σ.hp.set l o'⟩ { s with heap := h', toks := tk } := by
 obtain ⟨m, obs, C, h1, h2, h3, hf, hc⟩ := h
 have hm : a ∈ G.ρ := List.mem_iff_getElem?.mpr ⟨l, ha⟩
 have hl : l < obs.length := by rw [← h1]; exact (List.getElem?_eq_some_iff.mp ha).1
 have hz : (a, obs[l]) ∈ List.zip G.ρ obs := by
  refine List.mem_iff_getElem?.mpr ⟨l, ?_⟩
  rw [List.getElem?_zip_eq_some]
  exact ⟨ha, List.getElem?_eq_getElem hl⟩
 have z := C.N _ (aL hz)
 refine ⟨m, obs.set l ob, ⟨C.B, C.F.change hs z.2.1 z.2.2, C.X, fun p hp => ?_, C.T, C.k⟩, by rw [List.length_set]; exact h1, h2, h3.set ho, hf, hc⟩
 rcases aM hp with q | q
 · obtain ⟨i, hi⟩ := List.mem_iff_getElem?.mp q
   rw [List.getElem?_zip_eq_some] at hi
   obtain ⟨hi1, hi2⟩ := hi
   by_cases e : i = l
   · subst e
     rw [ha] at hi1
     rw [List.getElem?_set_self hl] at hi2
     cases p
     cases hi1; cases hi2
     exact ⟨hob, z.2⟩
   · rw [List.getElem?_set_ne (Ne.symm e)] at hi2
     have y := C.N p (aL (List.mem_iff_getElem?.mpr ⟨i, by rw [List.getElem?_zip_eq_some]; exact ⟨hi1, hi2⟩⟩))
     refine ⟨(hs.2 p.1 fun q => ?_).trans y.1, y.2⟩
     obtain ⟨li, ei⟩ := List.getElem?_eq_some_iff.mp hi1
     obtain ⟨ll, el⟩ := List.getElem?_eq_some_iff.mp ha
     rcases Nat.lt_or_gt_of_ne e with c | c
     · exact List.pairwise_iff_getElem.mp h2.nd i l li ll c (ei.trans (q.trans el.symm))
     · exact List.pairwise_iff_getElem.mp h2.nd l i ll li c (ei.trans (q.trans el.symm)).symm
 · have y := C.N p (aR q)
   have hne : p.1 ≠ a := by
    rcases aM q with q | q
    · exact fun e => h2.kr p q (e ▸ hm)
    · exact fun e => h2.tr p q (e ▸ hm)
   exact ⟨(hs.2 p.1 hne).trans y.1, y.2⟩
theorem lC {k : Nat} {H : List O} {l : Nat} {xs : List V} {v : V} (hl : H[l]? = some (.list xs)) (hz : xs.length < big) : Cl w k (.builtin "list.append") H [.ref l, v] .none (H.set l (.list (xs ++ [v]))) := fun X fr G s us hd h hus Q E hq => by
 obtain _ | ⟨hu, _ | ⟨hv, _ | _⟩⟩ := hus
 obtain ⟨a, ha, rfl⟩ := hu
 obtain ⟨a', ob, ha', hob, us, nn, rfl, hus, hz'⟩ := h.at hl
 obtain rfl : a = a' := by rw [ha] at ha'; exact Option.some.inj ha'
 refine cC (append_at hob (fun h' hs ho' => ?_) (by rw [List.size_toArray, ← hus.len, sizeLine_eq]; have hz : xs.length < 100000 := hz; omega))
 refine hq G _ _ (.refl G) ?_ rfl ⟨rfl, rfl, rfl⟩
 exact h.set (o' := .list (xs ++ [v])) (tk := s.toks) ha hs ho' ⟨us ++ [_], nn + 1, by rw [List.push_toArray], hus.snoc hv, by rw [List.length_append, List.length_singleton]; exact hz⟩
noncomputable def U1 (ks : List Str) (xs : List V) (x : Str) : Option V := (List.zip ks xs).lookup x
noncomputable def zn : V -> Option (List Str × List V)
 | .dct ks xs => some (ks, xs)
 | _ => none
theorem cX {v : V} {p : List Str × List V} (h : zn v = some p) : v = .dct p.1 p.2 := okG.at (P := fun p => v = .dct p.1 p.2) (by cases v <;> first | exact True.intro | exact Eq.refl _) h
def iC (hp : List O) (k : Int) (a : V) : Option V := match F1 a with
 | some xs => bif decide (-1000000 ≤ k) && decide (k < 1000000) then (seqIndex? k xs.length).bind fun j => xs[j]? else none
 | none => (deL hp a).bind fun xs => bif decide (0 ≤ k) && decide (k < 1000000) then xs[k.toNat]? else none
def cG (hp : List O) (a i : V) : Option V := match j5 i with
 | some k => iC hp k a
 | none => (iQ i).bind fun x => (zn a).bind fun p => U1 p.1 p.2 x
noncomputable def r8 : Expr -> Bool
 | .Slice .. => false
 | _ => true
theorem U0 {slice : Expr} {o i : Value} (h : r8 slice = true) : subscripted slice false o i = operate [o, i] (getItem o i) := by
 cases slice <;> first | rfl | cases h
theorem dl {P : Params} : ∀ {ks : List Str} {xs : List V} {des : List DictEntry} {x : Str} {v : V}, d9 (dk P) ks des -> d9 (RV P G) xs (des.map (·.val)) -> U1 ks xs x = some v -> ∃ u, (des.find? fun e => e.key.isStr x).map (·.val) = some u ∧ RV P G v u
 | [], xs, des, x, v, h1, h2, e => by cases e
 | k :: ks, [], des, x, v, h1, h2, e => by cases e
 | k :: ks, y :: xs, des, x, v, h1, h2, e => by
  cases h1 with
  | @cons _ d _ ds hd hds =>
   rw [List.map_cons] at h2
   cases h2 with
   | cons hy hys =>
    obtain ⟨t, u, rfl⟩ := hd
    unfold U1 at e
    rw [List.zip_cons_cons, List.lookup_cons] at e
    by_cases q : x = k
    · subst q
      rw [beq_self_eq_true] at e
      cases e
      refine ⟨u, ?_, hy⟩
      rw [List.find?_cons]
      show Option.map _ (match (x == x) with | true => _ | false => _) = _
      rw [beq_self_eq_true]; rfl
    · rw [nB q] at e
      obtain ⟨u', h1, h2⟩ := dl hds hys e
      refine ⟨u', ?_, h2⟩
      rw [List.find?_cons]
      show Option.map _ (match (k == x) with | true => _ | false => _) = _
      rw [nB (Ne.symm q)]; exact h1
theorem ah {P : Params} {ks : List Str} {des : List DictEntry} (h : d9 (dk P) ks des) : (des.toArray.all fun e => isExactStrKey e.key) = true := by
 rw [List.all_toArray, List.all_eq_true]
 induction h with
 | nil => intro x hx; cases hx
 | cons h _ ih =>
  intro x hx
  rcases mC hx with rfl | hx
  · obtain ⟨t, u, rfl⟩ := h; rfl
  · exact ih x hx
theorem ej {E : VP} {A : Around} {d : Addr} {x : Str} {t : Tok} {ks : List Str} {xs : List V} {v : V} {des : List DictEntry} {n : Nat} {Q : Option Value -> Shared -> Prop} (ho : s.heap.get? d = some (dictOf des n)) (h1 : d9 (dk w.params) ks des) (h2 : d9 (RV w.params G) xs (des.map (·.val))) (e : U1 ks xs x = some v)
 (h : ∀ u, RV w.params G v u -> Q (some u) { s with toks := s.toks + 1 }) : wpAny (mdl w) A (dictGet d (.str x t)) Q E s := by
 unfold dictGet
 try with_reducible refine wpAny_holding ?_
 refine wpAny_bind (wpAny_pyHash_str (wpAny_bind (KTD.kt_dictFind_strs (s := { s with toks := s.toks + 1 }) ho rfl (ah h1) ?_)))
 obtain ⟨u, e1, e2⟩ := dl h1 h2 e
 have hf : findBy (fun k v => v.isStr k) des.toArray x = some u := by
  rw [show findBy (fun k v => v.isStr k) des.toArray x = (des.find? fun e => e.key.isStr x).map (·.val) by simp [findBy]]
  exact e1
 rw [findBy_of_findIdx?] at hf
 cases hi : des.toArray.findIdx? fun e => e.key.isStr x with
 | none => rw [hi] at hf; cases hf
 | some i => rw [hi] at hf; exact wpAny_bind (wpAny_dictEntries (s := { s with toks := s.toks + 1 }) ho rfl (wpAny_pure (by have hf : Option.map (fun x => x.val) des.toArray[i]? = some u := hf; rw [hf]; exact h u e2)))
theorem iB {value slice : Expr} {a v : V} {k : Int} {t : Tok} (e : iC σ.hp k a = some v) (hn : r8 slice = true) (h : Ok w X G σ s) {u : Value} (hu : RV w.params G a u) : Gp w X G σ s (subscriptTail value slice u (.int k t)) v := fun Q E hq => by
 unfold iC at e
 cases ht : F1 a with
 | some xs =>
  rw [ht] at e
  rw [q8 ht] at hu
  refine i5 e fun hc e => a9 (i0 hc) fun h1 h2 => e9 e fun j hj e => ?_
  obtain ⟨ad, us, n, rfl, g, r, z⟩ := h.tupAt hu
  obtain ⟨y, hy, ry⟩ := r.get e
  exact item_tupleT (isT g) (Int.le_trans (by decide) (dO h1)) (Int.lt_trans (dO h2) (by decide)) (by rw [← r.len]; exact hj) hy (hq G _ _ (.refl G) h ry (.refl s)) (U0 hn)
 | none =>
  rw [ht] at e
  refine e9 e fun xs ea e => i5 e fun hc e => a9 (i0 hc) fun h1 h2 => ?_
  obtain ⟨ad, us, n, rfl, g, r, z⟩ := h.listAt ea hu
  obtain ⟨y, hy, ry⟩ := r.get e
  exact tail_any (isL g).typeIs slot_list_getitem.lookup (wpAny_getItem_list (isL g) (dO h1) (Int.lt_trans (dO h2) (by decide)) (by simpa using hy) (hq G _ _ (.refl G) h ry (.refl s))) (U0 hn)
theorem mX {value slice : Expr} {a i v : V} (e : cG σ.hp a i = some v) (hn : r8 slice = true) (h : Ok w X G σ s) {u u' : Value} (hu : RV w.params G a u) (hu' : RV w.params G i u') : Gp w X G σ s (subscriptTail value slice u u') v := by
 unfold cG at e
 cases hi : j5 i with
 | some k =>
  rw [hi] at e
  rw [g9 hi] at hu'
  obtain ⟨t, rfl⟩ := hu'
  exact iB e hn h hu
 | none =>
  rw [hi] at e
  refine e9 e fun x hx e => e9 e fun p hp e => ?_
  rw [J5 hx] at hu'
  rw [cX hp] at hu
  obtain ⟨t, rfl⟩ := hu'
  obtain ⟨ad, des, n, rfl, g, r1, r2, -⟩ := hu
  have g := h.hasAt g
  have hT : s.TypeIs (.ref ad) "dict" := ⟨_, g, rfl⟩
  intro Q E hq
  refine tail_any hT slot_dict_getitem.lookup ?_ (U0 hn)
  unfold getItem
  try with_reducible refine wpAny_holding ?_
  refine wpAny_bind (wpAny_sequenceKey hT (by decide) ?_)
  refine wpAny_bind (wpAny_callSpecial?_slot (name := Str.ofString "__getitem__") hT slot_dict_getitem
   (wpAny_call_entry slot_dict_getitem hT entry_dict_getitem ?_ (args_dict_getitem _ _)))
  show wpAny _ _ (dictGet ad (.str x t) >>= _) _ _ s
  refine wpAny_bind (ej g r1 r2.all e fun u hu => wpAny_pure ⟨u, rfl, wpAny_pure ?_⟩)
  exact hq G _ _ (.refl G) h hu ⟨rfl, rfl, rfl⟩
theorem Ev.item {value slice : Expr} {a i v : V} {pos : Pos} (hl : Ev w X σ value a σ') (hr : Ev w X σ' slice i σ'') (e : cG σ''.hp a i = some v) (hn : r8 slice = true) : Ev w X σ (.Subscript value slice pos) v σ'' := fun G s h Q E hq =>
 u4 (Ev.two hl hr h fun G' u u' s' l h' hu hu' e' => (mX e hn h' hu hu').gv Q E fun i6 r a8 f6 k hr e7 => hq i6 r a8 (l.trans f6) k hr (e'.trans e7))
def Pt (w : World) (X : Cf) (σ : St) (e : Option Expr) (p : Option Int) (σ' : St) : Prop := ∀ G s, Ok w X G σ s -> ∀ Q E, (∀ G' v s', Le G G' -> Ok w X G' σ' s' -> IsPart v p -> j3 s s' -> Q v s') -> wpC (mdl w) (tp X) (evalPart e (eX X)) Q E s
theorem Pt.no : Pt w X σ none none σ := fun G s h Q E hq => cC (evalPart_none_step (hq G _ s (.refl G) h .none (j3.refl s)))
theorem Pt.at {e : Expr} {k : Int} (h : Ev w X σ e (.int k) σ') : Pt w X σ (some e) (some k) σ' := fun G s h' Q E hq => pj (h G s h' Q E fun G' u s' l k' hu e => by obtain ⟨t, rfl⟩ := hu; exact hq G' _ s' l k' (.int _ _) e)
theorem P6 {E : VP} {A : Around} {h₀ : Heap} {L : Addr} {m : Str -> Option Value} {news : List (Addr × Obj)} {value : Expr} {lower upper : Option Expr} {p : Pos} {l : Addr} {items : Array Value} {vl vu : Value} {lo hi : Option Int} {Q : VP}
 (F : Fr h₀ L s.heap m) (N : News h₀ L s.heap news) (hl : s.heap.IsList l items) (pl : IsPart vl lo) (pu : IsPart vu hi)
 (h : ∀ h', Fr h₀ L h' m -> News h₀ L h' ((s.heap.objs.size + 1, { cls := .type "list", data := .seq (slicePick items lo hi none) }) :: news) -> Q (.ref (s.heap.objs.size + 1)) { s with heap := h' })
 (hsz : items.size ≤ sizeLine) :
 wpAny (mdl w) A (subscriptTail value (.Slice lower upper none p) (.ref l) (.ref s.heap.objs.size)) Q E { s with heap := s.heap.push { cls := .type "slice", data := .fields #[vl, vu, .none] } } := by
 refine tail_any (ops := [.ref s.heap.objs.size, .ref l]) (Heap.IsList.typeIs (s := { s with heap := s.heap.push { cls := .type "slice", data := .fields #[vl, vu, .none] } }) (hl.push _)) list_getitem_lookup
  (wpAny_getItem_list_slice (hl.push _) (Heap.IsSliceOf.new ..) pl pu .none (by simp) ?_ hsz) rfl
 have N1 := News.push (F.push { cls := .type "slice", data := .fields #[vl, vu, .none] }) (N.grown fun _ _ e => Heap.get?_push_of_some _ e) { cls := .type "list", data := .seq (slicePick items lo hi none) }
 rw [Heap.size_push] at N1
 show Q (.ref (s.heap.push _).objs.size) _
 rw [Heap.size_push]
 exact h _ ((F.push _).push _) N1
theorem Ev.slice {value : Expr} {lower upper : Option Expr} {lo hi : Option Int} {σ₁ σ₂ l6 : St} {v : V} {a b : Nat} {xs : List V} {p pos : Pos} (hl : Ev w X σ value v σ₁) (h1 : Pt w X σ₁ lower lo σ₂) (h2 : Pt w X σ₂ upper hi l6) (ho : deL l6.hp v = some xs)
 (hb : sliceBounds lo hi none xs.length = (((a : Nat) : Int), ((b : Nat) : Int), 1)) :
 Ev w X σ (.Subscript value (.Slice lower upper none p) pos) (.lst ((xs.drop a).take (b - a))) l6 := fun G s h Q E hq => by
 refine u4 (hl G s h _ _ fun b8 u a7 c0 k₁ hu b9 => ?_)
 refine bE (h1 _ a7 k₁ _ _ fun i6 vl a8 f6 i9 pl e7 => h2 _ a8 i9 _ _ fun n9 vu f7 m5 I6 pu n8 => cC (evalPart_none_step ?_))
 obtain ⟨ad, us, nn, rfl, g, hus, z⟩ := I6.listAt ho ((hu.mono f6).mono m5)
 have z : xs.length ≤ 100000 := z
 have ep : (slicePick us.toArray lo hi none).toList = (us.drop a).take (b - a) := by
  rw [kmk_pick_nat _ (a := a) (b := b) (by rw [List.size_toArray, ← hus.len]; exact hb)]
 refine cC <| I6.newI (a := f7.heap.objs.size + 1) (tk := f7.toks) (ob := { cls := .type "list", data := .seq (slicePick us.toArray lo hi none) }) (Nat.le_succ _) (Value.ref (f7.heap.objs.size + 1)) Q E (fun s' k' W1 => ?_)
  fun m news F N hk => P6 F N (isL g) pl pu (fun h' F' N' => hk h' F' N') (by rw [List.size_toArray, ← hus.len, sizeLine_eq]; omega)
 refine hq _ _ s' (((c0.trans f6).trans m5).trans (Gam.le_imm ..)) k' ?_ ((b9.trans e7).trans (n8.trans W1))
 have := Ok.newL (a := f7.heap.objs.size + 1) (n := 0) n9 ((hus.drop a).take (b - a)) (by show _ ≤ 100000; rw [List.length_take, List.length_drop]; omega)
 rw [← ep] at this
 simpa using this
end
noncomputable def D3 : List (Str × V) -> Str -> V -> List (Str × V)
 | [], x, v => [(x, v)]
 | (y, u) :: r, x, v => bif y == x then (y, v) :: r else (y, u) :: D3 r x v
noncomputable def okV : V -> Bool
 | .val _ => false
 | _ => true
section
variable {w : World} {X : Cf} {G : Gam} {σ σ' σ'' : St} {s : Shared}
theorem cT {P : Params} {es : List (Str × V)} {des : List DictEntry} (h : d9 (RE P G) es des) {x : Str} {v : V} (e : es.lookup x = some v) : ∃ u, getL x des = some (some u) ∧ RV P G v u := by
 induction h with
 | nil => cases e
 | @cons a b as bs h _ ih =>
  obtain ⟨y, v'⟩ := a
  obtain ⟨k, u, rfl, hv⟩ := h
  rw [List.lookup_cons] at e
  by_cases q : x = y
  · subst q
    rw [beq_self_eq_true] at e
    cases e
    exact ⟨u, by simp [getL, Value.isStr], hv⟩
  · rw [nB q] at e
    obtain ⟨u', h1, h2⟩ := ih e
    refine ⟨u', ?_, h2⟩
    have q' : (y == x) = false := nB (Ne.symm q)
    have f : List.find? (fun e : DictEntry => e.key.isStr x) (⟨PyData.keyHash P y, .str y k, u⟩ :: bs) = List.find? (fun e : DictEntry => e.key.isStr x) bs := by
     rw [List.find?_cons]
     show (match (y == x) with | true => _ | false => _) = _
     rw [q']
    unfold getL at h1 ⊢
    rw [f]
    split at h1
    · exact h1
    · split at h1 <;> cases h1
theorem Y7 {P : Params} {es : List (Str × V)} {des : List DictEntry} (h : d9 (RE P G) es des) : (des.any (·.refKey)) = false := by
 induction h with
 | nil => rfl
 | cons h _ ih => obtain ⟨k, u, rfl, hv⟩ := h; rw [List.any_cons, ih]; rfl
theorem dS {P : Params} {es : List (Str × V)} {des : List DictEntry} (h : d9 (RE P G) es des) {x : Str} : (getL x des).isSome = true := by
 unfold getL
 rw [Y7 h]
 split <;> rfl
theorem Q2 {P : Params} {es : List (Str × V)} {des : List DictEntry} (h : d9 (RE P G) es des) {x : Str} (e : es.lookup x = none) : getL x des = some none := by
 have f : des.find? (fun e : DictEntry => e.key.isStr x) = none := by
  induction h with
  | nil => rfl
  | @cons a b as bs h _ ih =>
   obtain ⟨y, v'⟩ := a
   obtain ⟨k, u, rfl, hv⟩ := h
   rw [List.lookup_cons] at e
   by_cases q : x = y
   · subst q; rw [beq_self_eq_true] at e; cases e
   · rw [nB q] at e
     rw [List.find?_cons]
     show (match (y == x) with | true => _ | false => _) = _
     rw [nB (Ne.symm q)]; exact ih e
 unfold getL
 rw [f, Y7 h]; rfl
theorem ck {P : Params} {es : List (Str × V)} {des : List DictEntry} (h : d9 (RE P G) es des) {x : Str} {v : V} {u : Value} {k : Tok} (hv : RV P G v u) : d9 (RE P G) (D3 es x v) (putL x (PyData.keyHash P x) (.str x k) u des) := by
 induction h with
 | nil => exact .cons ⟨k, u, rfl, hv⟩ .nil
 | @cons a b as bs h hs ih =>
  obtain ⟨y, v'⟩ := a
  obtain ⟨k', u', rfl, hv'⟩ := h
  unfold D3 putL
  show d9 _ _ (if (y == x) = true then _ else _)
  cases q : (y == x) with
  | true => rw [if_pos rfl]; exact .cons ⟨k', u, rfl, hv⟩ hs
  | false => rw [if_neg (by decide)]; exact .cons ⟨k', u', rfl, hv'⟩ ih
theorem K8 {P : Params} {v : V} {u : Value} (h : RV P G v u) (e : okV v = true) : handedIn u = true := by
 cases v with
 | none => cases h; rfl
 | bool b => cases h; rfl
 | int n => obtain ⟨_, rfl⟩ := h; rfl
 | str n => obtain ⟨_, rfl⟩ := h; rfl
 | byt n => obtain ⟨_, _, rfl, _⟩ := h; rfl
 | ref n => obtain ⟨_, _, rfl⟩ := h; rfl
 | val c => cases e
 | lam n => obtain ⟨_, _, rfl, _⟩ := h; rfl
 | tup n => obtain ⟨_, _, _, rfl, _⟩ := h; rfl
 | lst n => obtain ⟨_, _, _, rfl, _⟩ := h; rfl
 | dct n m => obtain ⟨_, _, _, rfl, _⟩ := h; rfl
 | rng x y z => obtain ⟨_, _, _, _, rfl, _⟩ := h; rfl
noncomputable def n4 : Expr -> Bool
 | .ListComp .. => false
 | .SetComp .. => false
 | .DictComp .. => false
 | _ => true
theorem v8 {value : Expr} {t : Option Expr} {line : Nat} {env : Env} (h : n4 value = true) : swapsWith value t line env = pure false := by
 cases value <;> first | rfl | cases h
theorem cb {value t : Expr} {line : Nat} {env : Env} (h : n4 value = true) : swapsWithSole [t] value line env = pure false := by
 unfold swapsWithSole; exact v8 h
noncomputable def i7 : Expr -> Bool
 | .Starred .. => false
 | _ => true
theorem g0 {e : Expr} {es : List Expr} {env : Env} (h : i7 e = true) : starEach (e :: es) env = (false, eval e env) :: starEach es env := by
 cases e <;> first | rfl | cases h
theorem p6 {env : Env} {pos : Pos} : ∀ {es : List Expr}, es.all i7 = true -> (backTo pos (starEach es env)).any (·.1) = false
 | [], _ => rfl
 | e :: es, h => by
  rw [List.all_cons, Bool.and_eq_true] at h
  rw [g0 h.1]
  show (false || (backTo pos (starEach es env)).any (·.1)) = false
  rw [p6 h.2]; rfl
noncomputable def l9 : Expr -> Bool
 | .Call .. => false
 | _ => true
theorem dw {o : Expr} {attr : Str} {env : Env} {whole : Sem Value} (h : l9 o = true) : attributeBase o attr env whole = whole := by
 cases o <;> first | rfl | cases h
theorem oa {value : Expr} {attr : Str} {pos : Pos} {env : Env} (h : l9 value = true) : eval (.Attribute value attr pos) env = (do
 let o ← eval value env
 standAt pos.atName
 let r ← holding [o] (getAttr o attr true)
 letTemporaryGo value o r
 pure r) := by rw [arm_eval_Attribute, dw h]
theorem zA {es : List Expr} {env : Env} {pos : Pos} (h : es.all i7 = true) (hn : Nat.ble es.length 29 = true) : methodCallForm (es.length + ([] : List Keyword).length) (backTo pos (starEach es env)) (backToKw pos (keywordEach [] env)) = true := by
 have hn := bL hn
 unfold methodCallForm
 have h1 : (backTo pos (starEach es env)).all (!·.1) = true := by
  rw [List.all_eq_not_any_not]
  simpa using p6 (env := env) (pos := pos) h
 have h2 : backToKw pos (keywordEach [] env) = [] := rfl
 rw [h1, h2]
 simp
 lia
theorem J4 {o : Expr} {name : Str} {apos pos : Pos} {es : List Expr} {env : Env} (ho : l9 o = true) (h : es.all i7 = true) (hn : Nat.ble es.length 29 = true) (hp : (apos.endLine == pos.line) = true) : eval (.Call (.Attribute o name apos) es [] pos) env = (do
 let ov ← eval o env
 standAt apos.atName
 let (f, first) ← holding [ov] (getMethod ov name (do return (← importBound o env).getD true))
 callWith pos f first (backTo pos (starEach es env)) []) := by
 rw [arm_eval_Call, dw ho]
 unfold methodCall
 rw [zA h hn]
 unfold calleeOf methodCallPos
 rw [hp]
 rfl
inductive JF (w : World) (G : Gam) (s : Shared) (l d : Nat) (C : Addr) (es : List (Str × V)) : Prop
 | mk (a ad : Addr) (sl : Array (Option Value)) (des : List DictEntry) (n : Nat) (k1 : G.ρ[l]? = some a) (k2 : G.ρ[d]? = some ad) (k3 : InstAt s.heap a ⟨.ref C, some ad, .plain, sl⟩ C (some (dictOf des n))) (k4 : d9 (RE w.params G) es des)
theorem Ok.inst {l d : Nat} {C : Addr} {es : List (Str × V)} (h : Ok w X G σ s) (ho : σ.hp[l]? = some (.inst C d)) (hd : σ.hp[d]? = some (.dict es)) : JF w G s l d C es := by
 obtain ⟨a, ob, k1, k2, ad, sl, k3, rfl⟩ := h.at ho
 obtain ⟨ad', od, k4, k5, des, n, rfl, k6⟩ := h.at hd
 obtain rfl : ad = ad' := by rw [k3] at k4; exact Option.some.inj k4
 exact ⟨a, ad, sl, des, n, k1, k3, ⟨k2, rfl, rfl, k5⟩, k6⟩
def H4 (P : Params) (C : Addr) (x : Str) : Prop := ∃ attr, plainGet (K P) C x = true ∧ hasDictIn (K P) C = true ∧ findIn (K P) (.ref C) x = some attr ∧ noGet (K P) attr = true
def X9 (P : Params) (C : Addr) (x : Str) : Prop := findIn (K P) (.ref C) "__setattr__" = some (some (.builtin "object.__setattr__")) ∧ plainOver (K P) C = true ∧ takerIn (K P) C x = some none ∧ hasDictIn (K P) C = true
def cu (P : Params) (C : Addr) (x : Str) (f : Addr) : Prop := plainGet (K P) C x = true ∧ findIn (K P) (.ref C) x = some (some (.ref f)) ∧ isFn (K P) (.ref f) = true ∧ keepIn (K P) (.ref f) = true
theorem M2 {l d : Nat} {C : Addr} {es : List (Str × V)} {x : Str} {v : V} {u : Value} (h : Ok w X G σ s) (hu : RV w.params G (.ref l) u) (ho : σ.hp[l]? = some (.inst C d)) (hd : σ.hp[d]? = some (.dict es)) (hl : es.lookup x = some v) (hg : H4 w.params C x) (hv : okV v = true) :
 Gp w X G σ s (getAttr u x true) v := fun Q E hq => by
 obtain ⟨a, ad, sl, des, n, k1, k2, I, k3⟩ := h.inst ho hd
 obtain ⟨a', h1, rfl⟩ := hu
 obtain rfl : a = a' := by rw [k1] at h1; exact Option.some.inj h1
 obtain ⟨attr, g1, g2, g3, g4⟩ := hg
 obtain ⟨u, hu, hr⟩ := cT k3 hl
 obtain ⟨m, obs, Cx, h1, h2, h3, hf, hc⟩ := id h
 exact get_own Cx.F Cx.X I g1 g2 g3 g4 hu (K8 hr hv) (hq G u _ (.refl G) h hr ⟨rfl, rfl, rfl⟩)
theorem Ev.attr {value : Expr} {x : Str} {pos : Pos} {l d : Nat} {C : Addr} {es : List (Str × V)} {v : V} (hv : Ev w X σ value (.ref l) σ') (ho : σ'.hp[l]? = some (.inst C d)) (hd : σ'.hp[d]? = some (.dict es)) (hl : es.lookup x = some v)
 (hg : H4 w.params C x) (hval : okV v = true) (hnc : l9 value = true) : Ev w X σ (.Attribute value x pos) v σ' := fun G s h Q E hq => by
 refine Jv (hv G s h _ _ fun b8 u a7 c0 k₁ hu b9 => ?_) (oa hnc)
 exact (M2 k₁ hu ho hd hl hg hval).gv Q E fun i6 u a8 f6 i9 hr e7 => hq i6 u a8 (c0.trans f6) i9 hr (b9.trans e7)
def As (w : World) (X : Cf) (σ : St) (t : Expr) (v : V) (σ' : St) : Prop := ∀ G s u, Ok w X G σ s -> RV w.params G v u -> ∀ Q E, (∀ G' s', Le G G' -> Ok w X G' σ' s' -> j3 s s' -> Q () s') -> wpC (mdl w) (tp X) (assign t (eX X) u) Q E s
theorem As.nm {x : Str} {v : V} {p : Pos} (hco : X.co = none) (hk : X.cs.kind = .function) (hx : X.cs.names.lookup x = some .local) : As w X σ (.Name x p) v (σ.put x v) := fun G s u h hv Q E hq =>
 cC (PyProof.Rows.assign_Name (h.put hv _ _ hco hk hx fun s' k e => hq G s' (.refl G) k e))
theorem K0 {l d : Nat} {C : Addr} {es : List (Str × V)} {x : Str} {v : V} {u uv : Value} (h : Ok w X G σ s) (hu : RV w.params G (.ref l) u) (hv : RV w.params G v uv) (ho : σ.hp[l]? = some (.inst C d)) (hd : σ.hp[d]? = some (.dict es)) (hs : X9 w.params C x) (hz : (D3 es x v).length ≤ 1000)
 (Q : Unit -> Shared -> Prop) (E : VP) (hq : ∀ s', Ok w X G ⟨σ.fr, σ.hp.set d (.dict (D3 es x v))⟩ s' -> j3 s s' -> Q () s') : wpAny (mdl w) (tp X) (setAttr u x uv) Q E s := by
 obtain ⟨a, ad, sl, des, n, k1, k2, I, k3⟩ := h.inst ho hd
 obtain ⟨a', h1, rfl⟩ := hu
 obtain rfl : a = a' := by rw [k1] at h1; exact Option.some.inj h1
 obtain ⟨s1, s2, s3, s4⟩ := hs
 have gd : s.heap.get? ad = some (dictOf des n) := I.dict
 refine h.upd (x := .dict es) (x' := .dict (D3 es x v)) (tk := s.toks + 2) k2 hd () Q E (fun _ => dictOf (putL x (PyData.keyHash w.params x) (.str x (s.toks + 1)) uv des) (putN x des n)) (fun ob _ => ⟨_, _, rfl, ck k3 hv⟩) hq fun m news news' ob hob g F N U hk => ?_
 rw [gd] at g
 cases g
 obtain ⟨m', obs, Cx, h1, h2, h3, hf, hc⟩ := id h
 refine set_dict F Cx.X N I rfl s1 s2 s3 s4 (dS k3) rfl U ?_ fun h' F' N' => hk h' F' N'
 rw [← (ck (k := s.toks + 1) k3 hv).len]; exact hz
theorem As.attr {o : Expr} {x : Str} {pos : Pos} {l d : Nat} {C : Addr} {es : List (Str × V)} {v : V} (ho' : Ev w X σ o (.ref l) σ') (ho : σ'.hp[l]? = some (.inst C d)) (hd : σ'.hp[d]? = some (.dict es)) (hs : X9 w.params C x) (hz : (D3 es x v).length ≤ 1000) :
 As w X σ (.Attribute o x pos) v ⟨σ'.fr, σ'.hp.set d (.dict (D3 es x v))⟩ := fun G s u h hv Q E hq => by
 rw [assign_Attribute]
 refine cB (cH (ho' G s h _ _ fun b8 ov a7 c0 k₁ hu b9 => ?_))
 refine cS (cB (cH ?_))
 refine cC (K0 k₁ hu (hv.mono c0) ho hd hs hz _ _ fun a8 i9 e7 => cC ?_)
 exact wpAny_release (hq b8 a8 c0 i9 (b9.trans e7))
theorem E1.assignA {o e : Expr} {x : Str} {p' pos : Pos} {v : V} (h : Ev w X σ e v σ') (hA : As w X σ' (.Attribute o x p') v σ'') (hs : n4 e = true) : E1 w X σ (.Assign [.Attribute o x p'] e pos) .next σ'' := fun G s k Q E hq => by
 rw [plainObj_exec_Assign_Attribute o x p' e pos (v8 hs)]
 refine cS (cB (h G s k _ _ fun b8 u a7 c0 k₁ hu b9 => cB (hA b8 a7 u k₁ hu _ _ fun i6 a8 f6 i9 e7 => cP ?_)))
 exact hq i6 .next a8 (c0.trans f6) i9 rfl (b9.trans e7)
theorem Ev.callN {k : Nat} {x : Str} {p pos : Pos} {f : Value} {e : Expr} {es : List Expr} {vs : List V} {v : V} {fr : List (Str × V)} {H H' : List O}
 (hf : Ev w X σ (.Name x p) (.val f) σ') (ha : Es w X σ' (e :: es) vs ⟨fr, H⟩) (hc : Cl w k f H vs v H') (hd : Rm X k)
 (hk : keepIn (K w.params) f = true ∨ (∃ id, f = .builtin id) ∨ ∃ T, f = .type T) (hst : (e :: es).all i7 = true) : Ev w X σ (.Call (.Name x p) (e :: es) [] pos) v ⟨fr, H'⟩ := fun G s h Q E hq => by
 refine jv (hf G s h _ _ fun b8 u a7 c0 b6 hu b9 => ?_) rfl
 cases hu
 rw [List.all_cons, Bool.and_eq_true] at hst
 have z := ha pos b8 a7 b6 (fun us a8 => wpC (mdl w) (tp X) (call f us) Q E a8) E fun i6 us a8 f6 f8 hus e7 => hc X fr _ a8 us hd f8 hus _ _ fun n9 u f7 m5 i8 hu n8 => hq n9 u f7 ((c0.trans f6).trans m5) i8 hu ((b9.trans e7).trans n8)
 rcases hk with hk | ⟨id, rfl⟩ | ⟨T, rfl⟩
 · refine ju (h₀ := s.heap) h.kin hk ?_ (g0 hst.1) (p6 hst.2)
   refine ha pos _ a7 b6 _ _ fun i6 us a8 f6 f8 hus e7 => ⟨f8.kin, ?_⟩
   rw [List.nil_append]
   exact hc X fr _ a8 us hd f8 hus _ _ fun n9 u f7 m5 i8 hu n8 => hq n9 u f7 ((c0.trans f6).trans m5) i8 hu ((b9.trans e7).trans n8)
 · exact R1 z (g0 hst.1) (p6 hst.2)
 · exact zQ z (g0 hst.1) (p6 hst.2)
theorem Ev.callN0 {k : Nat} {x : Str} {p pos : Pos} {f : Value} {v : V} {fr : List (Str × V)} {H H' : List O}
 (hf : Ev w X σ (.Name x p) (.val f) ⟨fr, H⟩) (hc : Cl w k f H [] v H') (hd : Rm X k)
 (hk : keepIn (K w.params) f = true ∨ (∃ id, f = .builtin id) ∨ ∃ T, f = .type T) : Ev w X σ (.Call (.Name x p) [] [] pos) v ⟨fr, H'⟩ := fun G s h Q E hq => by
 refine jv (hf G s h _ _ fun b8 u a7 c0 b6 hu b9 => ?_) rfl
 cases hu
 have z := hc X fr _ a7 [] hd b6 .nil Q E fun n9 u f7 m5 i8 hu n8 => hq n9 u f7 (c0.trans m5) i8 hu (b9.trans n8)
 rcases hk with hk | ⟨id, rfl⟩ | ⟨T, rfl⟩
 · exact dr b6.kin hk z
 · exact eE z
 · exact zR z
theorem Ev.meth {k l d : Nat} {C : Addr} {es' : List (Str × V)} {o : Expr} {name : Str} {apos pos : Pos} {f : Addr} {e : Expr} {es : List Expr} {vs : List V} {v : V} {fr : List (Str × V)} {H H' : List O}
 (hv : Ev w X σ o (.ref l) σ') (ho : σ'.hp[l]? = some (.inst C d)) (hdd : σ'.hp[d]? = some (.dict es')) (hl : es'.lookup name = none) (hm : cu w.params C name f)
 (ha : Es w X σ' (e :: es) vs ⟨fr, H⟩) (hc : Cl w k (.ref f) H (.ref l :: vs) v H') (hd : Rm X k) (hst : (e :: es).all i7 = true) (hnc : l9 o = true) (hn : Nat.ble (e :: es).length 29 = true) (hp : (apos.endLine == pos.line) = true) :
 Ev w X σ (.Call (.Attribute o name apos) (e :: es) [] pos) v ⟨fr, H'⟩ := fun G s h Q E hq => by
 refine v5 (hv G s h _ _ fun b8 u a7 c0 b6 hu b9 => ?_) (J4 hnc hst hn hp)
 obtain ⟨a, ad, sl, des, n, k1, k2, I, k3⟩ := b6.inst ho hdd
 obtain ⟨a', q1, rfl⟩ := hu
 obtain rfl : a = a' := by rw [k1] at q1; exact Option.some.inj q1
 obtain ⟨m1, m2, m3, m4⟩ := hm
 obtain ⟨m, obs, Cx, hh1, hh2, hh3, hf, hcc⟩ := id b6
 refine cC (method_inst Cx.F Cx.X I m1 m2 m3 (Q2 k3 hl) ?_)
 dsimp only
 rw [List.all_cons, Bool.and_eq_true] at hst
 refine ju (h₀ := s.heap) h.kin m4 ?_ (g0 hst.1) (p6 hst.2)
 exact ha pos _ a7 b6 _ _ fun i6 us a8 f6 f8 hus e7 => ⟨f8.kin, hc X fr _ a8 _ hd f8 (.cons ⟨a, f6.at k1, rfl⟩ hus) _ _ fun n9 u f7 m5 i8 hu n8 => hq n9 u f7 ((c0.trans f6).trans m5) i8 hu ((b9.trans e7).trans n8)⟩
theorem Ev.meth0 {k l d : Nat} {C : Addr} {es' : List (Str × V)} {o : Expr} {name : Str} {apos pos : Pos} {f : Addr} {v : V} {fr : List (Str × V)} {H H' : List O}
 (hv : Ev w X σ o (.ref l) ⟨fr, H⟩) (ho : H[l]? = some (.inst C d)) (hdd : H[d]? = some (.dict es')) (hl : es'.lookup name = none) (hm : cu w.params C name f)
 (hc : Cl w k (.ref f) H [.ref l] v H') (hd : Rm X k) (hnc : l9 o = true) (hp : (apos.endLine == pos.line) = true) :
 Ev w X σ (.Call (.Attribute o name apos) [] [] pos) v ⟨fr, H'⟩ := fun G s h Q E hq => by
 refine v5 (hv G s h _ _ fun b8 u a7 c0 b6 hu b9 => ?_) (J4 hnc rfl rfl hp)
 obtain ⟨a, ad, sl, des, n, k1, k2, I, k3⟩ := b6.inst ho hdd
 obtain ⟨a', q1, rfl⟩ := hu
 obtain rfl : a = a' := by rw [k1] at q1; exact Option.some.inj q1
 obtain ⟨m1, m2, m3, m4⟩ := hm
 obtain ⟨m, obs, Cx, hh1, hh2, hh3, hf, hcc⟩ := id b6
 refine cC (method_inst Cx.F Cx.X I m1 m2 m3 (Q2 k3 hl) ?_)
 dsimp only
 exact dr b6.kin m4 (hc X fr _ a7 _ hd b6 (.cons ⟨a, k1, rfl⟩ .nil) _ _ fun n9 u f7 m5 i8 hu n8 => hq n9 u f7 (c0.trans m5) i8 hu (b9.trans n8))
def jk (P : Params) (C f : Addr) : Prop := makesIn (K P) C = true ∧ findIn (K P) (.ref C) "__init__" = some (some (.ref f)) ∧ isFn (K P) (.ref f) = true
noncomputable def Cf.up (X : Cf) : Cf := { X with dp := X.dp + 1, un := X.un + 1 }
theorem eQ {C : Addr} {us : List Value} : (tp X).under (.builtin "type.__call__" ⟨.ref C :: us, []⟩) = tp X.up := by kernel_rfl
theorem Ok.unbump (h : Ok w X.up G σ s) : Ok w X G σ s := by
 obtain ⟨m, obs, C, h1, h2, h3, hf, hc⟩ := h
 exact ⟨m, obs, ⟨C.B, C.F, C.X, C.N, C.T, C.k⟩, h1, h2, h3, hf, hc⟩
theorem yJ {k : Nat} {C f : Addr} {H H' : List O} {vs : List V} (hC : jk w.params C f) (hc : Cc w k (.ref f) (H ++ [.dict [], .inst C H.length]) (.ref (H.length + 1) :: vs) .none H') : Cl w (k + 1) (.ref C) H vs (.ref (H.length + 1)) H' := fun X fr G s us hd h hus Q E hq => by
 obtain ⟨c1, c2, c3⟩ := hC
 obtain ⟨m, obs, Cx, h1, h2, h3, hf, hcc⟩ := id h
 refine jw Cx.F Cx.X Cx.N c1 c2 c3 fun x dx h' F' N' hlt hlt2 => ?_
 rw [eQ]
 have hne : dx ≠ x := Nat.ne_of_lt hlt2
 have old : ∀ p ∈ List.zip G.ρ obs ++ (G.κ ++ G.θ), p.1 < dx := hlt
 have nr : ∀ a, dx ≤ a -> a ∉ G.ρ := fun a ha hm => by
  obtain ⟨i, hi, ei⟩ := List.mem_iff_getElem.mp hm
  have hi' : i < obs.length := h1 ▸ hi
  have := old (G.ρ[i], obs[i]) (aL (List.mem_iff_getElem.mpr ⟨i, by rw [List.length_zip]; lia, by simp⟩))
  rw [ei] at this
  exact absurd this (Nat.not_lt.mpr ha)
 let G2 : Gam := ⟨G.κ, G.ρ ++ [dx, x], G.θ⟩
 have l2 : Le G G2 := ⟨fun _ h => h, ⟨[dx, x], rfl⟩, rfl⟩
 have hH : G.ρ.length = H.length := h.hlen
 have zz : List.zip (G.ρ ++ [dx, x]) (obs ++ [dictOf [] 0, instObj C dx]) = List.zip G.ρ obs ++ [(dx, dictOf [] 0), (x, instObj C dx)] := by
  rw [show G.ρ ++ [dx, x] = (G.ρ ++ [dx]) ++ [x] by simp, show obs ++ [dictOf [] 0, instObj C dx] = (obs ++ [dictOf [] 0]) ++ [instObj C dx] by simp, C4 (by simp [h1]), C4 h1]; simp
 have k2 : Ok w X.up G2 ⟨fr, H ++ [.dict [], .inst C H.length]⟩ { s with heap := h' } := by
  refine ⟨m, obs ++ [dictOf [] 0, instObj C dx], ⟨Cx.B, F', Cx.X, ?_, Cx.T, Cx.k⟩, by simp [G2, h1], ?_, ?_, hf.mono l2, hcc.mono l2⟩
  · show News X.h₀ X.L h' (List.zip (G.ρ ++ [dx, x]) (obs ++ [dictOf [] 0, instObj C dx]) ++ (G.κ ++ G.θ))
    rw [zz]
    intro p hp
    rcases aM hp with q | q
    · rcases aM q with q | q
      · exact N' p (.tail _ (.tail _ (aL q)))
      · rcases mC q with rfl | q
        · exact N' _ (.tail _ (.head _))
        · rw [nM q]; exact N' _ (.head _)
    · exact N' p (.tail _ (.tail _ (aR q)))
  · refine ⟨?_, fun p hp hm => ?_, fun p hp hm => ?_, h2.kt⟩
    · refine List.nodup_append.mpr ⟨h2.nd, by simp [hne], fun a ha b hb e => ?_⟩
      subst e
      rcases mC hb with rfl | hb
      · exact nr _ (Nat.le_refl _) ha
      · rw [nM hb] at ha; exact nr _ (Nat.le_of_lt hlt2) ha
    · have hlt' := old p (aR (aL hp))
      rcases aM hm with q | q
      · exact h2.kr p hp q
      · rcases mC q with q | q
        · exact absurd hlt' (q ▸ Nat.lt_irrefl _)
        · rw [nM q] at hlt'; exact absurd hlt' (Nat.not_lt.mpr (Nat.le_of_lt hlt2))
    · have hlt' := old p (aR (aR hp))
      rcases aM hm with q | q
      · exact h2.tr p hp q
      · rcases mC q with q | q
        · exact absurd hlt' (q ▸ Nat.lt_irrefl _)
        · rw [nM q] at hlt'; exact absurd hlt' (Nat.not_lt.mpr (Nat.le_of_lt hlt2))
  · refine (h3.imp fun _ _ h => h.mono l2).app (.cons ⟨[], 0, rfl, .nil⟩ (.cons ⟨dx, #[], ?_, rfl⟩ .nil))
    show (G.ρ ++ [dx, x])[H.length]? = some dx
    rw [← hH]; simp
 have hx : G2.ρ[H.length + 1]? = some x := by
  show (G.ρ ++ [dx, x])[H.length + 1]? = some x
  rw [← hH]; simp
 refine hc X.up fr G2 { s with heap := h' } (.ref x :: us) ⟨by have := hd.1; show X.dp + 1 + k < 900; lia, by have := hd.2.1; show X.un + 1 + 3 * k < 9000; lia, hd.2.2⟩ k2 (.cons ⟨x, hx, rfl⟩ (hus.imp fun _ _ h => h.mono l2)) _ fun n9 u f7 m5 i8 hu n8 => ?_
 cases hu
 exact ⟨rfl, hq n9 _ f7 (l2.trans m5) i8.unbump ⟨x, m5.at hx, rfl⟩ n8⟩
def Al (w : World) (X : Cf) (σ : St) (fs : List (Value -> Sem Unit)) (vs : List V) (σ' : St) : Prop := ∀ G s us, Ok w X G σ s -> d9 (RV w.params G) vs us -> ∀ Q E, (∀ G' s', Le G G' -> Ok w X G' σ' s' -> j3 s s' -> Q () s') -> wpC (mdl w) (tp X) (assignInOrder fs us) Q E s
theorem Al.nil : Al w X σ [] [] σ := fun G s us h hus Q E hq => by cases hus; exact cC (assignInOrder_nil (hq G s (.refl G) h (j3.refl s)))
theorem Al.cons {t : Expr} {fs : List (Value -> Sem Unit)} {v : V} {vs : List V} (h1 : As w X σ t v σ') (h2 : Al w X σ' fs vs σ'') : Al w X σ (assign t (eX X) :: fs) (v :: vs) σ'' := fun G s us h hus Q E hq => by
 cases hus with
 | cons hu hus =>
  refine aq (h1 G s _ h hu _ _ fun b8 a7 c0 k b9 => ?_)
  refine h2 _ a7 _ k (hus.imp fun _ _ h => h.mono c0) _ _ fun i6 a8 f6 i9 e7 => ?_
  exact hq i6 a8 (c0.trans f6) i9 (b9.trans e7)
theorem Al.bind {x : Str} {fs : List (Value -> Sem Unit)} {v : V} {vs : List V} (h2 : Al w X (σ.put x v) fs vs σ'') (hco : X.co = none) (hk : X.cs.kind = .function) (hx : X.cs.names.lookup x = some .local) : Al w X σ ((fun u => bindName (eX X) x u) :: fs) (v :: vs) σ'' := fun G s us h hus Q E hq => by
 cases hus with
 | cons hu hus =>
  refine aq (cC (wpAny_bindName (h.put hu _ _ hco hk hx fun a7 k b9 => ?_)))
  exact h2 _ a7 _ k hus _ _ fun i6 a8 f6 i9 e7 => hq i6 a8 f6 i9 (b9.trans e7)
theorem Ok.grow {h' : Heap} {tk : Nat} (h : Ok w X G σ s) (he : Heap.ExtBut s.heap.objs.size s.heap h') : Ok w X G σ { s with heap := h', toks := tk } := by
 obtain ⟨m, obs, C, h1, h2, h3, hf, hc⟩ := h
 exact ⟨m, obs, ⟨C.B, C.F.extBut he (Nat.le_refl _), C.X, C.N.extBut he (Nat.le_refl _), C.T, C.k⟩, h1, h2, h3, hf, hc⟩
theorem bN {ts : List Expr} {env : Env} : (assignEach ts env).length = ts.length := by
 induction ts with
 | nil => rfl
 | cons t ts ih => cases t <;> (show (assignEach ts env).length + 1 = ts.length + 1; rw [ih])
theorem N8 {t : Expr} {ts : List Expr} {env : Env} (h : i7 t = true) : assignEach (t :: ts) env = (false, assign t env) :: assignEach ts env := by
 cases t <;> first | rfl | cases h
theorem I0 {env : Env} : ∀ {ts : List Expr}, ts.all i7 = true -> (assignEach ts env).findIdx? (·.1) = none
 | [], _ => rfl
 | t :: ts, h => by
  rw [List.all_cons, Bool.and_eq_true] at h
  rw [N8 h.1, List.findIdx?_cons, I0 h.2]; rfl
theorem As.tup {ts : List Expr} {k : Nat} {pos : Pos} {vs : List V} (h : Al w X σ ((assignEach ts (eX X)).map (·.2)) vs σ') (hn : ts.length = vs.length) (hst : ts.all i7 = true) :
 As w X σ (.Tuple ts k pos) (.tup vs) σ' := fun G s u k' hu Q E hq => by
 obtain ⟨a, us, nn, rfl, g, hus, z⟩ := k'.tupAt hu
 refine nJ (items := us.toArray) rfl ⟨_, g, rfl, nn, rfl⟩ (by rw [bN, hn, hus.len, List.size_toArray]) (I0 hst) fun h' he => ?_
 exact h G _ us (k'.grow (tk := s.toks) he) hus _ _ fun G' s' l k2 e => hq G' s' l k2 e
theorem E1.assignT {ts : List Expr} {e : Expr} {v : V} {k : Nat} {tpos pos : Pos} (h : Ev w X σ e v σ') (hA : As w X σ' (.Tuple ts k tpos) v σ'') (hs : n4 e = true)
 (hw : swappedStores [.Tuple ts k tpos] e (eX X) = pure none) : E1 w X σ (.Assign [.Tuple ts k tpos] e pos) .next σ'' := fun G s k' Q E hq => by
 refine jy (h G s k' _ _ fun b8 u a7 c0 k₁ hu b9 => hA _ a7 u k₁ hu _ _ fun i6 a8 f6 i9 e7 => ?_) (cb hs) hw
 exact hq i6 .next a8 (c0.trans f6) i9 rfl (b9.trans e7)
theorem E1.assignS {ts : List Expr} {e : Expr} {vs : List V} {names : List Str} {k : Nat} {tpos pos : Pos} (h : Ev w X σ e (.tup vs) σ') (hA : Al w X σ' (names.reverse.map fun n => bindName (eX X) n) vs.reverse σ'') (hn : names.length = vs.length)
 (hs : n4 e = true) (hw : swappedStores [.Tuple ts k tpos] e (eX X) = pure (some names)) : E1 w X σ (.Assign [.Tuple ts k tpos] e pos) .next σ'' := fun G s k' Q E hq => by
 refine jz (h G s k' _ _ fun b8 u a7 c0 k₁ hu b9 => ?_) (cb hs) hw
 obtain ⟨a, us, nn, rfl, g, hus, z⟩ := k₁.tupAt hu
 have hz : names.length = us.toArray.size := by rw [hn, hus.len, List.size_toArray]
 rw [hz]
 refine cC (unpackItems_tuple rfl ⟨_, g, rfl, nn, rfl⟩ fun h' he => ?_)
 refine hA _ _ us.reverse (k₁.grow (tk := a7.toks) he) hus.rev _ _ fun i6 a8 f6 i9 e7 => ?_
 exact hq i6 .next a8 (c0.trans f6) i9 rfl (b9.trans e7)
end
noncomputable def D2 (a b c : Int) : List V := (List.range (Builtin.Range.rangeSize a b c).toNat).map fun (i : Nat) => V.int (a + (i : Int) * c)
def u9 (v : V) : Option (List V) := match v with
 | .lst xs => some xs
 | .tup xs => some xs
 | .rng a b c => bif Builtin.Range.small a b c && Nat.ble (Builtin.Range.rangeSize a b c).toNat big then some (D2 a b c) else none
 | .dct ks _ => bif Nat.ble ks.length big then some (ks.map .str) else none
 | _ => none
def iM (o : Obj) : Prop := ∃ n vs, o.cls = .type n ∧ o.data = .fields vs ∧ ["enumerate", "zip", "dict_itemiterator", "dict_reverseitemiterator", "odict_iterator", "itertools.zip_longest", "itertools.pairwise"].contains n = false
structure Src (w : World) (X : Cf) (G : Gam) (s : Shared) (xs : List V) (I : Addr) (h' : Heap) (fx : List (Addr × Obj)) (P : Nat -> Value -> Prop) (St : Nat -> Heap -> Prop) : Prop where
 new : I = s.heap.objs.size
 len : xs.length ≤ big
 fp : ∀ b ∈ I :: fx.map (·.1), b < h'.objs.size
 ext : ∀ b o, s.heap.get? b = some o -> h'.get? b = some o
 W : Walks PySem.Challenge.pw_rg0261_01 w (tp X) I (I :: fx.map (·.1)) [I] xs.length P St
 st : St 0 h'
 fx : ∀ p ∈ fx, h'.get? p.1 = some p.2 ∧ has w.params G p.1 p.2
 it : ∀ i h, St i h -> ∃ o, h.get? I = some o ∧ iM o
 val : ∀ i v x, P i v -> xs[i]? = some x -> RV w.params G x v
section
variable {w : World} {X : Cf} {G : Gam} {σ σ' σ'' : St} {s : Shared}
theorem Z1 {prog : Program} : ∀ {ks : List Str} {des : List DictEntry}, d9 (dk w.params) ks des -> Pairs (strKind prog w) des (List.zip ks (des.map (·.val)))
 | [], _, .nil => .nil
 | k :: ks, _, .cons (b := e) h hs => by
  obtain ⟨t, u, rfl⟩ := h
  refine .cons ?_ rfl (Z1 hs)
  show Value.isStrOf k (.str k t) = true
  simp [Value.isStrOf]
theorem mW {prog : Program} {ks : List Str} {des : List DictEntry} (h : d9 (dk w.params) ks des) : KeysOf (strKind prog w) des.toArray := by
 intro e he
 rw [List.mem_toArray] at he
 induction h with
 | nil => cases he
 | cons h _ ih =>
  rcases mC he with rfl | he
  · obtain ⟨t, u, rfl⟩ := h
    exact ⟨_, by show Value.isStrOf _ (.str _ t) = true; simp [Value.isStrOf], rfl⟩
  · exact ih he
theorem iV {h : Heap} {a : Addr} {o o' : Obj} (ha : a < h.objs.size) : ∀ b ∈ h.objs.size :: [(a, o)].map (·.1), b < (h.push o').objs.size := fun b hb => by
 rw [Heap.size_push]
 rcases mC hb with rfl | hb
 · exact Nat.lt_succ_self _
 · rw [nM hb]; exact Nat.lt_succ_of_lt ha
theorem aV {v : V} {xs : List V} {u : Value} (e : u9 v = some xs) (h : Ok w X G σ s) (hu : RV w.params G v u) (Q : VP) (E : VP)
 (hq : ∀ I h' fx P St, Src w X G s xs I h' fx P St -> Q (.ref I) { s with heap := h' }) : wpAny (mdl w) (tp X) (pyIter u) Q E s := by
 cases v with
 | lst ys =>
  rw [Option.some.inj e] at hu
  obtain ⟨a, us, n, rfl, g, r, z⟩ := hu
  have g' := h.hasAt g
  have hne : a ≠ s.heap.objs.size := Nat.ne_of_lt (Heap.lt_size g')
  refine wpAny_pyIter_list (isL g') (hq _ _ [(a, listOf us.toArray n)] (fun i v => us.toArray[i]? = some v) (fun i h => h.IsListIter s.heap.objs.size a i ∧ h.IsList a us.toArray) ⟨rfl, ?len, ?fp, fun b o e => Heap.get?_push_of_some _ e, ?_, ⟨⟨_, Heap.get?_push_size _ rfl, rfl, rfl⟩, (isL g').push _⟩, fun p hp => ?_, fun i h st => ?_, fun i v x hv hx => ?_⟩)
  case len => exact z
  case fp => exact iV (Heap.lt_size g')
  · have W := Walks.list (prog := PySem.Challenge.pw_rg0261_01) (w := w) (A := tp X) rfl s.heap.objs.size a hne us.toArray
    have hl : us.toArray.size = xs.length := by rw [List.size_toArray, r.all.len]
    rw [hl] at W
    exact W
  · rw [nM hp]; exact ⟨Heap.get?_push_of_some _ g', g⟩
  · obtain ⟨o, e1, e2, e3⟩ := st.1; exact ⟨o, e1, _, _, e2, e3, by decide +kernel⟩
  · obtain ⟨y, hy, ry⟩ := r.all.get hx
    have hv : us.toArray[i]? = some v := hv
    rw [List.getElem?_toArray, hy] at hv; cases hv; exact ry
 | tup ys =>
  rw [Option.some.inj e] at hu
  obtain ⟨a, us, n, rfl, g, r, z⟩ := hu
  have g' := h.hasAt g
  have hne : a ≠ s.heap.objs.size := Nat.ne_of_lt (Heap.lt_size g')
  refine wpAny_pyIter_tuple (O9 g') (hq _ _ [(a, C9 us n)] (fun i v => us.toArray[i]? = some v) (fun i h => h.IsTupleIter s.heap.objs.size a i ∧ h.IsTuple a us.toArray) ⟨rfl, ?len, ?fp, fun b o e => Heap.get?_push_of_some _ e, ?_, ⟨⟨_, Heap.get?_push_size _ rfl, rfl, rfl⟩, (O9 g').push _⟩, fun p hp => ?_, fun i h st => ?_, fun i v x hv hx => ?_⟩)
  case len => exact z
  case fp => exact iV (Heap.lt_size g')
  · have W := Walks.tuple (prog := PySem.Challenge.pw_rg0261_01) (w := w) (A := tp X) rfl s.heap.objs.size a hne us.toArray
    have hl : us.toArray.size = xs.length := by rw [List.size_toArray, r.all.len]
    rw [hl] at W
    exact W
  · rw [nM hp]; exact ⟨Heap.get?_push_of_some _ g', g⟩
  · obtain ⟨o, e1, e2, e3⟩ := st.1; exact ⟨o, e1, _, _, e2, e3, by decide +kernel⟩
  · obtain ⟨y, hy, ry⟩ := r.all.get hx
    have hv : us.toArray[i]? = some v := hv
    rw [List.getElem?_toArray, hy] at hv; cases hv; exact ry
 | rng a b c =>
  · refine i5 e fun hs' e => a9 (i0 hs') fun hs hz => ?_
    rw [← Option.some.inj e] at hq
    obtain ⟨r, t, t', t'', rfl, g⟩ := hu
    have g' := h.hasAt g
    have hlen : (D2 a b c).length = (Builtin.Range.rangeSize a b c).toNat := by simp [D2]
    refine wpAny_pyIter_range (show IsRange s.heap r a b c t t' t'' from g') hs (hq _ _ [] (fun i v => ∃ t, v = .int (a + i * c) t) (fun i h => IsRangeIter h s.heap.objs.size (a + (i : Nat) * c) ((((Builtin.Range.rangeSize a b c).toNat : Nat) : Int) - (i : Nat)) c) ⟨rfl, ?len, ?fp, fun b o e => Heap.get?_push_of_some _ e, by rw [hlen]; exact Walks.range rfl s.heap.objs.size a c _, ?_, (fun p hp => by cases hp), fun i h st => ?_, fun i v x hv hx => ?_⟩)
    case len => rw [hlen]; exact bL hz
    case fp => intro b hb; rw [nM hb]; show _ < (s.heap.push _).objs.size; rw [Heap.size_push]; exact Nat.lt_succ_self _
    · show IsRangeIter _ _ _ _ _
      have hnn : 0 ≤ Builtin.Range.rangeSize a b c := by
       unfold Builtin.Range.rangeSize
       split
       · split
         · have := Int.ediv_nonneg (a := b - a - 1) (b := c) (by lia) (by lia); lia
         · lia
       · split
         · have := Int.ediv_nonneg (a := a - b - 1) (b := -c) (by lia) (by lia); lia
         · lia
      rw [Int.toNat_of_nonneg hnn]
      simpa using Heap.get?_push_size _ rfl
    · have st' : h.get? _ = some _ := st
      exact ⟨_, st', _, _, rfl, rfl, by decide +kernel⟩
    · obtain ⟨t3, rfl⟩ := hv
      unfold D2 at hx
      rw [List.getElem?_map] at hx
      cases hr : (List.range (Builtin.Range.rangeSize a b c).toNat)[i]? with
      | none => rw [hr] at hx; cases hx
      | some j =>
       rw [hr] at hx; cases hx
       have : j = i := by
        rw [List.getElem?_range] at hr
        · exact (Option.some.inj hr).symm
        · rcases Nat.lt_or_ge i (Builtin.Range.rangeSize a b c).toNat with q | q
          · exact q
          · rw [List.getElem?_eq_none (by simpa using q)] at hr; cases hr
       subst this
       exact ⟨t3, rfl⟩
 | dct ks ys =>
  refine i5 e fun hz' e => ?_
  rw [← Option.some.inj e] at hq
  obtain ⟨a, des, n, rfl, g, r1, r2, r3, r4⟩ := hu
  have g' := h.hasAt g
  have hne : a ≠ s.heap.objs.size := Nat.ne_of_lt (Heap.lt_size g')
  have hz : (List.zip ks (des.map (·.val))).map (·.1) = ks := by
   rw [List.map_fst_zip]
   rw [List.length_map, ← r1.len]; exact Nat.le_refl _
  have hd : s.heap.DictAt (strKind PySem.Challenge.pw_rg0261_01 w) a (List.zip ks (des.map (·.val))) n := ⟨_, _, g', ⟨rfl, rfl, rfl⟩, rfl, mW r1, Z1 r1, by rw [hz]; exact r4⟩
  have hlen : (List.zip ks (des.map (·.val))).length = (ks.map V.str).length := by rw [List.length_zip, List.length_map, List.length_map, ← r1.len, Nat.min_self]
  refine wpAny_pyIter_dict r3 hd (hq _ _ [(a, dictOf des n)] (fun i v => ∃ k x, (List.zip ks (des.map (·.val)))[i]? = some (k, x) ∧ (strKind PySem.Challenge.pw_rg0261_01 w).is k v = true) (fun i h => h.IsKeyIter s.heap.objs.size a i (List.zip ks (des.map (·.val))).length n ∧ h.DictAt (strKind PySem.Challenge.pw_rg0261_01 w) a (List.zip ks (des.map (·.val))) n) ⟨rfl, ?len, ?fp, fun b o e => Heap.get?_push_of_some _ e, ?_, ⟨⟨_, Heap.get?_push_size _ rfl, rfl, rfl⟩, hd.at' fun o e => Heap.get?_push_of_some _ e⟩, fun p hp => ?_, fun i h st => ?_, fun i v x hv hx => ?_⟩)
  case len => rw [List.length_map]; exact bL hz'
  case fp => exact iV (Heap.lt_size g')
  · have W := Walks.dictKeys (prog := PySem.Challenge.pw_rg0261_01) (w := w) (knd := strKind _ w) (A := tp X) rfl s.heap.objs.size a hne (List.zip ks (des.map (·.val))) n
    rw [hlen] at W
    rw [← hlen]; rw [hlen]
    exact W
  · rw [nM hp]; exact ⟨Heap.get?_push_of_some _ g', g⟩
  · obtain ⟨o, e1, e2, e3⟩ := st.1; exact ⟨o, e1, _, _, e2, e3, by decide +kernel⟩
  · obtain ⟨k, y, h1, h2⟩ := hv
    have h2' : Value.isStrOf k v = true := h2
    obtain ⟨t, rfl⟩ := Value.isStrOf_shape h2'
    rw [List.getElem?_zip_eq_some] at h1
    rw [List.getElem?_map, h1.1] at hx
    cases hx
    exact ⟨t, rfl⟩
 | _ => cases e
end
noncomputable def Gam.hid (G : Gam) (I : Addr) (o : Obj) : Gam := ⟨G.κ, G.ρ, (I, o) :: G.θ⟩
noncomputable def Gam.low (G : Gam) (θ : List (Addr × Obj)) : Gam := ⟨G.κ, G.ρ, θ⟩
section
variable {w : World} {X : Cf} {G : Gam} {σ σ' σ'' : St} {s : Shared}
theorem Gam.lk_low (G : Gam) (θ : List (Addr × Obj)) : Lk G (G.low θ) := ⟨fun _ h => h, ⟨[], (List.append_nil _).symm⟩⟩
theorem Gam.lk_hid (G : Gam) (I : Addr) (o : Obj) : Lk G (G.hid I o) := ⟨fun _ h => h, ⟨[], (List.append_nil _).symm⟩⟩
theorem Frm.none2 {P : Params} {G G' : Gam} {fr : List (Str × V)} {m : Str -> Option Value} (hco : X.co = none) (l : Lk G G') (h : Frm P X G fr m) : Frm P X G' fr m := by
 unfold Frm at h ⊢
 rw [hco] at h ⊢
 exact h.mono2 l
theorem Ok.hide {I : Addr} {o : Obj} (h : Ok w X G σ s) (hco : X.co = none) (hI0 : X.h₀.get? I = none) (hL : I ≠ X.L) (f1 : I ∉ G.ρ) (f2 : ∀ p ∈ G.κ, p.1 ≠ I) (ho : s.heap.get? I = some o) : Ok w X (G.hid I o) σ s := by
 obtain ⟨m, obs, C, h1, h2, h3, hf, hc⟩ := h
 have l : Lk G (G.hid I o) := ⟨fun _ h => h, ⟨[], (List.append_nil _).symm⟩⟩
 refine ⟨m, obs, ⟨C.B, C.F, C.X, fun p hp => ?_, C.T, C.k⟩, h1, ⟨h2.nd, h2.kr, fun p hp => ?_, fun p hp q hq => ?_⟩, h3.imp fun _ _ h => h.mono2 l, hf.none2 hco l, hc.mono2 l⟩
 · rcases aM hp with q | q
   · exact C.N p (aL q)
   · rcases aM q with q | q
     · exact C.N p (aR (aL q))
     · rcases mC q with rfl | q
       · exact ⟨ho, hL, hI0⟩
       · exact C.N p (aR (aR q))
 · rcases mC hp with rfl | hp
   · exact f1
   · exact h2.tr p hp
 · rcases mC hq with rfl | hq
   · exact f2 p hp
   · exact h2.kt p hp q hq
theorem Ok.bare {I : Addr} {o : Obj} {θ : List (Addr × Obj)} (h : Ok w X G σ s) (e : G.θ = (I, o) :: θ) (hco : X.co = none) : Ok w X (G.low θ) σ s ∧ s.heap.get? I = some o ∧ X.h₀.get? I = none ∧ I ≠ X.L ∧ I ∉ G.ρ ∧ ∀ p ∈ G.κ, p.1 ≠ I := by
 obtain ⟨m, obs, C, h1, h2, h3, hf, hc⟩ := h
 have hm : (I, o) ∈ G.θ := by rw [e]; exact .head _
 have z := C.N (I, o) (aR (aR hm))
 have l := G.lk_low θ
 refine ⟨⟨m, obs, ⟨C.B, C.F, C.X, fun p hp => C.N p ?_, C.T, C.k⟩, h1, ⟨h2.nd, h2.kr, fun p hp => h2.tr p ?_, fun p hp q hq => h2.kt p hp q ?_⟩, h3.imp fun _ _ h => h.mono2 l, hf.none2 hco l, hc.mono2 l⟩, z.1, z.2.2, z.2.1, h2.tr _ hm, fun p hp => h2.kt p hp _ hm⟩
 · rcases aM hp with q | q
   · exact aL q
   · rcases aM q with q | q
     · exact aR (aL q)
     · exact aR (aR (by rw [e]; exact .tail _ q))
 · rw [e]; exact .tail _ hp
 · rw [e]; exact .tail _ hq
theorem Ok.keepBut {I : Addr} {h' : Heap} {tk : Nat} (h : Ok w X G σ s) (hI0 : X.h₀.get? I = none) (hL : I ≠ X.L) (f1 : I ∉ G.ρ) (f2 : ∀ p ∈ G.κ, p.1 ≠ I) (f3 : ∀ p ∈ G.θ, p.1 ≠ I) (hk : ∀ b o, b ∉ [I] -> s.heap.get? b = some o -> h'.get? b = some o) : Ok w X G σ { s with heap := h', toks := tk } := by
 obtain ⟨m, obs, C, h1, h2, h3, hf, hc⟩ := h
 have hk' : ∀ b o, b ≠ I -> s.heap.get? b = some o -> h'.get? b = some o := fun b o q => hk b o (by simpa using q)
 refine ⟨m, obs, ⟨C.B, ⟨C.F.ns.at' fun o e => hk' _ o (Ne.symm hL) e, fun b o e => hk' b o (fun q => by rw [q, hI0] at e; cases e) (C.F.keep b o e), C.F.above⟩, C.X, fun p hp => ⟨hk' _ _ ?_ (C.N p hp).1, (C.N p hp).2⟩, C.T, C.k⟩, h1, h2, h3, hf, hc⟩
 rcases aM hp with q | q
 · exact fun e => f1 (e ▸ (List.of_mem_zip q).1)
 · rcases aM q with q | q
   · exact f2 p q
   · exact f3 p q
inductive Lp (w : World) (X : Cf) (t : Expr) (body : List Stmt) : List V -> St -> Fl -> St -> Prop
 | done {σ : St} : Lp w X t body [] σ .next σ
 | step {σ σ₁ σ₂ l6 : St} {vs : List V} {v : V} {f fl : Fl} : As w X σ t v σ₁ -> Ex w X σ₁ body f σ₂ -> (f = .next ∨ f = .cont) -> Lp w X t body vs σ₂ fl l6 -> Lp w X t body (v :: vs) σ fl l6
 | brk {σ σ₁ σ₂ : St} {vs : List V} {v : V} : As w X σ t v σ₁ -> Ex w X σ₁ body .brk σ₂ -> Lp w X t body (v :: vs) σ .next σ₂
 | ret {σ σ₁ σ₂ : St} {vs : List V} {v u : V} : As w X σ t v σ₁ -> Ex w X σ₁ body (.ret u) σ₂ -> Lp w X t body (v :: vs) σ (.ret u) σ₂
inductive LpC (w : World) (X : Cf) (t : Expr) (body : List Stmt) (v : V) (vs : List V) (σ : St) (fl : Fl) (σ'' : St) : Prop
 | mk (σ₁ σ₂ : St) (f : Fl) (hA : As w X σ t v σ₁) (hb : Ex w X σ₁ body f σ₂) (hc : ((f = .next ∨ f = .cont) ∧ Lp w X t body vs σ₂ fl σ'') ∨ ((f = .brk ∧ fl = .next ∨ ∃ u, f = .ret u ∧ fl = .ret u) ∧ σ'' = σ₂))
theorem Lp.inv {w : World} {X : Cf} {t : Expr} {body : List Stmt} {v : V} {vs : List V} {σ σ'' : St} {fl : Fl} (h : Lp w X t body (v :: vs) σ fl σ'') : LpC w X t body v vs σ fl σ'' := by
 cases h with
 | step hA hb hf hn => exact ⟨_, _, _, hA, hb, .inl ⟨hf, hn⟩⟩
 | brk hA hb => exact ⟨_, _, _, hA, hb, .inr ⟨.inl ⟨rfl, rfl⟩, rfl⟩⟩
 | ret hA hb => exact ⟨_, _, _, hA, hb, .inr ⟨.inr ⟨_, rfl, rfl⟩, rfl⟩⟩
theorem Lp.inv0 {w : World} {X : Cf} {t : Expr} {body : List Stmt} {σ σ'' : St} {fl : Fl} (h : Lp w X t body [] σ fl σ'') : fl = .next ∧ σ'' = σ := by
 cases h; exact ⟨rfl, rfl⟩
theorem Ok.newAt {I : Addr} (h : Ok w X G σ s) (e : I = s.heap.objs.size) : X.h₀.get? I = none ∧ I ≠ X.L := by
 cases h with
 | mk m obs C => rw [e]; exact ⟨next_is_new C.F, fun e => absurd C.F.ns.lt (e ▸ Nat.lt_irrefl _)⟩
theorem GB {t : Expr} {I : Addr} {v : Value} {o : Obj} (ho : s.heap.get? I = some o) (hg : iM o) {A : Around} (Q : Unit -> Shared -> Prop) (E : VP) (hq : Q () s) : wpAny (mdl w) A (letOwnedTupleGo t (.ref I) v) Q E s := by
 have k : wpAny (mdl w) A (letOwnedTupleGo (.List [] default) (.ref I) v) Q E s := by
  cases v with
  | ref a =>
   obtain ⟨n, vs, h1, h2, h3⟩ := hg
   cases o with
   | mk c d dt sl =>
    cases h1
    cases h2
    refine wpAny_bind (wpAny_loadPart ho (bm_if_false (by rw [h3, Bool.false_and]) (wpAny_pure hq)))
  | _ => exact wpAny_pure hq
 cases t with
 | Tuple => exact k
 | List => exact k
 | _ => exact wpAny_pure hq
theorem z0 {iter : Expr} {env : Env} {x : Value} (h : l8 iter = true) : foldedSetIterable iter env x = pure x := by
 have k : bif l8 iter then foldedSetIterable iter env x = pure x else True := by cases iter <;> first | exact True.intro | exact Eq.refl _
 rw [h] at k; exact k
inductive JG (w : World) (X : Cf) (t : Expr) (body : List Stmt) (xs : List V) (fl : Fl) (σ'' : Mine.St) (b8 : Gam) (I : Addr) (St : Nat -> Heap -> Prop) (s : Shared) (n : Nat) (s' : Shared) : Prop
 | mk (i : Nat) (G' : Gam) (o : Obj) (σi : Mine.St) (e : n = xs.length - i + 1) (h : i ≤ xs.length) (hl : Lp w X t body (xs.drop i) σi fl σ'') (l : Le b8 (G'.low b8.θ)) (t : G'.θ = (I, o) :: b8.θ) (k : Ok w X G' σi s') (st : St i s'.heap) (sm : j3 s s')
theorem E1.for {t iter : Expr} {body : List Stmt} {v : V} {xs : List V} {fl : Fl} {pos : Pos} (hco : X.co = none) (hi : Ev w X σ iter v σ') (hv : u9 v = some xs) (hp : Lp w X t body xs σ' fl σ'') (hn : l8 iter = true) : E1 w X σ (.For t iter body [] pos) fl σ'' := fun G s h Q E hq => by
 refine cFor (hi G s h _ _ fun b8 u a7 c0 b6 hu b9 => ?_) (fun x => z0 hn)
 refine cC (aV hv b6 hu _ _ fun I h' fx P St S => ?_)
 obtain ⟨f1, f2, f3⟩ := b6.fresh (a := I) (Nat.le_of_eq S.new.symm)
 obtain ⟨o0, ho0, hg0⟩ := S.it 0 _ S.st
 have k1 : Ok w X b8 σ' { a7 with heap := h', toks := a7.toks } := b6.ext S.ext
 have hI0 := (b6.newAt S.new).1
 have hL := (b6.newAt S.new).2
 have kh : Ok w X (b8.hid I o0) σ' { a7 with heap := h', toks := a7.toks } := k1.hide hco hI0 hL f1 f2 ho0
 refine kFor (JG w X t body xs fl σ'' b8 I St s) ?_ (xs.length - 0 + 1) ⟨0, b8.hid I o0, o0, σ', rfl, Nat.zero_le _, hp, ⟨fun _ h => h, ⟨[], (List.append_nil _).symm⟩, rfl⟩, rfl, kh, S.st, b9.trans ⟨rfl, rfl, rfl⟩⟩
 rintro n s' ⟨i, G', o, σi, rfl, hle, hL', lG, eθ, hO, hst, hS⟩
 obtain ⟨hB, hIo, b1, b2, b3, b4⟩ := hO.bare eθ hco
 have b5 : ∀ p ∈ (G'.low b8.θ).θ, p.1 ≠ I := f3
 have fxIn : ∀ (s2 : Shared) (G2 : Gam), Lk b8 G2 -> (∀ {a o}, has w.params G2 a o -> s2.heap.get? a = some o) -> ∀ p ∈ fx, s2.heap.get? p.1 = some p.2 := fun s2 G2 l hh p hp => hh ((S.fx p hp).2.mono2 l)
 have lG' : Lk b8 G' := ⟨fun p hp => lG.k p hp, lG.r⟩
 have go : ∀ {v : V} {Q' : Option Value -> Shared -> Prop} {E' : VP}, xs[i]? = some v →
  (∀ u s2 o2, RV w.params (G'.low b8.θ) v u -> Ok w X ((G'.low b8.θ).hid I o2) σi s2 -> s2.heap.get? I = some o2 -> iM o2 -> St (i + 1) s2.heap -> j3 s s2 -> Q' (some u) s2) -> wpAny (mdl w) (tp X) (pyNext (.ref I)) Q' E' s' := fun hx hq' => by
  have hlt : i < xs.length := (List.getElem?_eq_some_iff.mp hx).1
  refine S.W.item i s' _ _ hlt hst fun u h2 tk hP hst2 hk => ?_
  obtain ⟨o2, ho2, hg2⟩ := S.it _ _ hst2
  have z := hB.keepBut (tk := tk) b1 b2 b3 b4 b5 hk
  exact hq' u { s' with heap := h2, toks := tk } o2 ((S.val i u _ hP hx).mono lG) (z.hide hco b1 b2 b3 b4 ho2) ho2 hg2 hst2 (hS.trans ⟨rfl, rfl, rfl⟩)
 cases hd : xs.drop i with
 | nil =>
  rw [hd] at hL'
  rw [hL'.inv0.1, hL'.inv0.2] at hq
  have hi : i = xs.length := Nat.le_antisymm hle (List.drop_eq_nil_iff.mp hd)
  rw [hi] at hst
  refine cC (S.W.done s' _ _ hst fun h2 tk hk => cC ?_)
  refine wpAny_execs_nil (hq _ .next _ (c0.trans lG) (hB.keepBut (tk := tk) b1 b2 b3 b4 b5 hk) rfl (hS.trans ⟨rfl, rfl, rfl⟩))
 | cons v vs =>
  rw [hd] at hL'
  have hx : xs[i]? = some v := by rw [← List.head?_drop, hd]; rfl
  have hdr : xs.drop (i + 1) = vs := by rw [← List.tail_drop, hd]; rfl
  have hlt : i < xs.length := (List.getElem?_eq_some_iff.mp hx).1
  have after : ∀ {Gx G4 : Gam} {s2 s4 : Shared} {o2 : Obj} {σ4 : Mine.St}, Le ((G'.low b8.θ).hid I o2) G4 -> Ok w X G4 σ4 s4 -> s2.heap.get? I = some o2 -> (∀ {a o}, has w.params (G'.low b8.θ) a o -> s2.heap.get? a = some o) -> St (i + 1) s2.heap -> St (i + 1) s4.heap := fun l4 k4 hI2 hh2 st2 => by
   refine S.W.frame _ _ _ st2 fun b hb o e => ?_
   rcases mC hb with rfl | hb
   · obtain ⟨-, z, -⟩ := k4.bare (θ := b8.θ) (o := _) l4.t hco
     rw [hI2] at e; cases e; exact z
   · obtain ⟨p, hp, rfl⟩ := List.mem_map.mp hb
     have q := (S.fx p hp).2.mono lG
     rw [hh2 q] at e; cases e
     exact k4.hasAt (q.mono2 ⟨fun p hp => l4.k p hp, l4.r⟩)
  have lo : ∀ {G4 : Gam} {o2 : Obj}, Le ((G'.low b8.θ).hid I o2) G4 -> Le b8 (G4.low b8.θ) := fun l4 => ⟨fun p hp => l4.k p (lG.k p hp), by obtain ⟨τ, e⟩ := lG.r; obtain ⟨τ', e'⟩ := l4.r; exact ⟨τ ++ τ', (show _ = G'.ρ ++ τ' from e').trans (by rw [show G'.ρ = _ from e, List.append_assoc])⟩, rfl⟩
  have lv : ∀ {o2 : Obj} {x : V} {u : Value}, RV w.params (G'.low b8.θ) x u -> RV w.params ((G'.low b8.θ).hid I o2) x u := fun h => h.mono2 (Gam.lk_hid _ _ _)
  obtain ⟨σ₁, σ₂, f, hA, hb, hc⟩ := hL'.inv
  refine cC (go hx fun u s2 o2 hu k2 hI2 hg2 st2 e2 => cC (GB hI2 hg2 _ _ (hA _ s2 u k2 (lv hu) _ _ fun G3 s3 l3 k3 e3 => hb _ s3 k3 _ _ fun G4 f' s4 l4 k4 hf' e4 => ?_)))
  have l34 := l3.trans l4
  have e34 := (e2.trans e3).trans e4
  rcases hc with ⟨hf, hn2⟩ | ⟨hf, e⟩
  · have fin : ∃ m, m < xs.length - i + 1 ∧ JG w X t body xs fl σ'' b8 I St s m s4 :=
     ⟨_, by lia, i + 1, G4, o2, _, rfl, hlt, hdr ▸ hn2, lo l34, l34.t, k4, after (Gx := G4) l34 k4 hI2 (fun q => k2.hasAt (q.mono2 ⟨fun _ h => h, ⟨[], (List.append_nil _).symm⟩⟩)) st2, e34⟩
    rcases hf with rfl | rfl
    · cases hf'; exact fin
    · cases hf'; exact fin
  · have z := (k4.bare l34.t hco).1
    rw [← e] at z
    rcases hf with ⟨rfl, rfl⟩ | ⟨u, rfl, rfl⟩
    · cases hf'; exact hq _ .next s4 (c0.trans (lo l34)) z rfl e34
    · obtain ⟨u', rfl, hu'⟩ := hf'
      exact hq _ _ s4 (c0.trans (lo l34)) z ⟨u', rfl, hu'.mono2 (Gam.lk_low _ _)⟩ e34
end
noncomputable def clo (cells : List (Str × Addr)) : List (Str × NameKind) -> List (Str × Addr) -> Option (List (Str × Addr))
 | [], acc => some acc
 | (n, k) :: r, acc => bif k == .free then (match cells.lookup n with | some a => clo cells r ((n, a) :: acc) | none => none) else clo cells r acc
theorem C2 {env : Env} : ∀ {names : List (Str × NameKind)} {acc cl : List (Str × Addr)}, clo env.cells names acc = some cl →
 (forIn names acc fun (x : Str × NameKind) (cs : List (Str × Addr)) => (match x with | (name, kind) => if (kind == NameKind.free) = true then (do let y ← cellOf env name; pure (ForInStep.yield ((name, y) :: cs))) else pure (ForInStep.yield cs) : Sem (ForInStep (List (Str × Addr))))) = pure cl
 | [], acc, cl, h => by cases h; rfl
 | (n, k) :: r, acc, cl, h => by
  unfold clo at h
  rw [List.forIn_cons]
  cases hk : (k == NameKind.free) with
  | true =>
   rw [hk] at h
   dsimp only [cond_true] at h
   split at h
   · rename_i a ha
     simp only [hk, if_true]
     rw [show cellOf env n = pure a by unfold cellOf; rw [ha]]
     exact C2 h
   · cases h
  | false =>
   rw [hk] at h
   simp only [hk, Bool.false_eq_true, if_false]
   exact C2 h
theorem C1 {scope : Scope} {env : Env} {cl : List (Str × Addr)} (h : clo env.cells scope.names [] = some cl) : closureFor scope env = pure cl := by
 unfold closureFor
 have z := C2 h
 simp only
 rw [show (forIn scope.names ([] : List (Str × Addr)) fun (x : Str × NameKind) (r : List (Str × Addr)) => _) = _ from z]
 rfl
theorem x0 {cells : List (Str × Addr)} : ∀ {names : List (Str × NameKind)} {acc cl : List (Str × Addr)}, clo cells names acc = some cl -> (∀ x c, acc.lookup x = some c -> cells.lookup x = some c) -> ∀ x c, cl.lookup x = some c -> cells.lookup x = some c
 | [], acc, cl, h, ha => by cases h; exact ha
 | (n, k) :: r, acc, cl, h, ha => by
  unfold clo at h
  cases hk : (k == NameKind.free) with
  | true =>
   rw [hk] at h
   dsimp only [cond_true] at h
   split at h
   · rename_i a hn
     refine x0 h fun x c e => ?_
     by_cases q : x = n
     · subst q; rw [List.lookup_cons_self] at e; cases e; exact hn
     · rw [List.lookup_cons, nB q] at e; exact ha x c e
   · cases h
  | false => rw [hk] at h; exact x0 h ha
theorem E2 {cells : List (Str × Addr)} {x : Str} : ∀ {names : List (Str × NameKind)} {acc cl : List (Str × Addr)}, clo cells names acc = some cl -> (names.lookup x = some .free ∨ (acc.lookup x).isSome = true) -> (cl.lookup x).isSome = true
 | [], acc, cl, h, ha => by cases h; exact ha.elim (fun e => by cases e) id
 | (n, k) :: r, acc, cl, h, ha => by
  unfold clo at h
  cases hk : (k == NameKind.free) with
  | true =>
   rw [hk] at h
   dsimp only [cond_true] at h
   split at h
   · rename_i a hn
     refine E2 h ?_
     by_cases q : x = n
     · subst q; right; rw [List.lookup_cons_self]; rfl
     · rcases ha with e | e
       · left; rw [List.lookup_cons, nB q] at e; exact e
       · right; rw [List.lookup_cons, nB q]; exact e
   · cases h
  | false =>
   rw [hk] at h
   refine E2 h ?_
   rcases ha with e | e
   · by_cases q : x = n
     · subst q; rw [List.lookup_cons_self] at e; cases e; exact absurd hk (by decide)
     · left; rw [List.lookup_cons, nB q] at e; exact e
   · exact .inr e
noncomputable def Cf.comp (X : Cf) (scope : Scope) (cl : List (Str × Addr)) (cf : List (Str × V)) (C : Addr) (m : Str -> Option Value) : Cf := { X with co := some ⟨scope, C, cl, m⟩, cf := cf }
def Tq (w : World) (X : Cf) (σ : St) (ct : Option Expr) (b : Bool) (σ' : St) : Prop := match ct with
 | none => b = true ∧ σ' = σ
 | some e => Te w X σ e b σ'
inductive Cm (w : World) (X : Cf) (scope : Scope) (cl : List (Str × Addr)) (cf : List (Str × V)) (ct : Option Expr) (elt : Expr) (x : Str) : List V -> List O -> List V -> List O -> Prop
 | done {hp : List O} : Cm w X scope cl cf ct elt x [] hp [] hp
 | yes {v y : V} {vs ys : List V} {hp hp' : List O} {σ₁ σ₂ : St} : (∀ C m, Tq w (X.comp scope cl cf C m) ⟨[(x, v)], hp⟩ ct true σ₁) -> (∀ C m, Ev w (X.comp scope cl cf C m) σ₁ elt y σ₂) -> Cm w X scope cl cf ct elt x vs σ₂.hp ys hp' -> Cm w X scope cl cf ct elt x (v :: vs) hp (y :: ys) hp'
 | no {v : V} {vs ys : List V} {hp hp' : List O} {σ₁ : St} : (∀ C m, Tq w (X.comp scope cl cf C m) ⟨[(x, v)], hp⟩ ct false σ₁) -> Cm w X scope cl cf ct elt x vs σ₁.hp ys hp' -> Cm w X scope cl cf ct elt x (v :: vs) hp ys hp'
noncomputable def yS (G : Gam) (I : Addr) (oI : Obj) (C : Addr) (oC : Obj) (D : Addr) (oD : Obj) : Gam := ⟨G.κ, G.ρ, (I, oI) :: (C, oC) :: (D, oD) :: G.θ⟩
section
variable {w : World} {X : Cf} {G : Gam} {σ σ' σ'' : St} {s : Shared}
structure Led (w : World) (X : Cf) (m : Str -> Option Value) (fr : List (Str × V)) (G : Gam) (hp : List O) (obs : List Obj) : Prop where
 len : G.ρ.length = obs.length
 good : oy G
 hp : d9 (RO w.params G) hp obs
 rf : RF w.params G fr m
 cf : CF w.params X G
noncomputable def news (G : Gam) (obs : List Obj) : List (Addr × Obj) := List.zip G.ρ obs ++ (G.κ ++ G.θ)
theorem C5 {ρ : List Addr} {obs : List Obj} (h : ρ.length = obs.length) {a : Addr} (ha : a ∈ ρ) : ∃ o, (a, o) ∈ List.zip ρ obs := by
 obtain ⟨i, hi, rfl⟩ := List.mem_iff_getElem.mp ha
 exact ⟨obs[i]'(h ▸ hi), List.mem_iff_getElem.mpr ⟨i, by rw [List.length_zip]; lia, by simp⟩⟩
theorem nF {m : Str -> Option Value} {fr : List (Str × V)} {hp : List O} {obs : List Obj} {scope : Scope} {cl : List (Str × Addr)} {cf : List (Str × V)} {x : Str} {v : V} {u : Value} {I C D : Addr} {oI oC oD : Obj} {w0 : Str -> Option Value} {h : Heap} {tk : Nat}
 (B : Below X.A₀ X.base X.outer X.h₀) (XK : (K w.params).In X.h₀) (T : Top X.p X.loose X.mean X.mg X.mb X.h₀) (hk : X.cs.kind = .function)
 (Ld : Led w X m fr G hp obs) (hcf : CF w.params (X.comp scope cl cf C m) G) (hO : LCg.NsObj oC w0) (hv : w0 x = some u) (ru : RV w.params G v u) (F : Fr X.h₀ X.L h m) (N : News X.h₀ X.L h ((I, oI) :: (C, oC) :: (D, oD) :: news G obs)) (off : LCg.Off3 I C D (news G obs)) :
 Ok w (X.comp scope cl cf C m) (yS G I oI C oC D oD) ⟨[(x, v)], hp⟩ { s with heap := h, toks := tk } := by
 have l : Lk G (yS G I oI C oC D oD) := ⟨fun _ h => h, ⟨[], (List.append_nil _).symm⟩⟩
 have off := off.mem
 refine ⟨m, obs, ⟨B, F, XK, fun p hp => ?_, T, hk⟩, Ld.len, ⟨Ld.good.nd, Ld.good.kr, fun p hp hm => ?_, fun p hp q hq => ?_⟩, Ld.hp.imp fun _ _ h => h.mono2 l, ⟨rfl, oC, w0, .tail _ (.head _), hO, fun y v' e => ?_⟩, hcf.mono2 l⟩
 · rcases aM hp with q | q
   · exact N p (.tail _ (.tail _ (.tail _ (aL q))))
   · rcases aM q with q | q
     · exact N p (.tail _ (.tail _ (.tail _ (aR (aL q)))))
     · rcases mC q with rfl | q
       · exact N _ (.head _)
       · rcases mC q with rfl | q
         · exact N _ (.tail _ (.head _))
         · rcases mC q with rfl | q
           · exact N _ (.tail _ (.tail _ (.head _)))
           · exact N p (.tail _ (.tail _ (.tail _ (aR (aR q)))))
 · obtain ⟨o, ho⟩ := C5 Ld.len hm
   have z := off _ (aL ho)
   rcases mC hp with rfl | q
   · exact z.1 rfl
   · rcases mC q with rfl | q
     · exact z.2.1 rfl
     · rcases mC q with rfl | q
       · exact z.2.2 rfl
       · exact Ld.good.tr p q hm
 · have z := off p (aR (aL hp))
   rcases mC hq with rfl | q
   · exact z.1
   · rcases mC q with rfl | q
     · exact z.2.1
     · rcases mC q with rfl | q
       · exact z.2.2
       · exact Ld.good.kt p hp _ q
 · have e : List.lookup y [(x, v)] = some v' := e
   by_cases q : y = x
   · subst q; rw [List.lookup_cons_self] at e; cases e; exact ⟨u, hv, ru.mono2 l⟩
   · rw [List.lookup_cons, nB q] at e; cases e
theorem aj {m : Str -> Option Value} {fr : List (Str × V)} {hp : List O} {obs : List Obj} {scope : Scope} {cl : List (Str × Addr)} {cf : List (Str × V)} {I C D : Addr} {oI oC oD : Obj} {G4 : Gam} {σ4 : St} {s4 : Shared} (hco : X.co = none)
 (Ld : Led w X m fr G hp obs) (off : LCg.Off3 I C D (news G obs)) (l : Le (yS G I oI C oC D oD) G4) (k : Ok w (X.comp scope cl cf C m) G4 σ4 s4) :
 ∃ obs4, Fr X.h₀ X.L s4.heap m ∧ News X.h₀ X.L s4.heap ((I, oI) :: (C, oC) :: (D, oD) :: news (G4.low G.θ) obs4) ∧ LCg.Off3 I C D (news (G4.low G.θ) obs4) ∧ Le G (G4.low G.θ) ∧ Led w X m fr (G4.low G.θ) σ4.hp obs4 := by
 obtain ⟨m', obs4, Cx, h1, h2, h3, hf, hc⟩ := k
 obtain ⟨rfl, -⟩ : m' = m ∧ _ := hf
 have et : G4.θ = (I, oI) :: (C, oC) :: (D, oD) :: G.θ := l.t
 have lk : Lk G (G4.low G.θ) := ⟨fun p hp => l.k p hp, l.r⟩
 have off' := off.mem
 refine ⟨obs4, Cx.F, fun p hp => Cx.N p ?_, LCg.Off3.of fun p hp => ?_, ⟨lk.k, lk.r, rfl⟩, ⟨h1, ⟨h2.nd, h2.kr, fun p hp => h2.tr p ?_, fun p hp q hq => h2.kt p hp q ?_⟩, h3.imp fun _ _ h => h.mono2 (G4.lk_low _), Ld.rf.mono2 lk, Ld.cf.mono2 lk⟩⟩
 · rw [et]
   rcases mC hp with rfl | q
   · exact aR (aR (.head _))
   · rcases mC q with rfl | q
     · exact aR (aR (.tail _ (.head _)))
     · rcases mC q with rfl | q
       · exact aR (aR (.tail _ (.tail _ (.head _))))
       · rcases aM q with q | q
         · exact aL q
         · rcases aM q with q | q
           · exact aR (aL q)
           · exact aR (aR (.tail _ (.tail _ (.tail _ q))))
 · have tI : (I, oI) ∈ G4.θ := by rw [et]; exact .head _
   have tC : (C, oC) ∈ G4.θ := by rw [et]; exact .tail _ (.head _)
   have tD : (D, oD) ∈ G4.θ := by rw [et]; exact .tail _ (.tail _ (.head _))
   rcases aM hp with q | q
   · have q := (List.of_mem_zip q).1
     exact ⟨fun e => h2.tr _ tI (e ▸ q), fun e => h2.tr _ tC (e ▸ q), fun e => h2.tr _ tD (e ▸ q)⟩
   · rcases aM q with q | q
     · exact ⟨h2.kt p q _ tI, h2.kt p q _ tC, h2.kt p q _ tD⟩
     · exact off' p (aR (aR q))
 · rw [et]; exact .tail _ (.tail _ (.tail _ hp))
 · rw [et]; exact .tail _ (.tail _ (.tail _ hq))
def R4 (w : World) (X : Cf) (fx : List (Addr × Obj)) (nw : List (Addr × Obj)) : Prop := ∀ p ∈ fx, p ∈ nw ∨ X.h₀.get? p.1 = some p.2
theorem bY {fx : List (Addr × Obj)} {obs : List Obj} (XK : (K w.params).In X.h₀) (h : ∀ p ∈ fx, has w.params G p.1 p.2) : R4 w X fx (news G obs) := fun p hp => by
 rcases h p hp with q | q
 · exact .inl (aR (aL q))
 · exact .inr (XK _ _ q)
end
theorem Lk.trans {G G' G'' : Gam} (h : Lk G G') (k : Lk G' G'') : Lk G G'' := by
 obtain ⟨τ, e⟩ := h.r
 obtain ⟨τ', e'⟩ := k.r
 exact ⟨fun p q => k.k p (h.k p q), ⟨τ ++ τ', by rw [e', e, List.append_assoc]⟩⟩
theorem Lk.refl (G : Gam) : Lk G G := ⟨fun _ h => h, ⟨[], (List.append_nil _).symm⟩⟩
section
variable {w : World} {X : Cf} {G : Gam} {σ σ' σ'' : St} {s : Shared}
theorem J6 {scope : Scope} {cl : List (Str × Addr)} {cf : List (Str × V)} {C : Addr} {m : Str -> Option Value} (hco : X.co = none) : eX (X.comp scope cl cf C m) = compEnvC scope cl C (eX X) := by
 unfold eX; rw [hco]; rfl
theorem ch {a7 s4 : Shared} {h : Heap} {tk : Nat} (e : j3 { a7 with heap := h, toks := tk } s4) : s4 = { a7 with heap := s4.heap, toks := s4.toks } := by
 obtain ⟨e1, e2, e3⟩ := e
 cases s4; cases e1; cases e2; cases e3; rfl
theorem Tq.run {ct : Option Expr} {b : Bool} (h : Tq w X σ ct b σ') (k : Ok w X G σ s) (Q : Bool -> Shared -> Prop) (E : VP) (hq : ∀ G' s', Le G G' -> Ok w X G' σ' s' -> j3 s s' -> Q b s') : wpC (mdl w) (tp X) (J8 ct (eX X)) Q E s := by
 cases ct with
 | none => obtain ⟨rfl, rfl⟩ := h; exact cP (hq G s (.refl G) k (.refl s))
 | some c => exact h G s k Q E hq
theorem gY {m : Str -> Option Value} {fr : List (Str × V)} {scope : Scope} {cl : List (Str × Addr)} {cf : List (Str × V)} {x : Str} {ct : Option Expr} {elt : Expr} {xs : List V} {I₀ : Addr} {h' : Heap} {fx : List (Addr × Obj)} {P : Nat -> Value -> Prop} {St : Nat -> Heap -> Prop} {b8 : Gam} {a7 a8 : Shared}
 (hco : X.co = none) (B : Below X.A₀ X.base X.outer X.h₀) (XK : (K w.params).In X.h₀) (T : Top X.p X.loose X.mean X.mg X.mb X.h₀) (hk : X.cs.kind = .function) (S : Src w X b8 a7 xs I₀ h' fx P St) {Fin : List Value -> List (Addr × Obj) -> Prop} {hp' : List O} {Ys : List V} :
 ∀ (vs ys : List V) (i : Nat) (hp : List O) (G : Gam) (obs : List Obj) (done : List V) (us : List Value), vs = xs.drop i -> Cm w X scope cl cf ct elt x vs hp ys hp' -> Led w X m fr G hp obs -> Lk b8 G -> (∀ G', Lk G G' -> ∀ C m, CF w.params (X.comp scope cl cf C m) G') -> d9 (RV w.params G) done us →
  (∀ G' obs' us', Le G G' -> Led w X m fr G' hp' obs' -> d9 (RV w.params G') (done ++ ys) us' -> Fin us' (news G' obs')) →
  aO PySem.Challenge.pw_rg0261_01 w (tp X) X.h₀ X.L m (eX X) ct elt x scope cl a8 (R4 w X fx) P Fin vs.length i us (news G obs) := by
 intro vs
 induction vs with
 | nil =>
  intro ys i hp G obs done us hd hc Ld lG hcf hus fin
  cases hc
  exact fin G obs us (.refl G) Ld (by rw [List.append_nil]; exact hus)
 | cons v vs ih =>
  intro ys i hp G obs done us hd hc Ld lG hcf hus fin
  have hx : xs[i]? = some v := by rw [← List.head?_drop, ← hd]; rfl
  have hdr : vs = xs.drop (i + 1) := by rw [← List.tail_drop, ← hd]; rfl
  intro u I oI C oC D w0 h tk E' hP hO hm F N off ne
  have k := nF (s := a8) (tk := tk) B XK T hk Ld (hcf G (.refl G) C m) hO hm ((S.val i u v hP hx).mono2 lG) F N off
  rw [← J6 (cf := cf) (m := m) hco]
  cases hc with
  | yes ht he hc =>
   refine (ht C m).run k _ E' fun G3 s3 l3 k3 e3 => ?_
   rw [if_pos rfl]
   refine he C m _ _ k3 _ E' fun G4 y s4 l4 k4 hy e4 => ?_
   obtain ⟨obs4, F4, N4, off4, lG4, Ld4⟩ := aj hco Ld off (l3.trans l4) k4
   refine ⟨s4.heap, s4.toks, news (G4.low G.θ) obs4, ch (e3.trans e4), F4, N4, off4, bY XK fun p hp => ((S.fx p hp).2.mono2 lG).mono2 lG4.lk, ?_⟩
   exact ih _ (i + 1) _ (G4.low G.θ) obs4 (done ++ [_]) (us ++ [y]) hdr hc Ld4 (lG.trans lG4.lk) (fun G' l => hcf G' (lG4.lk.trans l)) ((hus.imp fun _ _ h => h.mono2 lG4.lk).snoc (hy.mono2 (Gam.lk_low _ _))) fun G' obs' us' l Ld' hus' => fin G' obs' us' (lG4.trans l) Ld' (by rw [List.append_assoc] at hus'; exact hus')
  | no ht hc =>
   refine (ht C m).run k _ E' fun G4 s4 l4 k4 e4 => ?_
   rw [if_neg (by decide)]
   obtain ⟨obs4, F4, N4, off4, lG4, Ld4⟩ := aj hco Ld off l4 k4
   refine ⟨s4.heap, s4.toks, news (G4.low G.θ) obs4, ch e4, F4, N4, off4, bY XK fun p hp => ((S.fx p hp).2.mono2 lG).mono2 lG4.lk, ?_⟩
   exact ih _ (i + 1) _ (G4.low G.θ) obs4 done us hdr hc Ld4 (lG.trans lG4.lk) (fun G' l => hcf G' (lG4.lk.trans l)) (hus.imp fun _ _ h => h.mono2 lG4.lk) fun G' obs' us' l Ld' hus' => fin G' obs' us' (lG4.trans l) Ld' hus'
theorem Cm.len {scope : Scope} {cl : List (Str × Addr)} {cf : List (Str × V)} {ct : Option Expr} {elt : Expr} {x : Str} {vs ys : List V} {hp hp' : List O} (h : Cm w X scope cl cf ct elt x vs hp ys hp') : ys.length ≤ vs.length := by
 induction h with
 | done => exact Nat.le_refl _
 | yes _ _ _ ih => exact Nat.succ_le_succ ih
 | no _ _ ih => exact Nat.le_succ_of_le ih
noncomputable def y7 (scope : Scope) (x : Str) : Bool := (scope.names.all fun y => decide (y.2 ≠ .cell)) && decide (scope.kind = .function) && (scope.names.all fun y => decide (y.2 = .local -> scope.names.lookup y.1 = some .local)) && decide (scope.names.lookup x = some .local)
theorem y7.all {scope : Scope} {x : Str} (h : y7 scope x = true) : (∀ y ∈ scope.names, y.2 ≠ .cell) ∧ scope.kind = .function ∧ (∀ y ∈ scope.names, y.2 = .local -> scope.names.lookup y.1 = some .local) ∧ scope.names.lookup x = some .local := by
 unfold y7 at h
 simp only [Bool.and_eq_true, decide_eq_true_eq] at h
 obtain ⟨⟨⟨h1, h2⟩, h3⟩, h4⟩ := h
 exact ⟨fun y hy => dO (List.all_eq_true.mp h1 y hy), h2, fun y hy => dO (List.all_eq_true.mp h3 y hy), h4⟩
theorem W4 {cells : List (Str × Addr)} : ∀ {names : List (Str × NameKind)} {acc : List (Str × Addr)}, (∀ y ∈ names, y.2 = .free -> (cells.lookup y.1).isSome = true) -> ∃ cl, clo cells names acc = some cl
 | [], acc, _ => ⟨acc, rfl⟩
 | (n, k) :: r, acc, h => by
  unfold clo
  cases hk : (k == NameKind.free) with
  | true =>
   have := h (n, k) (.head _) (by have q := eq_of_beq hk; exact q)
   cases hc : cells.lookup n with
   | none => rw [hc] at this; cases this
   | some a => dsimp only [cond_true]; exact W4 fun y hy => h y (.tail _ hy)
  | false => dsimp only [cond_false]; exact W4 fun y hy => h y (.tail _ hy)
theorem Src.fix {xs : List V} {I : Addr} {h' : Heap} {fx : List (Addr × Obj)} {P : Nat -> Value -> Prop} {St : Nat -> Heap -> Prop} (S : Src w X G s xs I h' fx P St) (hne : ∀ p ∈ fx, p.1 ≠ I) : Src w X G s xs I h' fx P (fun i h => St i h ∧ ∀ p ∈ fx, h.get? p.1 = some p.2) where
 new := S.new
 len := S.len
 fp := S.fp
 ext := S.ext
 W := {
  sub := S.W.sub
  frame := fun i h h2 st hk => ⟨S.W.frame i h h2 st.1 hk, fun p hp => hk p.1 (.tail _ (List.mem_map_of_mem hp)) p.2 (st.2 p hp)⟩
  item := fun i s Q E hi st hQ => S.W.item i s Q E hi st.1 fun v h2 tk hP st2 hk => hQ v h2 tk hP ⟨st2, fun p hp => hk p.1 p.2 (by simpa using hne p hp) (st.2 p hp)⟩ hk
  done := fun s Q E st hQ => S.W.done s Q E st.1 hQ
  self := fun i s Q E st hQ => S.W.self i s Q E st.1 hQ }
 st := ⟨S.st, fun p hp => (S.fx p hp).1⟩
 fx := S.fx
 it := fun i h st => S.it i h st.1
 val := S.val
theorem jj {m : Str -> Option Value} {fr : List (Str × V)} {hp' : List O} {b8 G' : Gam} {a7 : Shared} {obs' : List Obj} {ys : List V} {us : List Value} {Q : VP} (hco : X.co = none) (B : Below X.A₀ X.base X.outer X.h₀) (XK : (K w.params).In X.h₀) (T : Top X.p X.loose X.mean X.mg X.mb X.h₀) (hk : X.cs.kind = .function)
 (l : Le b8 G') (Ld : Led w X m fr G' hp' obs') (hus : d9 (RV w.params G') ys us) (hz : ys.length ≤ big)
 (hq : ∀ D ob s', Ok w X (G'.imm D ob) ⟨fr, hp'⟩ s' -> RV w.params (G'.imm D ob) (.lst ys) (.ref D) -> j3 a7 s' -> Q (.ref D) s') : LCg.FinE X.h₀ X.L m a7 Q us (news G' obs') := fun D h tk F N off => by
 have off' : ∀ p ∈ news G' obs', p.1 ≠ D := by
  have : ∀ {l : List (Addr × Obj)}, LCg.Off1 D l -> ∀ p ∈ l, p.1 ≠ D := by
   intro l
   induction l with
   | nil => intro _ p hp; cases hp
   | cons a r ih =>
    intro x p hp
    rcases mC hp with rfl | hp
    · exact x.1
    · exact ih x.2 p hp
  exact this off
 have lk := (G'.le_imm D (LCg.lst us)).lk
 refine hq D (LCg.lst us) _ ⟨m, obs', ⟨B, F, XK, fun p hp => ?_, T, hk⟩, Ld.len, ⟨Ld.good.nd, fun p hp hm => ?_, Ld.good.tr, fun p hp q hq => ?_⟩, Ld.hp.imp fun _ _ h => h.mono2 lk, ?_, Ld.cf.mono2 lk⟩ ?_ ⟨rfl, rfl, rfl⟩
 · rcases aM hp with q | q
   · exact N p (.tail _ (aL q))
   · rcases aM q with q | q
     · rcases mC q with rfl | q
       · exact N _ (.head _)
       · exact N p (.tail _ (aR (aL q)))
     · exact N p (.tail _ (aR (aR q)))
 · rcases mC hp with rfl | hp
   · obtain ⟨o, ho⟩ := C5 Ld.len hm
     exact off' _ (aL ho) rfl
   · exact Ld.good.kr p hp hm
 · rcases mC hp with rfl | hp
   · exact (off' q (aR (aR hq))).symm
   · exact Ld.good.kt p hp q hq
 · unfold Frm; rw [hco]; exact Ld.rf.mono2 lk
 · exact Ok.newL (n := us.length) G' hus hz
theorem eA {scope : Scope} {cf : List (Str × V)} {x : Str} {ct : Option Expr} {elt iter tg : Expr} {v : V} {xs ys : List V} {hp' : List O} {pos : Pos} {Q : VP} {E : VP}
 (hco : X.co = none) (hi : Ev w X σ iter v σ') (hv : u9 v = some xs) (htg : (∃ px, tg = .Name x px) ∨ xs = []) (hc : ∀ cl, Cm w X scope cl cf ct elt x xs σ'.hp ys hp') (hn : l8 iter = true) (hs : y7 scope x = true)
 (hfree : (scope.names.all fun y => decide (y.2 = .free -> (X.cf.lookup y.1).isSome = true)) = true) (hcf : ∀ x v, cf.lookup x = some v -> X.cf.lookup x = some v ∧ scope.names.lookup x = some .free) (h : Ok w X G σ s)
 (hq : ∀ (G' : Gam) (D : Addr) (ob : Obj) s', Le G G' -> Ok w X (G'.imm D ob) ⟨σ'.fr, hp'⟩ s' -> RV w.params (G'.imm D ob) (.lst ys) (.ref D) -> j3 s s' -> Q (.ref D) s') : wpC (mdl w) (tp X) (eval (.ListComp elt [⟨tg, iter, ct.toList, 0⟩] scope pos) (eX X)) Q E s := by
 obtain ⟨s1, s2, s3, s4⟩ := y7.all hs
 have ee : eX X = ev X := by unfold eX; rw [hco]
 have hc0 : CF w.params X G := by obtain ⟨m, obs, C, -, -, -, -, hcc⟩ := id h; exact hcc
 obtain ⟨cl, hcl⟩ : ∃ cl, clo (eX X).cells scope.names [] = some cl := W4 fun y hy e => by
  have := dO (List.all_eq_true.mp hfree y hy) e
  obtain ⟨v, hv⟩ := Option.isSome_iff_exists.mp this
  obtain ⟨c, o, u, k1, -⟩ := hc0 _ _ hv
  rw [k1]; rfl
 rw [eval_ListComp]
 refine pn (use := none) rfl (fun x => z0 hn) (C1 hcl) s2 s3 (hi G s h _ _ fun b8 u a7 c0 b6 hu b9 => ?_)
 refine aV hv b6 hu _ _ fun I h' fx P St S0 => ?_
 have hne : ∀ p ∈ fx, p.1 ≠ I := fun p hp => by rw [S0.new]; exact Nat.ne_of_lt (Heap.lt_size (b6.hasAt (S0.fx p hp).2))
 have S := S0.fix hne
 obtain ⟨m, obs, C, g1, g2, g3, gf, gc⟩ := id b6
 have hm : RF w.params b8 σ'.fr m := by unfold Frm at gf; rw [hco] at gf; exact gf
 have Ld : Led w X m σ'.fr b8 σ'.hp obs := ⟨g1, g2, g3, hm, gc⟩
 have hI0 : X.h₀.get? I = none := by rw [S.new]; exact next_is_new C.F
 have hL : X.L ≠ I := by rw [S.new]; exact Nat.ne_of_lt C.F.ns.lt
 have off : ∀ p ∈ news b8 obs, p.1 ≠ I := fun p hp => by rw [S.new]; exact Nat.ne_of_lt (Heap.lt_size (C.N p hp).1)
 have hsz : xs.length ≤ sizeLine := by rw [sizeLine_eq]; have := S.len; have : xs.length ≤ 100000 := this; lia
 have hSt : ∀ i h h'' o nw, (St i h ∧ ∀ p ∈ fx, h.get? p.1 = some p.2) -> h.get? I = some o -> h''.get? I = some o -> (∀ b o, X.h₀.get? b = some o -> h''.get? b = some o) -> News X.h₀ X.L h'' nw -> R4 w X fx nw -> (St i h'' ∧ ∀ p ∈ fx, h''.get? p.1 = some p.2) := fun i h h'' o nw st e e' k N q => S.W.frame _ _ _ st fun b hb o2 eb => by
  rcases mC hb with rfl | hb
  · rw [e] at eb; cases eb; exact e'
  · obtain ⟨p, hp, rfl⟩ := List.mem_map.mp hb
    rw [st.2 p hp] at eb; cases eb
    rcases q p hp with z | z
    · exact (N p z).1
    · exact k _ _ z
 have hcfG : ∀ G', Lk b8 G' -> ∀ C m, CF w.params (X.comp scope cl cf C m) G' := fun G' l C m x v e => by
  obtain ⟨e1, e2⟩ := hcf x v e
  obtain ⟨c, o, u, k1, k2, k3, k4⟩ := gc x v e1
  have i1 := E2 (x := x) hcl (.inl e2)
  obtain ⟨c', hc'⟩ := Option.isSome_iff_exists.mp i1
  have i2 := x0 hcl (fun x c e => by cases e) x c' hc'
  rw [k1] at i2; cases i2
  exact ⟨c, o, u, by rw [J6 hco]; exact hc', l.k _ k2, k3, k4.mono2 l⟩
 have hzy : ys.length ≤ big := Nat.le_trans (hc cl).len S.len
 have fin : ∀ G' obs' us', Le b8 G' -> Led w X m σ'.fr G' hp' obs' -> d9 (RV w.params G') ([] ++ ys) us' -> LCg.FinE X.h₀ X.L m { a7 with heap := h' } Q us' (news G' obs') := fun G' obs' us' l Ld' hus' =>
  jj hco C.B C.X C.T C.k l Ld' hus' hzy fun D ob s' k' hr e' => hq G' D ob s' (c0.trans l) k' hr (b9.trans e')
 have hIo : ∀ i h, (St i h ∧ ∀ p ∈ fx, h.get? p.1 = some p.2) -> ∃ o, h.get? I = some o := fun i h st => by obtain ⟨o, e, -⟩ := S.it i h st; exact ⟨o, e⟩
 have sIn : R4 w X fx (news b8 obs) := bY C.X fun p hp => (S.fx p hp).2
 have hRR : ∀ D C' h tk m' ys news', Fr X.h₀ X.L h m -> News X.h₀ X.L h ((D, LCg.lst ys) :: news') -> LCg.Off1 D news' -> h.Ns C' m' -> X.h₀.get? C' = none -> X.h₀.get? D = none -> C' ≠ X.L -> D ≠ X.L -> C' ≠ D -> (∀ p ∈ news', p.1 ≠ C') -> LCg.FinE X.h₀ X.L m { a7 with heap := h' } Q ys news' -> hJ (mdl w) (tp X) E none Q (.ref D) C' (.ok .next) { a7 with heap := h, toks := tk } := by
  intro D C' h tk m' ys news' F' N' o1 hn H3 G9 hCL hDL hCD offC fin
  refine ⟨m', hn, fun h'' hs'' => fin D h'' tk (F'.change hs'' hCL H3) (fun p hp => ?_) o1⟩
  refine ⟨hs''.extBut _ _ ?_ (N' p hp).1, (N' p hp).2⟩
  rcases mC hp with rfl | hp
  · exact Ne.symm hCD
  · exact offC p hp
 exact du (htg.imp id fun e => by rw [e]; rfl) (m := m) (h₀ := X.h₀) (L := X.L) (news := news b8 obs) S.W hsz hIo hSt s1 s2 s4 S.st S.fp (C.F.keeps S.ext) (C.N.grown S.ext) hL hI0 off sIn
  (gY (Ys := []) hco C.B C.X C.T C.k S xs ys 0 σ'.hp b8 obs [] [] rfl (hc cl) Ld (.refl _) hcfG .nil fin) hRR
theorem Ev.comp {scope : Scope} {cf : List (Str × V)} {x : Str} {ct : Option Expr} {elt iter tg : Expr} {v : V} {xs ys : List V} {hp' : List O} {pos : Pos}
 (hco : X.co = none) (hi : Ev w X σ iter v σ') (hv : u9 v = some xs) (htg : (∃ px, tg = .Name x px) ∨ xs = []) (hc : ∀ cl, Cm w X scope cl cf ct elt x xs σ'.hp ys hp') (hn : l8 iter = true) (hs : y7 scope x = true)
 (hfree : (scope.names.all fun y => decide (y.2 = .free -> (X.cf.lookup y.1).isSome = true)) = true) (hcf : ∀ x v, cf.lookup x = some v -> X.cf.lookup x = some v ∧ scope.names.lookup x = some .free) :
 Ev w X σ (.ListComp elt [⟨tg, iter, ct.toList, 0⟩] scope pos) (.lst ys) ⟨σ'.fr, hp'⟩ := fun G s h Q E hq =>
 eA hco hi hv htg hc hn hs hfree hcf h fun G' D ob s' l k hr e => hq _ _ s' (l.trans (Gam.le_imm ..)) k hr e
theorem ey {y : Str} {m : Str -> Option Value} {fr : List (Str × V)} {hp' : List O} {b8 G' : Gam} {a7 : Shared} {obs' : List Obj} {ys : List V} {us : List Value} {Q : Flow -> Shared -> Prop} (hco : X.co = none) (B : Below X.A₀ X.base X.outer X.h₀) (XK : (K w.params).In X.h₀) (T : Top X.p X.loose X.mean X.mg X.mb X.h₀) (hk : X.cs.kind = .function)
 (l : Le b8 G') (Ld : Led w X m fr G' hp' obs') (hus : d9 (RV w.params G') ys us) (hz : ys.length ≤ big)
 (hq : ∀ D ob s', Ok w X (G'.imm D ob) ⟨(y, .lst ys) :: fr, hp'⟩ s' -> j3 a7 s' -> Q .next s') : LCg.FinA X.h₀ X.L m a7 y Q us (news G' obs') := fun D h tk F N off => by
 have off' : ∀ p ∈ news G' obs', p.1 ≠ D := by
  have : ∀ {l : List (Addr × Obj)}, LCg.Off1 D l -> ∀ p ∈ l, p.1 ≠ D := by
   intro l
   induction l with
   | nil => intro _ p hp; cases hp
   | cons a r ih =>
    intro x p hp
    rcases mC hp with rfl | hp
    · exact x.1
    · exact ih x.2 p hp
  exact this off
 have lk := (G'.le_imm D (LCg.lst us)).lk
 refine hq D (LCg.lst us) _ ⟨_, obs', ⟨B, F, XK, fun p hp => ?_, T, hk⟩, Ld.len, ⟨Ld.good.nd, fun p hp hm => ?_, Ld.good.tr, fun p hp q hq => ?_⟩, Ld.hp.imp fun _ _ h => h.mono2 lk, ?_, Ld.cf.mono2 lk⟩ ⟨rfl, rfl, rfl⟩
 · rcases aM hp with q | q
   · exact N p (.tail _ (aL q))
   · rcases aM q with q | q
     · rcases mC q with rfl | q
       · exact N _ (.head _)
       · exact N p (.tail _ (aR (aL q)))
     · exact N p (.tail _ (aR (aR q)))
 · rcases mC hp with rfl | hp
   · obtain ⟨o, ho⟩ := C5 Ld.len hm
     exact off' _ (aL ho) rfl
   · exact Ld.good.kr p hp hm
 · rcases mC hp with rfl | hp
   · exact (off' q (aR (aR hq))).symm
   · exact Ld.good.kt p hp q hq
 · unfold Frm; rw [hco]
   intro z v' e'
   by_cases e : z = y
   · subst e
     rw [List.lookup_cons_self] at e'
     cases e'
     exact ⟨_, if_pos rfl, Ok.newL (n := us.length) G' hus hz⟩
   · rw [List.lookup_cons, nB e] at e'
     dsimp only
     rw [if_neg e]
     exact Ld.rf.mono2 lk z v' e'
theorem B3 {y : Str} {py : Pos} {scope : Scope} {cf : List (Str × V)} {x : Str} {ct : Option Expr} {elt iter tg : Expr} {v : V} {xs ys : List V} {hp' : List O} {spos pos : Pos}
 (hco : X.co = none) (hi : Ev w X σ iter v σ') (hv : u9 v = some xs) (htg : (∃ px, tg = .Name x px) ∨ xs = []) (hc : ∀ cl, Cm w X scope cl cf ct elt x xs σ'.hp ys hp') (hn : l8 iter = true) (hs : y7 scope x = true)
 (hfree : (scope.names.all fun y => decide (y.2 = .free -> (X.cf.lookup y.1).isSome = true)) = true) (hcf : ∀ x v, cf.lookup x = some v -> X.cf.lookup x = some v ∧ scope.names.lookup x = some .free) (hk : X.cs.kind = .function) (hy : X.cs.names.lookup y = some .local)
 (hsw : swapsWith (.ListComp elt [⟨tg, iter, ct.toList, 0⟩] scope pos) (some (.Name y py)) spos.line (eX X) = pure true) :
 E1 w X σ (.Assign [.Name y py] (.ListComp elt [⟨tg, iter, ct.toList, 0⟩] scope pos) spos) .next ⟨(y, .lst ys) :: σ'.fr, hp'⟩ := fun G s h Q E hq => by
 obtain ⟨s1, s2, s3, s4⟩ := y7.all hs
 have ee : eX X = ev X := by unfold eX; rw [hco]
 have hc0 : CF w.params X G := by obtain ⟨m, obs, C, -, -, -, -, hcc⟩ := id h; exact hcc
 obtain ⟨cl, hcl⟩ : ∃ cl, clo (eX X).cells scope.names [] = some cl := W4 fun y hy e => by
  have := dO (List.all_eq_true.mp hfree y hy) e
  obtain ⟨v, hv⟩ := Option.isSome_iff_exists.mp this
  obtain ⟨c, o, u, k1, -⟩ := hc0 _ _ hv
  rw [k1]; rfl
 rw [exec_Assign_Name_used _ _ _ _ hsw]
 refine cS (cB ?_)
 show wpC _ (tp X) (do let _ ← comprehension (.ListComp elt [⟨tg, iter, ct.toList, 0⟩] scope pos) scope (eX X) _ (newList []) false (eval iter (eX X)) (some (PySem.assign (.Name y py) (eX X)))) _ _ s
 refine cB (cM (pn (use := some (assign (.Name y py) (eX X))) (Q := fun _ s' => Q .next s') rfl (fun x => z0 hn) (C1 hcl) s2 s3 (hi G s h _ _ fun b8 u a7 c0 b6 hu b9 => ?_)) (fun _ s' hq => cP (cP hq)) fun _ _ e => e)
 refine aV hv b6 hu _ _ fun I h' fx P St S0 => ?_
 have hne : ∀ p ∈ fx, p.1 ≠ I := fun p hp => by rw [S0.new]; exact Nat.ne_of_lt (Heap.lt_size (b6.hasAt (S0.fx p hp).2))
 have S := S0.fix hne
 obtain ⟨m, obs, C, g1, g2, g3, gf, gc⟩ := id b6
 have hm : RF w.params b8 σ'.fr m := by unfold Frm at gf; rw [hco] at gf; exact gf
 have Ld : Led w X m σ'.fr b8 σ'.hp obs := ⟨g1, g2, g3, hm, gc⟩
 have hI0 : X.h₀.get? I = none := by rw [S.new]; exact next_is_new C.F
 have hL : X.L ≠ I := by rw [S.new]; exact Nat.ne_of_lt C.F.ns.lt
 have off : ∀ p ∈ news b8 obs, p.1 ≠ I := fun p hp => by rw [S.new]; exact Nat.ne_of_lt (Heap.lt_size (C.N p hp).1)
 have hsz : xs.length ≤ sizeLine := by rw [sizeLine_eq]; have := S.len; have : xs.length ≤ 100000 := this; lia
 have hSt : ∀ i h h'' o nw, (St i h ∧ ∀ p ∈ fx, h.get? p.1 = some p.2) -> h.get? I = some o -> h''.get? I = some o -> (∀ b o, X.h₀.get? b = some o -> h''.get? b = some o) -> News X.h₀ X.L h'' nw -> R4 w X fx nw -> (St i h'' ∧ ∀ p ∈ fx, h''.get? p.1 = some p.2) := fun i h h'' o nw st e e' k N q => S.W.frame _ _ _ st fun b hb o2 eb => by
  rcases mC hb with rfl | hb
  · rw [e] at eb; cases eb; exact e'
  · obtain ⟨p, hp, rfl⟩ := List.mem_map.mp hb
    rw [st.2 p hp] at eb; cases eb
    rcases q p hp with z | z
    · exact (N p z).1
    · exact k _ _ z
 have hcfG : ∀ G', Lk b8 G' -> ∀ C m, CF w.params (X.comp scope cl cf C m) G' := fun G' l C m x v e => by
  obtain ⟨e1, e2⟩ := hcf x v e
  obtain ⟨c, o, u, k1, k2, k3, k4⟩ := gc x v e1
  have i1 := E2 (x := x) hcl (.inl e2)
  obtain ⟨c', hc'⟩ := Option.isSome_iff_exists.mp i1
  have i2 := x0 hcl (fun x c e => by cases e) x c' hc'
  rw [k1] at i2; cases i2
  exact ⟨c, o, u, by rw [J6 hco]; exact hc', l.k _ k2, k3, k4.mono2 l⟩
 have hzy : ys.length ≤ big := Nat.le_trans (hc cl).len S.len
 have fin : ∀ G' obs' us', Le b8 G' -> Led w X m σ'.fr G' hp' obs' -> d9 (RV w.params G') ([] ++ ys) us' -> LCg.FinA X.h₀ X.L m { a7 with heap := h' } y Q us' (news G' obs') := fun G' obs' us' l Ld' hus' =>
  ey hco C.B C.X C.T C.k l Ld' hus' hzy fun D ob s' k' e' => hq _ _ s' ((c0.trans l).trans (Gam.le_imm ..)) k' rfl (b9.trans e')
 have hIo : ∀ i h, (St i h ∧ ∀ p ∈ fx, h.get? p.1 = some p.2) -> ∃ o, h.get? I = some o := fun i h st => by obtain ⟨o, e, -⟩ := S.it i h st; exact ⟨o, e⟩
 have sIn : R4 w X fx (news b8 obs) := bY C.X fun p hp => (S.fx p hp).2
 have hRR : ∀ D C' h tk m' ys news', Fr X.h₀ X.L h m -> News X.h₀ X.L h ((D, LCg.lst ys) :: news') -> LCg.Off1 D news' -> h.Ns C' m' -> X.h₀.get? C' = none -> X.h₀.get? D = none -> C' ≠ X.L -> D ≠ X.L -> C' ≠ D -> (∀ p ∈ news', p.1 ≠ C') -> LCg.FinA X.h₀ X.L m { a7 with heap := h' } y Q ys news' -> hJ (mdl w) (tp X) E (some (PySem.assign (.Name y py) (eX X))) (fun _ s' => Q .next s') (.ref D) C' (.ok .next) { a7 with heap := h, toks := tk } := by
  intro D C' h tk m' ys news' F' N' o1 hn H3 G9 hCL hDL hCD offC fin
  show wpAny _ (tp X) (PySem.assign (.Name y py) (eX X) (.ref D)) _ _ _
  rw [ee]
  have hpp : ((ev X).scope.kind == .class || ((ev X).scope.kind == .module && (ev X).locals != (ev X).globals)) = false := by
   show (X.cs.kind == .class || (X.cs.kind == .module && X.L != mainGlobals)) = false; rw [hk]; rfl
  refine wpAny_assign_Name (wpAny_storeName_local hy F'.ns (fun f8 Gy iL => ?_) hpp)
  have Gz : X.h₀.get? X.L = none := Heap.get?_none_of_le F'.above
  have F₂ : Fr X.h₀ X.L f8 (fun z => if z = y then some (.ref D) else m z) := ⟨Gy, fun b o e => iL.extBut b o (fun q => by rw [q, Gz] at e; cases e) (F'.keep b o e), F'.above⟩
  refine ⟨m', hn.sameBut iL hCL, fun h'' hs'' => fin D h'' _ (F₂.change hs'' hCL H3) (fun p hp => ?_) o1⟩
  have z : f8.get? p.1 = some p.2 := iL.extBut _ _ (N' p hp).2.1 (N' p hp).1
  refine ⟨hs''.extBut _ _ ?_ z, (N' p hp).2⟩
  rcases mC hp with rfl | hp
  · exact Ne.symm hCD
  · exact offC p hp
 exact du (htg.imp id fun e => by rw [e]; rfl) (m := m) (h₀ := X.h₀) (L := X.L) (news := news b8 obs) S.W hsz hIo hSt s1 s2 s4 S.st S.fp (C.F.keeps S.ext) (C.N.grown S.ext) hL hI0 off sIn
  (gY (Ys := []) hco C.B C.X C.T C.k S xs ys 0 σ'.hp b8 obs [] [] rfl (hc cl) Ld (.refl _) hcfG .nil fin) hRR
end
section
variable {w : World} {X : Cf} {G : Gam} {σ σ' σ'' : St} {s : Shared}
theorem bf {k : Nat} {H : List O} {v : V} {xs : List V} (e : deL H v = some xs) : Cl w k (.type "list") H [v] (.lst xs) H := fun X fr G s us hd h hus Q E hq => by
 obtain _ | ⟨hu, _ | _⟩ := hus
 obtain ⟨a, us, n, rfl, g, r, z⟩ := h.listAt e hu
 have z : xs.length ≤ 100000 := z
 refine cC (call_list_seq a (.inl rfl) g rfl rfl (fun h' c' hk ho => ?_) (by rw [List.size_toArray, ← r.len, sizeLine_eq]; omega))
 exact hq _ _ _ (Gam.le_imm G _ (listOf us.toArray c')) (h.gets (tk := s.toks) hk (Nat.le_refl _) ho) (Ok.newL G r z) ⟨rfl, rfl, rfl⟩
theorem yT {k : Nat} {H : List O} {xs : List V} : Cl w k (.type "list") H [.tup xs] (.lst xs) H := fun X fr G s us hd h hus Q E hq => by
 obtain _ | ⟨hu, _ | _⟩ := hus
 obtain ⟨a, us, n, rfl, g, r, z⟩ := h.tupAt hu
 have z : xs.length ≤ 100000 := z
 refine cC (call_list_seq a (.inr rfl) g rfl rfl (fun h' c' hk ho => ?_) (by rw [List.size_toArray, ← r.len, sizeLine_eq]; omega))
 exact hq _ _ _ (Gam.le_imm G _ (listOf us.toArray c')) (h.gets (tk := s.toks) hk (Nat.le_refl _) ho) (Ok.newL G r z) ⟨rfl, rfl, rfl⟩
theorem mn {k : Nat} {H : List O} {b : Int} : Cl w k (.type "range") H [.int b] (.rng 0 b 1) H := fun X fr G s us hd h hus Q E hq => by
 obtain _ | ⟨hu, _ | _⟩ := hus
 obtain ⟨t, rfl⟩ := hu
 refine cC (call_range_1 ?_)
 exact hq _ _ _ (Gam.le_imm G _ _) (h.gets (fun b o e => Heap.get?_push_of_some _ e) (Nat.le_refl _) (Heap.get?_push_size _ rfl)) ⟨_, _, _, _, rfl, .inl (.head _)⟩ ⟨rfl, rfl, rfl⟩
theorem ml {k : Nat} {H : List O} {a b : Int} : Cl w k (.type "range") H [.int a, .int b] (.rng a b 1) H := fun X fr G s us hd h hus Q E hq => by
 obtain _ | ⟨hu, _ | ⟨hv, _ | _⟩⟩ := hus
 obtain ⟨t, rfl⟩ := hu
 obtain ⟨t', rfl⟩ := hv
 refine cC (call_range_2 ?_)
 exact hq _ _ _ (Gam.le_imm G _ _) (h.gets (fun b o e => Heap.get?_push_of_some _ e) (Nat.le_refl _) (Heap.get?_push_size _ rfl)) ⟨_, _, _, _, rfl, .inl (.head _)⟩ ⟨rfl, rfl, rfl⟩
theorem mj {k : Nat} {H : List O} {a b c : Int} (hc : (c == 0) = false) (hp : Builtin.divisionGoesByPylong (b - a) c = false) : Cl w k (.type "range") H [.int a, .int b, .int c] (.rng a b c) H := fun X fr G s us hd h hus Q E hq => by
 obtain _ | ⟨hu, _ | ⟨hv, _ | ⟨hw, _ | _⟩⟩⟩ := hus
 obtain ⟨t, rfl⟩ := hu
 obtain ⟨t', rfl⟩ := hv
 obtain ⟨t'', rfl⟩ := hw
 refine cC (call_range_3 (beq_eq_false_iff_ne.mp hc) ?_ (.inl hp))
 exact hq _ _ _ (Gam.le_imm G _ _) (h.gets (fun b o e => Heap.get?_push_of_some _ e) (Nat.le_refl _) (Heap.get?_push_size _ rfl)) ⟨_, _, _, _, rfl, .inl (.head _)⟩ ⟨rfl, rfl, rfl⟩
theorem Z7 : ∀ {xs : List V} {ns : List Int} {us : List Value}, p3 xs = some ns -> d9 (RV w.params G) xs us -> IntsAre us ns
 | [], ns, us, e, h => by cases e; cases h; exact .nil
 | x :: xs, ns, us, e, h => by
  cases h with
  | cons hu hus =>
   cases x with
   | int n =>
    unfold p3 at e
    split at e
    · rename_i ns' q
      cases e
      obtain ⟨t, rfl⟩ := hu
      exact .cons n t (Z7 q hus)
    · cases e
   | _ => cases e
theorem W5 {ns : List Int} : (byteArr ns).size = ns.length := by simp [byteArr]
theorem nP {k : Nat} {H : List O} {v : V} {xs : List V} {ns : List Int} (e : deL H v = some xs) (hi : p3 xs = some ns) (hr : ∀ n ∈ ns, 0 ≤ n ∧ n < 256) : Cl w k (.type "bytes") H [v] (.byt xs.length) H := fun X fr G s us hd h hus Q E hq => by
 obtain _ | ⟨hu, _ | _⟩ := hus
 obtain ⟨a, us, n, rfl, g, r, z⟩ := h.listAt e hu
 have z : xs.length ≤ 100000 := z
 have ia := Z7 hi r
 refine cC (call_bytes_ints (isL g) ia hr (by rw [← r.len, sizeLine_eq]; omega) rfl fun h' t k hk => ?_)
 exact hq G _ _ (.refl G) (h.ext hk) ⟨_, _, rfl, by rw [W5, ← ia.length, r.len], z⟩ ⟨rfl, rfl, rfl⟩
theorem mz : ∀ {ns : List Int} {M : Int}, M ∈ ns -> (∀ a, a ∈ ns -> M ≤ a) -> ns.min? = some M := fun {ns M} h1 h2 => by
 rw [List.min?_eq_some_iff]
 exact ⟨h1, h2⟩
theorem FK {k : Nat} {H : List O} {v : V} {xs : List V} {ns : List Int} {M : Int} (e : deL H v = some xs) (hi : p3 xs = some ns) (hM : ns.min? = some M) : Cl w k (.builtin "min") H [v] (.int M) H := fun X fr G s us hd h hus Q E hq => by
 obtain _ | ⟨hu, _ | _⟩ := hus
 obtain ⟨a, us, n, rfl, g, r, z⟩ := h.listAt e hu
 obtain ⟨i1, i2⟩ := M1 hi r
 obtain ⟨ps, e'⟩ := i1.items
 have g' := isL g
 rw [e'] at g'
 have hn : ps.toList.map (·.1) = ns := by rw [← nums_intItems, ← e']; exact i2
 have hsz : 0 < ps.size := by
  rcases Nat.eq_zero_or_pos ps.size with q | q
  · have : ps.toList = [] := by simpa using q
    rw [this] at hn; rw [← hn] at hM; cases hM
  · exact q
 refine cC (min_intList rfl g' hsz fun v h' tk hv hk => ?_)
 obtain ⟨t, rfl⟩ := intItems_at hv
 obtain ⟨a1, a2⟩ := argBest_lt (numAt ps) (ps.size - 1)
 have q : ns.min? = some (numAt ps (argBest (fun i j => decide (numAt ps i < numAt ps j)) (ps.size - 1))) := by
  rw [← hn]
  refine mz ?_ fun a ha => ?_
  · rw [numAt_eq]; exact getD_mem (by rw [List.length_map, Array.length_toList]; omega)
  · obtain ⟨j, hj, rfl⟩ := mem_getD ha
    rw [List.length_map, Array.length_toList] at hj
    rw [← numAt_eq]; exact a2 j (by omega)
 rw [hM] at q
 cases q
 exact hq G _ _ (.refl G) (h.ext hk) ⟨_, rfl⟩ ⟨rfl, rfl, rfl⟩
noncomputable def aG {α : Type} (vs : List V) (f : V -> Option α) : Option α := match vs with | [v] => f v | _ => none
noncomputable def JC {α : Type} (vs : List V) (f : V -> V -> Option α) : Option α := match vs with | [a, b] => f a b | _ => none
theorem N9 {α : Type} {vs : List V} {f : V -> Option α} {r : α} {P : Prop} (h : aG vs f = some r) (k : ∀ v, vs = [v] -> f v = some r -> P) : P := by
 match vs, h with
 | [v], h => exact k v rfl h
theorem JB {α : Type} {vs : List V} {f : V -> V -> Option α} {r : α} {P : Prop} (h : JC vs f = some r) (k : ∀ a b, vs = [a, b] -> f a b = some r -> P) : P := by
 match vs, h with
 | [a, b], h => exact k a b rfl h
def zc (vs : List V) (f : Int -> Int -> V) : Option V := JC vs fun a b => (j5 a).bind fun a => (j5 b).map fun b => f a b
theorem pb {vs : List V} {f : Int -> Int -> V} {r : V} {P : Prop} (h : zc vs f = some r) (k : ∀ a b, vs = [.int a, .int b] -> f a b = r -> P) : P :=
 JB h fun a b e h => by
  obtain ⟨x, h1, h⟩ := bnd h
  obtain ⟨y, h2, h⟩ := mp h
  rw [g9 h1, g9 h2] at e
  exact k x y e h
def iJ (hp : List O) (v : V) (f : List V -> List Int -> Option V) : Option V := (deL hp v).bind fun xs => (p3 xs).bind fun ns => f xs ns
theorem iI {hp : List O} {v : V} {f : List V -> List Int -> Option V} {r : V} {P : Prop} (h : iJ hp v f = some r) (k : ∀ xs ns, deL hp v = some xs -> p3 xs = some ns -> f xs ns = some r -> P) : P := by
 obtain ⟨xs, h1, h⟩ := bnd h
 obtain ⟨ns, h2, h⟩ := bnd h
 exact k xs ns h1 h2 h
def JA (hp : List O) (v : V) : Option V := match v with
 | .tup xs => some (.int xs.length)
 | .byt n => some (.int n)
 | v => (deL hp v).map fun xs => .int xs.length
def pq (hp : List O) (v : V) : Option V := match v with
 | .tup xs => some (.lst xs)
 | v => (deL hp v).map fun xs => .lst xs
def Jz (hp : List O) (vs : List V) : Option V := (aG vs fun v => iJ hp v fun _ ns => ns.min?.map .int).or (zc vs fun a b => .int (if b < a then b else a))
def Jy (vs : List V) : Option V := match vs with
 | [a] => (j5 a).map fun b => .rng 0 b 1
 | [a, b] => (j5 a).bind fun a => (j5 b).map fun b => .rng a b 1
 | [a, b, c] => (j5 a).bind fun a => (j5 b).bind fun b => (j5 c).bind fun c => bif c == 0 then none else bif Builtin.divisionGoesByPylong (b - a) c then none else some (.rng a b c)
 | _ => none
def bM (hp : List O) (id : String) (vs : List V) : Option V :=
 bif id == "len" then aG vs (JA hp)
 else bif id == "max" then zc vs fun a b => .int (if b > a then b else a)
 else bif id == "min" then Jz hp vs
 else bif id == "abs" then aG vs fun v => (j5 v).map fun a => .int (if a < 0 then -a else a)
 else bif id == "sum" then aG vs fun v => iJ hp v fun _ ns => some (.int ns.sum)
 else none
def lm (hp : List O) (T : String) (vs : List V) : Option (V × List Prop) :=
 bif T == "tuple" then aG vs fun v => (deL hp v).map fun xs => (.tup xs, [])
 else bif T == "list" then (aG vs (pq hp)).map fun v => (v, [])
 else bif T == "range" then (Jy vs).map fun v => (v, [])
 else bif T == "bytes" then aG vs fun v => (deL hp v).bind fun xs => (p3 xs).map fun ns => (.byt xs.length, [∀ n ∈ ns, 0 ≤ n ∧ n < 256])
 else none
def kZ (hp : List O) (f : Value) (vs : List V) : Option (V × List Prop) :=
 match f with
 | .builtin id => (bM hp id vs).map fun v => (v, [])
 | .type T => lm hp T vs
 | _ => none
theorem B2 {α : Type} {c : Bool} {a b r : Option α} {P : Prop} (h : (bif c then a else b) = r) (k1 : c = true -> a = r -> P) (k2 : b = r -> P) : P := by
 cases c
 · exact k2 h
 · exact k1 rfl h
theorem mv {α : Type} {a b : Option α} {r : α} (h : a.or b = some r) : a = some r ∨ b = some r := by
 cases a with
 | none => exact .inr h
 | some x => exact .inl h
theorem nZ {k : Nat} {hp : List O} {a v : V} (e : JA hp a = some v) : Cl w k (.builtin "len") hp [a] v hp := by
 have pl : ((deL hp a).map fun xs => V.int xs.length) = some v -> Cl w k (.builtin "len") hp [a] v hp := fun e => by
  obtain ⟨xs, h, rfl⟩ := mp e
  exact Gc h
 cases a with
 | tup xs => cases e; exact Gb
 | byt n => cases e; exact Gd
 | _ => exact pl e
theorem lj {k : Nat} {hp : List O} {a v : V} (e : pq hp a = some v) : Cl w k (.type "list") hp [a] v hp := by
 have pl : ((deL hp a).map fun xs => V.lst xs) = some v -> Cl w k (.type "list") hp [a] v hp := fun e => by
  obtain ⟨xs, h, rfl⟩ := mp e
  exact bf h
 cases a with
 | tup xs => cases e; exact yT
 | _ => exact pl e
theorem nY {k : Nat} {hp : List O} {vs : List V} {v : V} (e : Jz hp vs = some v) : Cl w k (.builtin "min") hp vs v hp := by
 rcases mv e with e | e
 · refine N9 e fun a q e => iI e fun xs ns h1 h2 h => ?_
   obtain ⟨M, h3, rfl⟩ := mp h
   exact q ▸ FK h1 h2 h3
 · exact pb e fun a b q e => q ▸ e ▸ FL
theorem nX {k : Nat} {hp : List O} {vs : List V} {v : V} (e : Jy vs = some v) : Cl w k (.type "range") hp vs v hp := by
 cases vs with
 | nil => cases e
 | cons a r =>
  cases r with
  | nil =>
   obtain ⟨x, h1, rfl⟩ := mp (show (j5 a).map _ = _ from e)
   exact g9 h1 ▸ mn
  | cons b r =>
   cases r with
   | nil =>
    obtain ⟨x, h1, h⟩ := bnd (show (j5 a).bind _ = _ from e)
    obtain ⟨y, h2, rfl⟩ := mp h
    exact g9 h1 ▸ g9 h2 ▸ ml
   | cons c r =>
    cases r with
    | cons _ _ => cases e
    | nil =>
     obtain ⟨x, h1, h⟩ := bnd (show (j5 a).bind _ = _ from e)
     obtain ⟨y, h2, h⟩ := bnd h
     obtain ⟨z, h3, h⟩ := bnd h
     rw [g9 h1, g9 h2, g9 h3]
     refine B2 h (fun _ q => nomatch q) fun h' => ?_
     cases c1 : (z == 0) with
     | true => rw [c1] at h; cases h
     | false =>
      cases c2 : Builtin.divisionGoesByPylong (y - x) z with
      | true => rw [c2] at h'; cases h'
      | false => rw [c2] at h'; cases h'; exact mj c1 c2
theorem eK {k : Nat} {hp : List O} {f : String} {vs : List V} {v : V} (e : bM hp f vs = some v) : Cl w k (.builtin f) hp vs v hp := by
 refine B2 e (fun c e => ?_) fun e => B2 e (fun c e => ?_) fun e => B2 e (fun c e => ?_) fun e => B2 e (fun c e => ?_) fun e => B2 e (fun c e => ?_) fun e => nomatch e
 · exact eq_of_beq c ▸ N9 e fun a q e => q ▸ nZ e
 · exact eq_of_beq c ▸ pb e fun a b q e => q ▸ e ▸ FM
 · exact eq_of_beq c ▸ nY e
 · refine eq_of_beq c ▸ N9 e fun a q e => ?_
   obtain ⟨x, h1, rfl⟩ := mp e
   rw [g9 h1] at q
   exact q ▸ pt
 · refine eq_of_beq c ▸ N9 e fun a q e => iI e fun xs ns h1 h2 h => ?_
   cases h
   exact q ▸ oB h1 h2
theorem eJ {k : Nat} {hp : List O} {f : String} {vs : List V} {v : V} {ps : List Prop} (e : lm hp f vs = some (v, ps)) (hps : ∀ p ∈ ps, p) : Cl w k (.type f) hp vs v hp := by
 refine B2 e (fun c e => ?_) fun e => B2 e (fun c e => ?_) fun e => B2 e (fun c e => ?_) fun e => B2 e (fun c e => ?_) fun e => nomatch e
 · refine eq_of_beq c ▸ N9 e fun a q e => ?_
   obtain ⟨xs, h, e⟩ := mp e
   cases e
   exact q ▸ lQ h
 · obtain ⟨u, h, e⟩ := mp e
   cases e
   exact eq_of_beq c ▸ N9 h fun a q e => q ▸ lj e
 · obtain ⟨u, h, e⟩ := mp e
   cases e
   exact eq_of_beq c ▸ nX h
 · refine eq_of_beq c ▸ N9 e fun a q e => ?_
   obtain ⟨xs, h1, e⟩ := bnd e
   obtain ⟨ns, h2, e⟩ := mp e
   cases e
   exact q ▸ nP h1 h2 (hps _ (.head _))
theorem kY {k : Nat} {hp : List O} {f : Value} {vs : List V} {v : V} {ps : List Prop} (e : kZ hp f vs = some (v, ps)) (hps : ∀ p ∈ ps, p) : Cl w k f hp vs v hp := by
 cases f with
 | builtin id =>
  obtain ⟨u, h, e⟩ := mp (show (bM hp id vs).map _ = _ from e)
  cases e
  exact eK h
 | type T => exact eJ e hps
 | _ => cases e
end
section
variable {w : World} {X : Cf} {G : Gam} {σ σ' σ'' l6 : St} {s : Shared}
theorem Ev.neg {e : Expr} {a : Int} {pos : Pos} (h : Ev w X σ e (.int a) σ') : Ev w X σ (.UnaryOp .USub e pos) (.int (-a)) σ' := fun G s k Q E hq =>
 ao (h G s k _ _ fun b8 u a7 c0 k₁ hu b9 => by obtain ⟨t, rfl⟩ := hu; exact cC (P.neg_int (hq b8 _ _ c0 k₁ ⟨_, rfl⟩ (b9.trans ⟨rfl, rfl, rfl⟩))))
theorem Ev.not {e : Expr} {b : Bool} {pos : Pos} (h : Ev w X σ e (.bool b) σ') : Ev w X σ (.UnaryOp .Not e pos) (.bool (!b)) σ' := fun G s k Q E hq =>
 ao (h G s k _ _ fun b8 u a7 c0 k₁ hu b9 => by cases hu; exact cC (not_of (wpAny_truthy_bool (hq b8 _ _ c0 k₁ rfl b9))))
theorem E1.retN {pos : Pos} : E1 w X σ (.Return none pos) (.ret .none) σ := fun G s k Q E hq => cC (wpAny_Return_none (hq G _ s (.refl G) k ⟨_, rfl, rfl⟩ (.refl s)))
theorem E1.pass {pos : Pos} : E1 w X σ (.Pass pos) .next σ := fun G s k Q E hq => cC (wpAny_Pass (hq G _ s (.refl G) k rfl (.refl s)))
theorem E1.brk {pos : Pos} : E1 w X σ (.Break pos) .brk σ := fun G s k Q E hq => cC (wpAny_Break (hq G _ s (.refl G) k rfl (.refl s)))
theorem E1.cont {pos : Pos} : E1 w X σ (.Continue pos) .cont σ := fun G s k Q E hq => cC (wpAny_Continue (hq G _ s (.refl G) k rfl (.refl s)))
theorem E1.drop {e : Expr} {v : V} {pos : Pos} (h : Ev w X σ e v σ') (hi : interactive (eX X) = false) (hs : n4 e = true) : E1 w X σ (.Expr e pos) .next σ' := fun G s k Q E hq =>
 jr (h G s k _ _ fun b8 u _ c0 k' hu b9 => hq b8 _ _ c0 k' rfl b9) hi (v8 hs)
theorem E1.while0 {t : Expr} {body : List Stmt} {pos : Pos} (h : Te w X σ t false σ') : E1 w X σ (.While t body [] pos) .next σ' := fun G s k Q E hq => by
 refine zP (za (fun n s' => s' = s) (fun n s' e => ?_) 1 rfl)
 subst e
 refine h G s' k _ _ fun b8 a7 c0 k₁ b9 => ?_
 rw [if_neg (by decide)]
 exact cC (wpAny_execs_nil (hq b8 .next a7 c0 k₁ rfl b9))
def N7 (op : Operator) (a b : V) : Option V := match op with
 | .Add => (j5 a).bind fun x => (j5 b).map fun y => .int (x + y)
 | .Sub => (j5 a).bind fun x => (j5 b).map fun y => .int (x - y)
 | _ => none
theorem N6 {op : Operator} {a b c : V} (e : N7 op a b = some c) {u v : Value} (hu : RV w.params G a u) (hv : RV w.params G b v) (Q : VP) (E : VP) (hq : ∀ r tk, RV w.params G c r -> Q r { s with toks := tk }) : wpAny (mdl w) (tp X) (inplaceOp op u v) Q E s := by
 refine okG.at (P := fun c => (∀ r tk, RV w.params G c r -> Q r { s with toks := tk }) -> wpAny (mdl w) (tp X) (inplaceOp op u v) Q E s) ?_ e hq
 clear e hq
 cases op with
 | Add =>
  refine okI fun c e hq => e9 e fun x hx e => mpE e fun y hy e => ?_
  rw [g9 hx] at hu
  rw [g9 hy] at hv
  rw [← e] at hq
  obtain ⟨_, rfl⟩ := hu; obtain ⟨_, rfl⟩ := hv; exact P.iadd_int (hq _ _ ⟨_, rfl⟩)
 | Sub =>
  refine okI fun c e hq => e9 e fun x hx e => mpE e fun y hy e => ?_
  rw [g9 hx] at hu
  rw [g9 hy] at hv
  rw [← e] at hq
  obtain ⟨_, rfl⟩ := hu; obtain ⟨_, rfl⟩ := hv; exact P.isub_int (hq _ _ ⟨_, rfl⟩)
 | _ => exact True.intro
theorem E1.aug {x : Str} {op : Operator} {e : Expr} {a b c : V} {p pos : Pos} (hx : σ.fr.lookup x = some a) (he : Ev w X σ e b σ') (hop : N7 op a b = some c) (hco : X.co = none) (hk : X.cs.kind = .function) (hxl : X.cs.names.lookup x = some .local) : E1 w X σ (.AugAssign (.Name x p) op e pos) .next (σ'.put x c) := fun G s h Q E hq => by
 rw [arm_exec_AugAssign]
 have ee : eX X = ev X := by unfold eX; rw [hco]
 obtain ⟨mm, hn, hf⟩ := h.ns
 obtain ⟨u, hu, hv⟩ := hf x a hx
 refine cS (cB (cC (wpAny_loadName_local (by rw [ee]; exact hk) (by rw [ee]; exact hxl) hn hu ?_)))
 refine cB (cH (he G s h _ _ fun b8 v a7 c0 k hv' b9 => ?_))
 refine cS (cB (cC (wpAny_operate' (N6 hop (hv.mono c0) hv' _ _ fun r tk hr => ?_))))
 refine cS (cB (cC (wpAny_bindName ?_)))
 refine Ok.put (s := { a7 with toks := tk }) k hr _ _ hco hk hxl fun a8 i9 e7 => cP ?_
 exact hq b8 .next a8 c0 i9 rfl (b9.trans ((show j3 a7 { a7 with toks := tk } from ⟨rfl, rfl, rfl⟩).trans e7))
theorem E1.augA {x : Str} {op : Operator} {o e : Expr} {a b c : V} {l d : Nat} {C : Addr} {es : List (Str × V)} {p pos : Pos} (ho' : Ev w X σ o (.ref l) σ') (ho : σ'.hp[l]? = some (.inst C d)) (hd : σ'.hp[d]? = some (.dict es)) (hl : es.lookup x = some a) (hg : H4 w.params C x) (hv : okV a = true)
 (he : Ev w X σ' e b σ'') (ho2 : σ''.hp[l]? = some (.inst C d)) {es2 : List (Str × V)} (hd2 : σ''.hp[d]? = some (.dict es2)) (hop : N7 op a b = some c) (hs : X9 w.params C x) (hz : (D3 es2 x c).length ≤ 1000) :
 E1 w X σ (.AugAssign (.Attribute o x p) op e pos) .next ⟨σ''.fr, σ''.hp.set d (.dict (D3 es2 x c))⟩ := fun G s h Q E hq => by
 refine Ju (ho' G s h _ _ fun b8 u a7 c0 b6 hu b9 => ?_)
 refine (M2 b6 hu ho hd hl hg hv).gv _ _ fun i6 v a8 f6 f8 hv e7 => ?_
 refine he i6 a8 f8 _ _ fun n9 v' f7 m5 i8 hv' n8 => ?_
 refine cC (N6 hop (hv.mono m5) hv' _ _ fun r tk hr => ?_)
 refine cC (K0 (s := { f7 with toks := tk }) i8 ((hu.mono f6).mono m5) hr ho2 hd2 hs hz _ _ fun u7 u8 W1 => ?_)
 exact hq n9 .next u7 ((c0.trans f6).trans m5) u8 rfl (((b9.trans e7).trans n8).trans ((show j3 f7 { f7 with toks := tk } from ⟨rfl, rfl, rfl⟩).trans W1))
theorem J9 {l : Nat} {xs : List V} {k : Int} {v : V} {u uk uv : Value} (h : Ok w X G σ s) (hu : RV w.params G (.ref l) u) (hk : RV w.params G (.int k) uk) (hv : RV w.params G v uv) (ho : σ.hp[l]? = some (.list xs)) (h0 : 0 ≤ k) (h1 : k < xs.length)
 (Q : Unit -> Shared -> Prop) (E : VP) (hq : ∀ s', Ok w X G ⟨σ.fr, σ.hp.set l (.list (xs.set k.toNat v))⟩ s' -> j3 s s' -> Q () s') : wpAny (mdl w) (tp X) (setItem u uk uv) Q E s := by
 obtain ⟨a, ha, rfl⟩ := hu
 obtain ⟨t, rfl⟩ := hk
 obtain ⟨a', ob, k1, k2, us, n, rfl, hus, hz⟩ := h.at ho
 obtain rfl : a = a' := by rw [ha] at k1; exact Option.some.inj k1
 have hz : xs.length ≤ 100000 := hz
 have e : us.toArray.size = xs.length := by rw [List.size_toArray, hus.len]
 refine ki_setAt k2 h0 (by lia) (by rw [e]; exact h1) ?_
 refine hq _ (h.set (o' := .list (xs.set k.toNat v)) (tk := s.toks) ha (Heap.SameBut.update ..) (Heap.get?_update_self _ k2 rfl) ?_) ⟨rfl, rfl, rfl⟩
 refine ⟨us.set k.toNat uv, n, ?_, hus.set hv, by rw [List.length_set]; exact hz⟩
 show ({ cls := .type "list", data := .seq (us.toArray.setIfInBounds k.toNat uv) (if (us.toArray.setIfInBounds k.toNat uv).size == us.toArray.size then n else n + 1) } : Obj) = _
 rw [show us.toArray.setIfInBounds k.toNat uv = (us.set k.toNat uv).toArray by apply Array.toList_inj.mp; simp]
 simp
theorem As.sub {o i : Expr} {pos : Pos} {l : Nat} {xs : List V} {k : Int} {v : V} (ho' : Ev w X σ o (.ref l) σ') (hi : Ev w X σ' i (.int k) σ'') (ho : σ''.hp[l]? = some (.list xs)) (h0 : 0 ≤ k) (h1 : k < xs.length) :
 As w X σ (.Subscript o i pos) v ⟨σ''.fr, σ''.hp.set l (.list (xs.set k.toNat v))⟩ := fun G s u h hv Q E hq => by
 rw [assign_Subscript]
 refine cB (cH (ho' G s h _ _ fun b8 ov a7 c0 k₁ hu b9 => ?_))
 refine cB (cH (hi b8 a7 k₁ _ _ fun i6 iv a8 f6 i9 hiv e7 => ?_))
 refine cS (cB (cH ?_))
 refine cC (J9 i9 (hu.mono f6) hiv ((hv.mono c0).mono f6) ho h0 h1 _ _ fun f7 I6 n8 => cC ?_)
 exact wpAny_release (hq i6 f7 (c0.trans f6) I6 ((b9.trans e7).trans n8))
theorem E1.assignI {o i e : Expr} {p' pos : Pos} {v : V} (h : Ev w X σ e v σ') (hA : As w X σ' (.Subscript o i p') v σ'') (hs : n4 e = true) : E1 w X σ (.Assign [.Subscript o i p'] e pos) .next σ'' := fun G s k Q E hq => by
 rw [exec_Assign_Subscript o i p' e pos (v8 hs)]
 refine cS (cB (h G s k _ _ fun b8 u a7 c0 k₁ hu b9 => cB (hA b8 a7 u k₁ hu _ _ fun i6 a8 f6 i9 e7 => cP ?_)))
 exact hq i6 .next a8 (c0.trans f6) i9 rfl (b9.trans e7)
theorem E1.augI {op : Operator} {o i e : Expr} {a b c : V} {l : Nat} {xs : List V} {k : Int} {p pos : Pos} (ho' : Ev w X σ o (.ref l) σ') (hi : Ev w X σ' i (.int k) σ'') (ho : σ''.hp[l]? = some (.list xs)) (h0 : 0 ≤ k) (h1 : k < xs.length) (hx : xs[k.toNat]? = some a)
 (he : Ev w X σ'' e b l6) {xs2 : List V} (ho2 : l6.hp[l]? = some (.list xs2)) (h2 : k < xs2.length) (hop : N7 op a b = some c) (hn : r8 i = true) :
 E1 w X σ (.AugAssign (.Subscript o i p) op e pos) .next ⟨l6.fr, l6.hp.set l (.list (xs2.set k.toNat c))⟩ := fun G s h Q E hq => by
 refine Jt (ho' G s h _ _ fun b8 u a7 c0 b6 hu b9 => ?_) (fun ov iv new => by cases i <;> first | rfl | cases hn)
 refine hi b8 a7 b6 _ _ fun i6 iv a8 f6 f8 hiv e7 => ?_
 obtain ⟨ad, us, nn, rfl, g, r, z⟩ := f8.listAt (v := .ref l) (xs := xs) (nE ho) (hu.mono f6)
 obtain ⟨y, hy, ry⟩ := r.get hx
 obtain ⟨t, rfl⟩ := hiv
 have z : xs.length ≤ 100000 := z
 refine cC (wpAny_getItem_list (isL g) h0 (by lia) (by simpa using hy) ?_)
 refine he i6 a8 f8 _ _ fun n9 v' f7 m5 i8 hv' n8 => ?_
 refine cC (N6 hop (ry.mono m5) hv' _ _ fun r tk hr => ?_)
 refine cC (J9 (s := { f7 with toks := tk }) i8 ((hu.mono f6).mono m5) (k := k) ⟨t, rfl⟩ hr ho2 h0 h2 _ _ fun u7 u8 W1 => ?_)
 exact hq n9 .next u7 ((c0.trans f6).trans m5) u8 rfl (((b9.trans e7).trans n8).trans ((show j3 f7 { f7 with toks := tk } from ⟨rfl, rfl, rfl⟩).trans W1))
end
section
variable {w : World} {X : Cf} {G : Gam} {σ σ' σ'' l6 : St} {s : Shared}
theorem av {k : Nat} {H : List O} {n : Int} (h0 : 0 < n) (h1 : n ≤ 1000) : Cl w k (.type "bytearray") H [.int n] (.ref H.length) (H ++ [.bya n.toNat]) := fun X fr G s us hd h hus Q E hq => by
 obtain _ | ⟨hu, _ | _⟩ := hus
 obtain ⟨t, rfl⟩ := hu
 refine h.newM (o := .bya n.toNat) (ob := { cls := .type "bytearray", data := .bytearray (Array.replicate n.toNat 0) }) (tk := s.toks) (a := s.heap.objs.size) (Nat.le_refl _) ⟨_, rfl, by simp⟩ (Value.ref s.heap.objs.size) Q E (fun s' k' e => ?_) fun m news F N hk => ?_
 · exact hq _ _ _ (Gam.le_mut ..) k' ⟨_, h.mutAt _, rfl⟩ e
 · refine N0 hd.2.2 h0 (by lia) fun h' he ho' => hk h' (F.extBut he (Nat.le_refl _)) fun p hp => ?_
   rcases mC hp with rfl | hp
   · exact ⟨ho', fun e => absurd F.ns.lt (e ▸ Nat.lt_irrefl _), next_is_new F⟩
   · exact N.extBut he (Nat.le_refl _) p hp
theorem eG {k l n : Nat} {H : List O} (hl : H[l]? = some (.bya n)) (hz : n ≤ 1000) : Cl w k (.type "bytes") H [.ref l] (.byt n) H := fun X fr G s us hd h hus Q E hq => by
 obtain _ | ⟨hu, _ | _⟩ := hus
 obtain ⟨a, ha, rfl⟩ := hu
 obtain ⟨a', ob, ha', hob, b, rfl, hb⟩ := h.at hl
 obtain rfl : a = a' := by rw [ha] at ha'; exact Option.some.inj ha'
 exact cC (J0 hob (by lia) fun t k => hq G _ _ (.refl G) h ⟨b, t, rfl, hb, by show n ≤ 100000; lia⟩ ⟨rfl, rfl, rfl⟩)
theorem eF {k : Nat} {H : List O} {n : Int} (h0 : 0 ≤ n) (h1 : n ≤ 1000) : Cl w k (.type "bytes") H [.int n] (.byt n.toNat) H := fun X fr G s us hd h hus Q E hq => by
 obtain _ | ⟨hu, _ | _⟩ := hus
 obtain ⟨t, rfl⟩ := hu
 exact cC (F6 h0 (by lia) fun t k => hq G _ _ (.refl G) h ⟨_, t, rfl, by simp, by show n.toNat ≤ 100000; lia⟩ ⟨rfl, rfl, rfl⟩)
theorem As.subB {o i : Expr} {pos : Pos} {l n : Nat} {k v : Int} (ho' : Ev w X σ o (.ref l) σ') (hi : Ev w X σ' i (.int k) σ'') (ho : σ''.hp[l]? = some (.bya n)) (hz : n ≤ 1000) (h0 : 0 ≤ k) (h1 : k < n) (v0 : 0 ≤ v) (v1 : v < 256) :
 As w X σ (.Subscript o i pos) (.int v) ⟨σ''.fr, σ''.hp.set l (.bya n)⟩ := fun G s u h hv Q E hq => by
 rw [assign_Subscript]
 obtain ⟨tv, rfl⟩ := hv
 refine cB (cH (ho' G s h _ _ fun b8 ov a7 c0 k₁ hu b9 => ?_))
 refine cB (cH (hi b8 a7 k₁ _ _ fun i6 iv a8 f6 i9 hiv e7 => ?_))
 refine cS (cB (cH ?_))
 obtain ⟨a, ha, rfl⟩ := hu.mono f6
 obtain ⟨ti, rfl⟩ := hiv
 obtain ⟨a', ob, ha', hob, b, rfl, hb⟩ := i9.at ho
 obtain rfl : a = a' := by rw [ha] at ha'; exact Option.some.inj ha'
 refine cC (lc hob h0 (by lia) (by lia) v0 v1 fun h' hs hob' => cC (wpAny_release ?_))
 exact hq i6 _ (c0.trans f6) (i9.set (o' := .bya n) (tk := a8.toks) ha hs hob' ⟨_, rfl, by simp [hb]⟩) ((b9.trans e7).trans ⟨rfl, rfl, rfl⟩)
theorem bD {l K6 A1 : Expr} {y9 v9 : CmpOp} {pos whole} {env : Env} {M : Model} {A : Around} {E : VP} {Q : Bool -> Shared -> Prop}
 (h : wpC M A (eval l env) (fun a a7 => wpC M A (eval K6 env) (fun b a8 => wpC M A (compareOp y9 a b) (fun c f7 => wpC M A (truthy c) (fun t u7 =>
  if t then wpC M A (eval A1 env) (fun d R9 => wpC M A (compareOp v9 b d) (fun e An => wpC M A (truthy e) Q E An) E R9) E u7 else Q false u7) E f7) E a8) E a7) E s)
 (hm : lastMarks [y9, v9] [K6, A1] = false) : wpC M A (isTrue (.Compare l [y9, v9] [K6, A1] pos) env whole) Q E s := by
 show wpC M A (do testChain pos (← eval l env) [y9, v9] (markedEach [y9, v9] [K6, A1] (evalEach [K6, A1] env))) Q E s
 rw [markedEach_of_false _ _ _ hm]
 refine cB' h fun a a7 b6 => ?_
 refine cE (t' := do
  let rv ← holding [a] (eval K6 env)
  standAt pos
  let c ← holding [a, rv] (compareOp y9 a rv)
  release [a, rv] [c]
  if ← holding [c, rv] (truthy c) then testChain pos rv [v9] [eval A1 env] else pure false) rfl ?_
 refine cHB b6 fun b a8 f8 => cS (cHB f8 fun c f7 i8 => cB (cC (wpAny_release (cHB i8 fun t u7 u8 => ?_))))
 cases t with
 | false => exact cP u8
 | true =>
  refine cE (t' := do
   let rv ← holding [b] (eval A1 env)
   standAt pos
   let c ← operate [b, rv] (compareOp v9 b rv)
   holding [c] (truthy c)) rfl ?_
  exact cHB u8 fun d R9 B6 => cS (cB' (cO B6) fun e An zf => cH zf)
theorem bj {y9 v9 : CmpOp} {K6 A1 : Expr} (h : l8 A1 = true) : lastMarks [y9, v9] [K6, A1] = false := by
 show behindInMarks v9 A1 = false
 exact w6 h
theorem Te.chain {l K6 A1 : Expr} {y9 v9 : CmpOp} {a b d : V} {eu c₂ : Bool} {pos : Pos} (hm : Rm X 0) (hl : Ev w X σ l a σ') (hr : Ev w X σ' K6 b σ'') (b9 : R0 σ''.hp y9 a b = some eu) (h2 : eu = true -> Ev w X σ'' A1 d l6 ∧ R0 l6.hp v9 b d = some c₂) (h3 : eu = false -> c₂ = false ∧ l6 = σ'') (hs : l8 A1 = true) :
 Te w X σ (.Compare l [y9, v9] [K6, A1] pos) c₂ l6 := fun G s k Q E hq => by
 refine bD ?_ (bj hs)
 refine hl G s k _ _ fun b8 u a7 c0 k₁ hu ph => ?_
 refine hr _ a7 k₁ _ _ fun i6 v a8 f6 i9 hv e7 => ?_
 refine cC (M9 b9 hm i9 (hu.mono f6) hv _ _ fun tk => cC (wpAny_truthy_bool ?_))
 have oT : Ok w X i6 σ'' { a8 with toks := tk } := i9
 cases eu with
 | false =>
  obtain ⟨rfl, rfl⟩ := h3 rfl
  exact hq i6 _ (c0.trans f6) oT ((ph.trans e7).trans ⟨rfl, rfl, rfl⟩)
 | true =>
  obtain ⟨h2, h4⟩ := h2 rfl
  refine h2 i6 _ oT _ _ fun n9 d f7 m5 I6 hd n8 => ?_
  refine cC (M9 h4 hm I6 (hv.mono m5) hd _ _ fun tk' => cC (wpAny_truthy_bool ?_))
  exact hq n9 _ ((c0.trans f6).trans m5) I6 (((ph.trans e7).trans ((show j3 a8 { a8 with toks := tk } from ⟨rfl, rfl, rfl⟩).trans n8)).trans ⟨rfl, rfl, rfl⟩)
theorem Ev.bmeth {k : Nat} {T : String} {o e : Expr} {es : List Expr} {name : Str} {id : String} {a v : V} {vs : List V} {fr : List (Str × V)} {H H' : List O} {apos pos : Pos}
 (ho : Ev w X σ o a σ') (hT : ∀ G s u, Ok w X G σ' s -> RV w.params G a u -> s.TypeIs u T ∧ ∀ b, u = .ref b -> ∃ o, s.heap.get? b = some o ∧ o.dict = none) (pa : PlainAttrs T)
 (ha : Es w X σ' (e :: es) vs ⟨fr, H⟩) (hc : Cl w k (.builtin id) H (a :: vs) v H') (hd : Rm X k)
 (slot : Slot T name id) (hty : typeOf (.builtin id) = pure (.type "method_descriptor")) (hst : (e :: es).all i7 = true) (hnc : l9 o = true) (hn : Nat.ble (e :: es).length 29 = true) (hp : (apos.endLine == pos.line) = true) : Ev w X σ (.Call (.Attribute o name apos) (e :: es) [] pos) v ⟨fr, H'⟩ := fun G s h Q E hq => by
 refine v5 (ho G s h _ _ fun b8 Ai a7 c0 k₁ hu b9 => ?_) (J4 hnc hst hn hp)
 obtain ⟨t1, t2⟩ := hT b8 a7 Ai k₁ hu
 refine cC (getMethod_builtin t1 pa slot hty t2 ?_)
 rw [List.all_cons, Bool.and_eq_true] at hst
 refine R1 ?_ (g0 hst.1) (p6 hst.2)
 refine ha pos _ a7 k₁ _ _ fun i6 us' a8 f6 i9 hus' e7 => ?_
 exact hc X fr _ a8 (Ai :: us') hd i9 (.cons (hu.mono f6) hus') _ _ fun n9 u f7 m5 I6 hu n8 => hq n9 u f7 ((c0.trans f6).trans m5) I6 hu ((b9.trans e7).trans n8)
end
section
open PySem PySem.W PyProof.Rows PySem.Spec PySem.Calls PySem.MeetsSeq PySem.SeqAt
theorem O4 (l : Addr) (items : Array Value) (n : Nat) (dd : Option Addr) (sl : Array (Option Value)) (x : Value) (e : Value -> Bool) (j : Nat) (hj : j < items.size)
 (hit : e items[j] = true) (hno : ∀ m (hm : m < items.size), m < j -> e items[m] = false) :
 Meets (Builtin.«tuple.index» ⟨[.ref l, x], []⟩)
  (fun A R s => s.heap.get? l = some { cls := .type "tuple", dict := dd, data := .seq items n, slots := sl } ∧ (∀ y, y ∈ items -> EqAt A.in1 s y x (e y)) ∧ R (.ok (.ret (.int j s.toks))) { s with toks := s.toks + 1 }) := by
 intro prog w A R s h
 obtain ⟨hp, g, d, tk, os⟩ := s; obtain ⟨hl, he, h⟩ := h
 unfold Builtin.«tuple.index»
 simp only [Std.Legacy.Range.forIn_eq_forIn_range']
 wp_walk using wpAny_loadPart' hl, wpAny_forIn_list _ (fun rest b s' => b.1 = none ∧ s' = ⟨hp, g, d, tk, os⟩ ∧ ∃ i, rest = List.range' i (items.size - i) ∧ i ≤ j) _
 case turn =>
  rintro i rest b s' ⟨hb, rfl, i', hr, hi⟩
  obtain ⟨r, hr'⟩ : ∃ r, items.size - i' = r + 1 := ⟨items.size - i' - 1, by lia⟩
  rw [hr', List.range'_succ] at hr
  obtain ⟨rfl, rfl⟩ := List.cons.inj hr
  have hlt : i < items.size := by lia
  rw [Array.getElem?_eq_getElem hlt]
  dsimp only
  refine wpAny_bind (he _ (Array.getElem_mem hlt) prog w _ _ ?_)
  by_cases hij : i = j
  · subst hij
    rw [hit]
    wp_walk
    exact h
  · rw [hno i hlt (by lia)]
    wp_walk
    exact ⟨rfl, rfl, i + 1, by rw [show items.size - (i + 1) = r by lia], by lia⟩
 case fin =>
  rintro b s' ⟨hb, rfl, i, hr, hi⟩
  have := congrArg List.length hr
  rw [List.length_range', List.length_nil] at this
  lia
 case h =>
  exact ⟨rfl, rfl, 0, by simp [Std.Legacy.Range.size], Nat.zero_le _⟩
theorem G6 {α : Type} (p : α -> Bool) : ∀ (xs : List α) (j : Nat), xs.findIdx? p = some j -> ∃ h : j < xs.length, p xs[j] = true ∧ ∀ m (hm : m < xs.length), m < j -> p xs[m] = false := fun xs j h => by
 rw [List.findIdx?_eq_some_iff_getElem] at h
 obtain ⟨h1, h2, h3⟩ := h
 exact ⟨h1, h2, fun m hm hlt => by have := h3 m hlt; simpa using this⟩
section
variable {w : World} {X : Cf} {G : Gam} {σ σ' σ'' l6 : St} {s : Shared}
noncomputable def V.isInt (k : Int) : V -> Bool
 | .int n => n == k
 | _ => false
noncomputable def V.isStr (k : Str) : V -> Bool
 | .str n => n == k
 | _ => false
noncomputable def V.anyInt : V -> Bool
 | .int _ => true
 | _ => false
noncomputable def V.anyStr : V -> Bool
 | .str _ => true
 | _ => false
noncomputable def O2 (k : Int) : Value -> Bool
 | .int n _ => n == k
 | _ => false
noncomputable def dC (k : Str) : Value -> Bool
 | .str n _ => n == k
 | _ => false
theorem R6 {A : Around} (h : Ok w X G σ s) {x : V} {u : Value} {k : Int} {t : Tok} (hu : A.units + 8 < cLine) (e : x.anyInt = true) (r : RV w.params G x u) : EqAt A s u (.int k t) (O2 k u) := by
 cases x with
 | int n => obtain ⟨t', rfl⟩ := r; exact aP h 8 (.int n) (.int k) (n == k) A _ _ rfl hu ⟨t', rfl⟩ ⟨t, rfl⟩
 | _ => cases e
theorem lL {A : Around} (h : Ok w X G σ s) {x : V} {u : Value} {k : Str} {t : Tok} (hu : A.units + 8 < cLine) (e : x.anyStr = true) (r : RV w.params G x u) : EqAt A s u (.str k t) (dC k u) := by
 cases x with
 | str n => obtain ⟨t', rfl⟩ := r; exact aP h 8 (.str n) (.str k) (n == k) A _ _ rfl hu ⟨t', rfl⟩ ⟨t, rfl⟩
 | _ => cases e
theorem C7 {P : Params} {k : Int} : ∀ {xs : List V} {us : List Value}, d9 (RV P G) xs us -> xs.all V.anyInt = true -> us.map (O2 k) = xs.map (V.isInt k)
 | _, _, .nil, _ => rfl
 | x :: xs, u :: us, .cons h hs, e => by
  rw [List.all_cons, Bool.and_eq_true] at e
  rw [List.map_cons, List.map_cons, C7 hs e.2]
  cases x with
  | int n => obtain ⟨t, rfl⟩ := h; rfl
  | _ => cases e.1
theorem X7 {P : Params} {k : Str} : ∀ {xs : List V} {us : List Value}, d9 (RV P G) xs us -> xs.all V.anyStr = true -> us.map (dC k) = xs.map (V.isStr k)
 | _, _, .nil, _ => rfl
 | x :: xs, u :: us, .cons h hs, e => by
  rw [List.all_cons, Bool.and_eq_true] at e
  rw [List.map_cons, List.map_cons, X7 hs e.2]
  cases x with
  | str n => obtain ⟨t, rfl⟩ := h; rfl
  | _ => cases e.1
theorem d9.mem_r {α β : Type} {R : α -> β -> Prop} {as : List α} {bs : List β} (h : d9 R as bs) {b : β} (hb : b ∈ bs) : ∃ a, a ∈ as ∧ R a b := by
 induction h with
 | nil => cases hb
 | cons h _ ih =>
  rcases mC hb with rfl | hb
  · exact ⟨_, .head _, h⟩
  · obtain ⟨a, ha, r⟩ := ih hb; exact ⟨a, .tail _ ha, r⟩
theorem O3 {k : Nat} {H : List O} {xs : List V} {n : Int} {j : Nat} (hi : xs.all V.anyInt = true) (hj : xs.findIdx? (V.isInt n) = some j) : Cl w k (.builtin "tuple.index") H [.tup xs, .int n] (.int j) H := fun X fr G s us hd h hus Q E hq => by
 obtain _ | ⟨hu, _ | ⟨hv, _ | _⟩⟩ := hus
 obtain ⟨a, us, nn, rfl, g, r, z⟩ := h.tupAt hu
 obtain ⟨t, rfl⟩ := hv
 have hf : us.findIdx? (O2 n) = some j := by
  have e := C7 (k := n) r hi
  have : us.findIdx? (O2 n) = (us.map (O2 n)).findIdx? id := by rw [List.findIdx?_map]; rfl
  rw [this, e, ← hj, List.findIdx?_map]; rfl
 obtain ⟨h1, h2, h3⟩ := G6 _ _ _ hf
 refine cC (call_meets PySem.F.slot_tuple_index ⟨_, g, rfl⟩ PySem.F.entry_tuple_index (PySem.F.args_tuple_index_2 _ _) (O4 a us.toArray nn none #[] (.int n t) (O2 n) j (by simpa using h1) (by simpa using h2) (fun m hm => by simpa using h3 m (by simpa using hm))) ⟨g, fun y hy => ?_, ?_⟩)
 · obtain ⟨x, hx, rx⟩ := r.mem_r (b := y) (by simpa using hy)
   exact R6 h (by have := hd.2.1; show X.un + 1 + 8 < 9900; lia) (List.all_eq_true.mp hi x hx) rx
 · exact hq G _ _ (.refl G) h ⟨_, rfl⟩ ⟨rfl, rfl, rfl⟩
theorem V3 {k : Nat} {H : List O} {v : V} {xs : List V} {n : Str} {j : Nat} (e : deL H v = some xs) (hi : xs.all V.anyStr = true) (hj : xs.findIdx? (V.isStr n) = some j) : Cl w k (.builtin "list.index") H [v, .str n] (.int j) H := fun X fr G s us hd h hus Q E hq => by
 obtain _ | ⟨hu, _ | ⟨hv, _ | _⟩⟩ := hus
 obtain ⟨a, us, nn, rfl, g, r, z⟩ := h.listAt e hu
 obtain ⟨t, rfl⟩ := hv
 have hf : us.findIdx? (dC n) = some j := by
  have e := X7 (k := n) r hi
  have : us.findIdx? (dC n) = (us.map (dC n)).findIdx? id := by rw [List.findIdx?_map]; rfl
  rw [this, e, ← hj, List.findIdx?_map]; rfl
 obtain ⟨h1, h2, h3⟩ := G6 _ _ _ hf
 have z : xs.length ≤ 100000 := z
 have zl := r.len
 refine cC (call_meets PySem.F.slot_list_index ⟨_, g, rfl⟩ PySem.F.entry_list_index (PySem.F.args_list_index_2 _ _) (list_indexAt a us.toArray nn none #[] (.str n t) (dC n) j (by simpa using h1) (by lia) (by simpa using h2) (fun m hm => by simpa using h3 m (by simpa using hm))) ⟨g, fun y hy => ?_, ?_⟩)
 · obtain ⟨x, hx, rx⟩ := r.mem_r (b := y) (by simpa using hy)
   exact lL h (by have := hd.2.1; show X.un + 1 + 8 < 9900; lia) (List.all_eq_true.mp hi x hx) rx
 · exact hq G _ _ (.refl G) h ⟨_, rfl⟩ ⟨rfl, rfl, rfl⟩
end
end
section
open PySem PySem.W PyProof.Rows PySem.Spec PySem.Calls PySem.MeetsSeq PySem.SeqAt
section
variable {w : World} {X : Cf} {G : Gam} {σ σ' σ'' l6 : St} {s : Shared}
theorem dj {P : Params} {x : Str} : ∀ {ks : List Str} {des : List DictEntry}, d9 (dk P) ks des -> ks.contains x = false -> (des.find? fun e => e.key.isStr x) = none
 | _, _, .nil, _ => rfl
 | k :: ks, d :: ds, .cons h hs, e => by
  rw [List.contains_cons, Bool.or_eq_false_iff] at e
  obtain ⟨t, u, rfl⟩ := h
  rw [List.find?_cons]
  show (match (k == x) with | true => _ | false => _) = _
  rw [show (k == x) = false by rw [beq_eq_false_iff_ne]; exact fun q => by subst q; simp at e]
  exact dj hs e.2
theorem di {P : Params} {x : Str} : ∀ {ks : List Str} {des : List DictEntry}, d9 (dk P) ks des -> ks.contains x = true -> ∃ u, (des.find? fun e => e.key.isStr x) = some u
 | _, _, .nil, e => by simp at e
 | k :: ks, d :: ds, .cons h hs, e => by
  obtain ⟨t, u, rfl⟩ := h
  rw [List.find?_cons]
  show ∃ u', (match (k == x) with | true => _ | false => _) = some u'
  cases q : (k == x) with
  | true => exact ⟨_, rfl⟩
  | false =>
   refine di hs ?_
   rw [List.contains_cons] at e
   have : (x == k) = false := by rw [beq_eq_false_iff_ne] at q ⊢; exact fun e => q e.symm
   rw [this, Bool.false_or] at e; exact e
theorem dZ {E : VP} {A : Around} {d : Addr} {x : Str} {t : Tok} {ks : List Str} {des : List DictEntry} {n : Nat} {Q : Option Value -> Shared -> Prop} (ho : s.heap.get? d = some (dictOf des n)) (h1 : d9 (dk w.params) ks des)
 (h : ∀ u, u.isSome = ks.contains x -> Q u { s with toks := s.toks + 1 }) : wpAny (mdl w) A (dictGet d (.str x t)) Q E s := by
 unfold dictGet
 try with_reducible refine wpAny_holding ?_
 refine wpAny_bind (wpAny_pyHash_str (wpAny_bind (KTD.kt_dictFind_strs (s := { s with toks := s.toks + 1 }) ho rfl (ah h1) ?_)))
 have hfi : (des.toArray.findIdx? fun e => e.key.isStr x).isSome = ks.contains x := by
  have : (des.toArray.findIdx? fun e => e.key.isStr x).isSome = (des.find? fun e => e.key.isStr x).isSome := by
   rw [List.findIdx?_toArray, List.findIdx?_isSome, Bool.eq_iff_iff]; simp [List.find?_isSome]
  rw [this]
  cases hc : ks.contains x with
  | true => obtain ⟨u, hu⟩ := di h1 hc; rw [hu]; rfl
  | false => rw [dj h1 hc]; rfl
 cases hi : des.toArray.findIdx? fun e => e.key.isStr x with
 | none => rw [hi] at hfi; exact wpAny_pure (h none hfi)
 | some i =>
  rw [hi] at hfi
  have hlt : i < des.toArray.size := (Array.findIdx?_eq_some_iff_getElem.mp hi).1
  exact wpAny_bind (wpAny_dictEntries (s := { s with toks := s.toks + 1 }) ho rfl (wpAny_pure (h _ (by rw [Array.getElem?_eq_getElem hlt]; exact hfi))))
theorem zd {ks : List Str} {xs : List V} {x : Str} {t : Tok} {u : Value} (h : Ok w X G σ s) (hu : RV w.params G (.dct ks xs) u) (Q : VP) (E : VP) (hq : Q (.bool (ks.contains x)) { s with toks := s.toks + 1 }) :
 wpAny (mdl w) (tp X) (compareOp .In (.str x t) u) Q E s := by
 obtain ⟨a, des, n, rfl, g, r1, r2, r3, r4⟩ := hu
 have g' := h.hasAt g
 have hT : s.TypeIs (.ref a) "dict" := ⟨_, g', rfl⟩
 show wpAny _ _ (do return .bool (← contains (.ref a) (.str x t))) Q E s
 refine wpAny_bind ?_
 unfold contains
 try with_reducible refine wpAny_holding ?_
 refine wpAny_bind (wpAny_specialOf hT slot_dict_contains.lookup ?_)
 show wpAny _ _ (if (some (Value.builtin "dict.__contains__") == some Value.none) = true then _ else _) _ E s
 rw [if_neg (by rw [beq_builtin_none]; exact Bool.false_ne_true)]
 refine wpAny_bind (wpAny_callSpecialUnlessNone?_slot (name := Str.ofString "__contains__") hT slot_dict_contains
  (wpAny_call_entry slot_dict_contains hT entry_dict_contains ?_ (args_dict_contains _ _)))
 show wpAny _ _ (dictGet a (.str x t) >>= _) _ _ s
 refine wpAny_bind (dZ g' r1 fun v hv => ?_)
 cases v with
 | none =>
  rw [← hv] at hq
  show wpAny _ _ (Builtin.Dict.pendingKey? a (.str x t) >>= _) _ _ _
  exact wpAny_bind (wpAny_pendingKey_other r3 (wpAny_pure ⟨_, rfl, wpAny_truthy_bool (wpAny_pure hq)⟩))
 | some v =>
  rw [← hv] at hq
  show wpAny _ _ (ret (.bool true)) _ _ _
  exact wpAny_pure ⟨_, rfl, wpAny_truthy_bool (wpAny_pure hq)⟩
def inV (a b : V) : Option Bool := match j5 a with
 | some k => (F1 b).bind fun xs => bif xs.all V.anyInt then some (xs.any (V.isInt k)) else none
 | none => (iQ a).bind fun k => (zn b).map fun p => p.1.contains k
def ninV (a b : V) : Option Bool := (j5 a).bind fun k => (F1 b).bind fun xs => bif xs.all V.anyInt then some (!xs.any (V.isInt k)) else none
noncomputable def iE : CmpOp -> Option Bool
 | .In => some true
 | .NotIn => some false
 | _ => none
theorem iD {op : CmpOp} {b : Bool} (h : iE op = some b) : op = bif b then .In else .NotIn := okG.at (P := fun b => op = bif b then .In else .NotIn) (by cases op <;> first | exact True.intro | exact Eq.refl _) h
def F3 (hp : List O) (op : CmpOp) (a b : V) : Option Bool := match iE op with
 | some m => (bif m then inV a b else ninV a b)
 | none => R0 hp op a b
theorem any_map {α : Type} {f : α -> Bool} {l : List α} : l.any f = (l.map f).any id := by rw [List.any_map]; rfl
theorem Q9 {op : CmpOp} {a b : V} {c : Bool} (e : F3 σ.hp op a b = some c) (hm : Rm X 0) (h : Ok w X G σ s) {u v : Value} (hu : RV w.params G a u) (hv : RV w.params G b v) (Q : VP) (E : VP)
 (hq : ∀ tk, Q (.bool c) { s with toks := tk }) : wpAny (mdl w) (tp X) (compareOp op u v) Q E s := by
 have hun : (tp X).in1.units + 8 < cLine := by have := hm.2.1; show X.un + 1 + 8 < 9900; lia
 unfold F3 at e
 cases hop : iE op with
 | none => rw [hop] at e; exact M9 e hm h hu hv Q E hq
 | some m =>
 rw [hop] at e
 rw [iD hop]
 cases m with
 | true =>
  replace e : inV a b = some c := e
  unfold inV at e
  cases hi : j5 a with
  | some k =>
   rw [hi] at e
   refine e9 e fun xs hb e => i5 e fun hi' e => ?_
   rw [g9 hi] at hu
   rw [q8 hb] at hv
   rw [← Option.some.inj e] at hq
   obtain ⟨t, rfl⟩ := hu
   obtain ⟨ad, us, n, rfl, g, r, z⟩ := h.tupAt hv
   refine in_tupleAt (O2 k) (O9 g) (fun y hy => ?_) ?_
   · obtain ⟨x, hx, rx⟩ := r.mem_r (b := y) (by simpa using hy)
     exact R6 h hun (List.all_eq_true.mp hi' x hx) rx
   · rw [show us.toArray.any (O2 k) = xs.any (V.isInt k) by rw [List.any_toArray, any_map, C7 r hi', ← any_map]]
     exact hq s.toks
  | none =>
   rw [hi] at e
   refine e9 e fun k hk e => mpE e fun p hp e => ?_
   rw [J5 hk] at hu
   rw [cX hp] at hv
   rw [← e] at hq
   obtain ⟨t, rfl⟩ := hu
   exact zd h hv Q E (hq _)
 | false =>
  refine e9 e fun k hi e => e9 e fun xs hb e => i5 e fun hi' e => ?_
  rw [g9 hi] at hu
  rw [q8 hb] at hv
  rw [← Option.some.inj e] at hq
  obtain ⟨t, rfl⟩ := hu
  obtain ⟨ad, us, n, rfl, g, r, z⟩ := h.tupAt hv
  refine notIn_tupleAt (O2 k) (O9 g) (fun y hy => ?_) ?_
  · obtain ⟨x, hx, rx⟩ := r.mem_r (b := y) (by simpa using hy)
    exact R6 h hun (List.all_eq_true.mp hi' x hx) rx
  · rw [show us.toArray.any (O2 k) = xs.any (V.isInt k) by rw [List.any_toArray, any_map, C7 r hi', ← any_map]]
    exact hq s.toks
theorem Te.cmp2 {l r : Expr} {op : CmpOp} {a b : V} {c : Bool} {pos : Pos} (hm : Rm X 0) (hl : Ev w X σ l a σ') (hr : Ev w X σ' r b σ'') (e : F3 σ''.hp op a b = some c) (hs : l8 r = true) : Te w X σ (.Compare l [op] [r] pos) c σ'' := fun G s k Q E hq => by
 refine J1 ?_ (w6 hs)
 refine hl G s k _ _ fun b8 u a7 c0 b6 hu b9 => ?_
 refine hr _ a7 b6 _ _ fun i6 v a8 f6 f8 hv e7 => ?_
 refine cC (Q9 e hm f8 (hu.mono f6) hv _ _ fun tk => cC (wpAny_truthy_bool ?_))
 exact hq i6 _ (c0.trans f6) f8 ((b9.trans e7).trans ⟨rfl, rfl, rfl⟩)
theorem Ev.cmp2 {l r : Expr} {op : CmpOp} {a b : V} {c : Bool} {pos : Pos} (hm : Rm X 0) (hl : Ev w X σ l a σ') (hr : Ev w X σ' r b σ'') (e : F3 σ''.hp op a b = some c) (hs : l8 r = true) : Ev w X σ (.Compare l [op] [r] pos) (.bool c) σ'' := fun G s k Q E hq => by
 refine eC ?_ (w6 hs)
 refine hl G s k _ _ fun b8 u a7 c0 b6 hu b9 => ?_
 refine hr _ a7 b6 _ _ fun i6 v a8 f6 f8 hv e7 => ?_
 refine cC (Q9 e hm f8 (hu.mono f6) hv _ _ fun tk => ?_)
 exact hq i6 _ _ (c0.trans f6) f8 rfl ((b9.trans e7).trans ⟨rfl, rfl, rfl⟩)
theorem iZ {k : Nat} {H : List O} {l : Nat} {xs ys : List V} {v : V} (hl : H[l]? = some (.list xs)) (e : deL H v = some ys) (hz : xs.length + ys.length ≤ big) : Cl w k (.builtin "list.extend") H [.ref l, v] .none (H.set l (.list (xs ++ ys))) := fun X fr G s us hd h hus Q E hq => by
 obtain _ | ⟨hu, _ | ⟨hv, _ | _⟩⟩ := hus
 obtain ⟨a, ha, rfl⟩ := hu
 obtain ⟨a', ob, ha', hob, us, nn, rfl, hus, hz'⟩ := h.at hl
 obtain rfl : a = a' := by rw [ha] at ha'; exact Option.some.inj ha'
 obtain ⟨b, us2, n2, rfl, g2, r2, z2⟩ := h.listAt e hv
 have hz : xs.length + ys.length ≤ 100000 := hz
 have l1 := hus.len
 have l2 := r2.len
 have hsz : us.toArray.size + us2.toArray.size ≤ sizeLine := by rw [List.size_toArray, List.size_toArray, sizeLine_eq]; lia
 refine cC (call_meets PySem.F.slot_list_extend ⟨_, hob, rfl⟩ PySem.F.entry_list_extend (PySem.F.args_list_extend_2 _ _) (AutoSeq1.list_extend_list_list_0 a us.toArray nn b us2.toArray n2 (extend_door hsz) (Nat.le_trans (Nat.le_add_right _ _) hsz)) ⟨hob, g2, ?_⟩)
 refine hq G _ _ (.refl G) ?_ rfl ⟨rfl, rfl, rfl⟩
 refine h.set (o' := .list (xs ++ ys)) (tk := s.toks) ha (Heap.SameBut.update ..) (Heap.get?_update_self _ hob (by rw [mapSeq_app]; rfl)) ⟨us ++ us2, (if (us.toArray ++ us2.toArray).size == us.toArray.size then nn else nn + 1), ?_, hus.app r2, by rw [List.length_append]; exact hz⟩
 rw [mapSeq_app, show us.toArray ++ us2.toArray = (us ++ us2).toArray by simp]
end
end
section
open PySem PySem.W PyProof.Rows PySem.Spec PySem.Calls PySem.MeetsSeq PySem.SeqAt
theorem V2 : typeLookup (.type "list") "keys" = pure none := by rw [typeLookup_type, builtinLookup_eq_fast]; kernel_rfl
section
variable {prog : Program} {w : World} {A : Around} {E : VP} {s : Shared}
theorem mB {a : Addr} {xs : Array Value} {k : Nat} {Q : Option Value -> Shared -> Prop} (hx : s.heap.get? a = some { cls := .type "list", data := .seq xs k }) (hA : A.handled = none)
 (h : ∀ h' tk e, Heap.NewExcOf s.heap h' e "AttributeError" -> Q none { s with heap := h', toks := tk }) : wpAny (model prog w) A (getAttr? (.ref a) "keys") Q E s := by
 obtain ⟨hp, g, d, tk, os⟩ := s
 have hT : ∀ tk', (⟨hp, g, d, tk', os⟩ : Shared).TypeIs (.ref a) "list" := fun _ => ⟨_, hx, rfl⟩
 have f1 := sub_AttributeError
 have f3 := PySem.F.slot_list_getattribute.lookup
 have f4 := PySem.F.slot_list_getattribute.bind (.ref a)
 have f5 := am_list_getattr_none
 have hmiss := V2
 have hname : (["__module__", "__name__", "__qualname__", "__doc__", "__annotations__"] : List Str).contains "keys" = false := by decide +kernel
 unfold getAttr? getAttrBy? getAttrBy
 repeat (any_goals (first | assumption | exact hT _ | ((with_reducible show wpAny _ _ (call (Value.builtin "list.__getattribute__") _ _) _ _ _); refine call_meets PySem.F.slot_list_getattribute (hT _) am_entry_list_getattribute (PySem.F.args_list_getattribute_2 _ _) (meets_getattribute_miss_list a xs k #[] "keys" _ hmiss hname) ⟨hx, hA, fun h' tk' e hx' => ?_⟩) | wp_step))
 obtain ⟨t', u', he⟩ := hx'.there
 show wpAny _ _ (getattributeRaised _ _ _ _ _ _ _) _ _ _
 unfold getattributeRaised
 repeat (any_goals (first | assumption | wp_step))
 exact h _ _ _ hx'.of
theorem r9 : plainId "dict.update.loop" = true := by decide +kernel
theorem L4 : entryFor table "dict.update.loop" = some Builtin.«dict.update.loop» := entryFor_of_tree (by kernel_rfl)
theorem aS {kvs : List (Str × Value)} {k : Str} {v : Value} (h : k ∉ kvs.map (·.1)) : stored kvs k v = kvs ++ [(k, v)] := by
 unfold stored
 rw [if_neg]
 intro e
 rw [List.any_eq_true] at e
 obtain ⟨x, hx, e⟩ := e
 exact h (List.mem_map.mpr ⟨x, hx, dO e⟩)
theorem Q7 {knd : KeyKind prog w Str} (hknd : ∀ k t, knd.is k (.str k t) = true) (hh : A.in1.handled = none) {I a D : Addr} {items : Array Value} (hID : D ≠ I) (haI : a ≠ I) (haD : a ≠ D) {R : Result -> Shared -> Prop} :
 ∀ (rem : List (Str × Value)) (i : Nat) (kvs : List (Str × Value)) (s : Shared), s.heap.IsListIter I a i -> s.heap.IsList a items -> s.heap.DictOf knd D kvs -> i + rem.length = items.size →
  (∀ j k v, rem[j]? = some (k, v) -> ∃ p t n, items[i + j]? = some (.ref p) ∧ s.heap.get? p = some (C9 [.str k t, v] n) ∧ p ≠ I ∧ p ≠ D) -> ((kvs ++ rem).map (·.1)).Nodup -> kvs.length + rem.length ≤ 1000 →
  (∀ h' tk, h'.DictOf knd D (kvs ++ rem) -> (∀ b o, b ≠ I -> b ≠ D -> s.heap.get? b = some o -> h'.get? b = some o) -> R (.ok (.ret .none)) { s with heap := h', toks := tk }) →
  codeAny (model prog w) A (.builtin "dict.update.loop" ⟨[.ref D, .ref I, rawInt i, .none], []⟩) R s
 | [], i, kvs, s, hit, hl, hd, hn, hp, hnd, hz, hR => by
  refine codeAny_builtin L4 ?_
  rw [Around.under_plainId r9]
  unfold Builtin.«dict.update.loop»
  dsimp only [rawInt]
  have hx : items[i]? = none := by rw [Array.getElem?_eq_none]; simp at hn; lia
  refine wpAny_bind (wpAny_pyNext_list_end hh hit hl hx fun h' he => ?_)
  dsimp only
  refine wpAny_bind (wpAny_of_eq (a := ()) rfl (wpAny_pure ?_))
  have := hR h' s.toks (by rw [List.append_nil]; exact hd.extBut he hID) fun b o hb _ e => he b o hb e
  exact this
 | (k, v) :: rem, i, kvs, s, hit, hl, hd, hn, hp, hnd, hz, hR => by
  refine codeAny_builtin L4 ?_
  rw [Around.under_plainId r9]
  unfold Builtin.«dict.update.loop»
  dsimp only [rawInt]
  obtain ⟨p, t, n, hx, hpo, hpI, hpD⟩ := hp 0 k v rfl
  rw [Nat.add_zero] at hx
  refine wpAny_bind (wpAny_pyNext_list_item hit hl hx fun h1 hit1 hs1 => ?_)
  dsimp only
  have hpo1 : h1.get? p = some (C9 [.str k t, v] n) := hs1.extBut p _ hpI hpo
  refine wpAny_bind (wpAny_holding ?_)
  unfold Builtin.Dict.pairItems
  refine wpAny_bind (wpAny_tryCatch (wpAny_bind (wpAny_typeOf (s := { s with heap := h1 }) (T := "tuple") ⟨_, hpo1, rfl⟩ ?_)))
  refine bm_if_true (by decide) ?_
  refine wpAny_bind (wpAny_seqItems (s := { s with heap := h1 }) hpo1 rfl (wpAny_pure ?_))
  dsimp only [Option.getD_some]
  rw [List.map_append, List.map_cons, List.nodup_append] at hnd
  obtain ⟨n1, n2, n3⟩ := hnd
  rw [List.nodup_cons] at n2
  have hk : k ∉ kvs.map (·.1) := fun e => n3 k e k (.head _) rfl
  rw [List.length_cons] at hz hn
  refine wpAny_holding (wpAny_dictSet_pairs (s := { s with heap := h1 }) (hknd k t) (hd.sameBut hs1 hID) (fun h2 hd2 hs2 => ?_) (by rw [sizeLine_eq]; lia))
  rw [aS hk] at hd2
  refine wpAny_pure ⟨plainId_quiet r9 _, ?_⟩
  have e1 : ((i : Int) + 1) = ((i + 1 : Nat) : Int) := by push_cast; rfl
  rw [e1]
  refine Q7 hknd hh hID haI haD rem (i + 1) (kvs ++ [(k, v)]) { s with heap := h2, toks := s.toks + 1 } (hit1.extBut hs2.extBut (Ne.symm hID)) (show h2.IsList a items from let ⟨o, e, r⟩ := hl; ⟨o, hs2.extBut _ _ haD (hs1.extBut _ _ haI e), r⟩) hd2 (by lia) (fun j k' v' e => ?_) ?_ (by rw [List.length_append, List.length_singleton]; lia) fun h' tk hd' hk' => ?_
  · obtain ⟨p', t', n', g1, g2, g3, g4⟩ := hp (j + 1) k' v' e
    exact ⟨p', t', n', by rw [show i + 1 + j = i + (j + 1) by lia]; exact g1, hs2.extBut _ _ g4 (hs1.extBut _ _ g3 g2), g3, g4⟩
  · rw [List.append_assoc, List.singleton_append, List.map_append, List.map_cons, List.nodup_append]
    exact ⟨n1, List.nodup_cons.mpr n2, n3⟩
  · rw [List.append_assoc, List.singleton_append] at hd'
    exact hR h' tk hd' fun b o hb1 hb2 e => hk' b o hb1 hb2 (hs2.extBut _ _ hb2 (hs1.extBut _ _ hb1 e))
theorem I9 {knd : KeyKind prog w Str} (hknd : ∀ k t, knd.is k (.str k t) = true) (hh : A.handled = none) {a : Addr} {items : Array Value} {nn : Nat} {kvs : List (Str × Value)} {Q : VP}
 (hl : s.heap.get? a = some { cls := .type "list", data := .seq items nn }) (hn : kvs.length = items.size) (hz : kvs.length ≤ 1000)
 (hp : ∀ (j : Nat) k v, kvs[j]? = some (k, v) -> ∃ p t n, items[j]? = some (Value.ref p) ∧ s.heap.get? p = some (C9 [.str k t, v] n)) (hnd : (kvs.map (·.1)).Nodup)
 (hQ : ∀ D h' tk, s.heap.objs.size ≤ D -> h'.DictOf knd D kvs -> (∀ b o, s.heap.get? b = some o -> h'.get? b = some o) -> Q (.ref D) { s with heap := h', toks := tk }) :
 wpAny (model prog w) A (call (.type "dict") [.ref a]) Q E s := by
 refine callType_codes (Q₁ := fun obj a7 => obj = .ref s.heap.objs.size ∧ a7 = { s with heap := s.heap.push { cls := .type "dict", data := .dict #[] } }) F.kt_called_dict (F.kt_typeCall_dict_1 _) F.entry_dict_init (kt_code_dict_new _ ⟨rfl, rfl⟩) ?_
 rintro obj a7 ⟨rfl, rfl⟩
 have hnew : (s.heap.push { cls := .type "dict", data := .dict #[] }).DictOf knd s.heap.objs.size [] := Heap.DictOf.new s.heap
 have hlt := Heap.lt_size hl
 have ho' : (s.heap.push { cls := .type "dict", data := .dict #[] }).get? a = some { cls := .type "list", data := .seq items nn } := Heap.get?_push_of_some _ hl
 refine ⟨hnew.typeIs, F.args_dict_init_2 _ _, ?_⟩
 unfold Builtin.«dict.__init__»
 refine wpAny_bind ?_
 unfold Builtin.Dict.selfAndRest
 refine wpAny_bind (wpAny_notOrdered_dict hnew.typeIs ?_)
 show wpAny _ _ (pure (s.heap.objs.size, [Value.ref a])) _ _ _
 refine wpAny_pure ?_
 show wpAny _ _ (Builtin.Dict.updateFrom "dict.__init__" s.heap.objs.size (.ref a) [] .none) _ _ _
 unfold Builtin.Dict.updateFrom
 refine wpAny_bind (wpAny_typeOf (T := "list") ⟨_, ho', rfl⟩ ?_)
 rw [if_pos (by decide)]
 refine wpAny_bind (mB ho' hh fun h1 tk e hx => ?_)
 refine bm_if_true rfl ?_
 refine wpAny_bind (wpAny_rule ?_)
 have hl1 : h1.get? a = some { cls := .type "list", data := .seq items nn } := hx.keeps _ _ ho'
 refine wpAny_bind (wpAny_pyIter_list (s := { s with heap := h1, toks := tk }) (items := items) ⟨_, hl1, rfl, _, rfl⟩ ?_)
 have hd1 : Heap.DictOf knd h1 s.heap.objs.size [] := by
  obtain ⟨o, es, ep, g, r⟩ := hnew
  exact ⟨o, es, ep, hx.keeps _ _ g, r⟩
 have hD1 : s.heap.objs.size < h1.objs.size := by
  obtain ⟨o, es, ep, g, r⟩ := hd1
  exact Heap.lt_size g
 have fin : codeAny (model prog w) A.in1 (.builtin "dict.update.loop" ⟨[.ref s.heap.objs.size, .ref h1.objs.size, rawInt (0 : Nat), .none], []⟩) (wants (fun r a8 => r = .none ∧ Q (.ref s.heap.objs.size) a8) E) { s with heap := h1.push { cls := .type "list_iterator", data := .fields #[.ref a, .int 0 0] }, toks := tk } := by
  refine Q7 (A := A.in1) hknd hh (Nat.ne_of_lt hD1) (Nat.ne_of_lt (Nat.lt_trans hlt hD1)) (Nat.ne_of_lt hlt) kvs 0 [] _ ⟨_, Heap.get?_push_size _ rfl, rfl, rfl⟩ ⟨_, Heap.get?_push_of_some _ hl1, rfl, _, rfl⟩ (hd1.push _) (by lia) (fun j k v e => ?_) hnd (by simpa using hz) fun h' tk' hd' hk' => ?_
  · obtain ⟨p, t, n, g1, g2⟩ := hp j k v e
    have hpl := Heap.lt_size g2
    exact ⟨p, t, n, by rw [Nat.zero_add]; exact g1, Heap.get?_push_of_some _ (hx.keeps _ _ (Heap.get?_push_of_some _ g2)), Nat.ne_of_lt (Nat.lt_trans hpl hD1), Nat.ne_of_lt hpl⟩
  · refine ⟨rfl, hQ _ h' tk' (Nat.le_refl _) hd' fun b o e => ?_⟩
    have hb := Heap.lt_size e
    exact hk' b o (Nat.ne_of_lt (Nat.lt_trans hb hD1)) (Nat.ne_of_lt hb) (Heap.get?_push_of_some _ (hx.keeps _ _ (Heap.get?_push_of_some _ e)))
 first
  | exact wpAny_pure ⟨plainId_quiet r9 _, fin⟩
  | exact wpAny_bind (wpAny_pure (wpAny_pure ⟨plainId_quiet r9 _, fin⟩))
end
end
section
open PySem PySem.W PyProof.Rows PySem.Spec PySem.Calls PySem.MeetsSeq PySem.SeqAt
section
variable {w : World} {X : Cf} {G : Gam} {σ σ' σ'' l6 : St} {s : Shared}
noncomputable abbrev skd (w : World) : PySem.KeyKind PySem.Challenge.pw_rg0261_01 w Str := strKind PySem.Challenge.pw_rg0261_01 w
theorem nA {kvs : List (Str × Value)} : ∀ {es : List DictEntry}, Pairs (skd w) es kvs -> (∀ e ∈ es, ∃ k, (skd w).is k e.key = true ∧ e.hash = (skd w).hash k) -> d9 (dk w.params) (kvs.map (·.1)) es ∧ es.map (·.val) = kvs.map (·.2) := by
 intro es h hk
 induction h with
 | nil => exact ⟨.nil, rfl⟩
 | @cons e kv es kvs h1 h2 _ ih =>
  obtain ⟨i1, i2⟩ := ih fun e he => hk e (.tail _ he)
  refine ⟨.cons ?_ i1, by rw [List.map_cons, List.map_cons, i2, h2]⟩
  obtain ⟨k, g1, g2⟩ := hk e (.head _)
  obtain ⟨t, ht⟩ := Value.isStrOf_shape (show Value.isStrOf kv.1 e.key = true from h1)
  obtain ⟨t', ht'⟩ := Value.isStrOf_shape (show Value.isStrOf k e.key = true from g1)
  rw [ht] at ht'
  injection ht' with q _
  obtain ⟨hash, key, val⟩ := e
  simp only at ht g2
  subst ht
  refine ⟨t, val, ?_⟩
  rw [g2, ← q]
  rfl
theorem Z3 {h : Heap} {a : Addr} {p : Params} (hk : (K p).In h) (ha : h.objs.size ≤ a) : (a == sysModules) = false := by
 have this : (1030 : Nat) < h.objs.size := Heap.lt_size (hk _ _ (iW p))
 rw [beq_eq_false_iff_ne]
 intro e
 subst e
 have h2 : h.objs.size ≤ (1 : Nat) := ha
 lia
theorem ai {D : Addr} {h' : Heap} {tk : Nat} {kvs : List (Str × Value)} {xs : List V} (h : Ok w X G σ s) (hD : s.heap.objs.size ≤ D) (hd : h'.DictOf (skd w) D kvs) (hk : ∀ b o, s.heap.get? b = some o -> h'.get? b = some o) (hv : d9 (RV w.params G) xs (kvs.map (·.2))) :
 ∃ ob, Ok w X (G.imm D ob) σ { s with heap := h', toks := tk } ∧ RV w.params (G.imm D ob) (.dct (kvs.map (·.1)) xs) (.ref D) := by
 obtain ⟨o, es, ep, g, x1, x2, x3, x4, x5⟩ := hd
 obtain ⟨c, dd, dt, sl⟩ := o
 obtain ⟨y1, y2, y3⟩ := x1
 simp only at x2 y1 y2 y3
 subst x2 y1 y2 y3
 obtain ⟨z1, z2⟩ := nA x4 (fun e he => x3 e (by simpa using he))
 refine ⟨dictOf es.toList ep, h.gets hk hD (by simpa using g), D, es.toList, ep, rfl, .inl (.head _), z1, ?_, Z3 h.kin hD, x5⟩
 rw [z2]
 exact (hv.imp fun _ _ r => r.mono (G.le_imm D _)).rvs
def U7 (v : V) : Option (Str × V) := (F1 v).bind fun xs => (two xs).bind fun p => (iQ p.1).map fun k => (k, p.2)
theorem X2 {α : Type} {a : Option α} {l : List (Option α)} {ps : List α} (e : e8 (a :: l) = some ps) : ∃ p ps', a = some p ∧ e8 l = some ps' ∧ ps = p :: ps' := by
 cases a with
 | none => cases e
 | some p =>
  cases q : e8 l with
  | none => rw [e8, q] at e; cases e
  | some ps' => rw [e8, q] at e; cases e; exact ⟨p, ps', rfl, rfl, rfl⟩
theorem rv2 {k : Str} {x : V} {us : List Value} (r : d9 (RV w.params G) [.str k, x] us) : ∃ v t, us = [.str k t, v] ∧ RV w.params G x v := by
 cases r with
 | cons r1 r2 =>
  cases r2 with
  | cons r2 r3 =>
   cases r3
   obtain ⟨t, rfl⟩ := r1
   exact ⟨_, t, rfl, r2⟩
theorem dH {v : V} {p : Str × V} (h : U7 v = some p) : v = .tup [.str p.1, p.2] :=
 e9 h fun xs h1 h => e9 h fun q h2 h => mpE h fun k h3 h => by rw [q8 h1, J7 h2, J5 h3, ← h]
theorem aZ (h : Ok w X G σ s) : ∀ (xs : List V) {us : List Value} {ps : List (Str × V)}, e8 (xs.map U7) = some ps -> d9 (RV w.params G) xs us →
 ∃ kvs : List (Str × Value), kvs.map (·.1) = ps.map (·.1) ∧ d9 (RV w.params G) (ps.map (·.2)) (kvs.map (·.2)) ∧ kvs.length = us.length ∧ ∀ (j : Nat) k v, kvs[j]? = some (k, v) -> ∃ p t n, us[j]? = some (Value.ref p) ∧ s.heap.get? p = some (C9 [.str k t, v] n) := by
 intro xs
 induction xs with
 | nil =>
  intro us ps e hr
  cases hr; cases e
  exact ⟨[], rfl, .nil, rfl, fun j k v e => by cases e⟩
 | cons x xs ih =>
  intro us ps e hr
  cases hr with
  | @cons _ u _ us hu hus =>
  obtain ⟨p, ps', q, q', rfl⟩ := X2 e
  obtain ⟨kvs, k1, k2, k3, k4⟩ := ih q' hus
  rw [dH q] at hu
  obtain ⟨a, us2, n, rfl, g, r, z⟩ := h.tupAt hu
  obtain ⟨v, t, rfl, r2⟩ := rv2 r
  refine ⟨(p.1, v) :: kvs, congrArg (_ :: ·) k1, .cons r2 k2, congrArg (· + 1) k3, fun j k v e => ?_⟩
  cases j with
  | zero => cases e; exact ⟨a, t, n, rfl, g⟩
  | succ j => exact k4 j k v e
theorem zG {k : Nat} {H : List O} {v : V} {xs : List V} {ps : List (Str × V)} (e : deL H v = some xs) (hp : e8 (xs.map U7) = some ps) (hz : ps.length ≤ 1000) (hn : (ps.map (·.1)).Nodup) : Cl w k (.type "dict") H [v] (.dct (ps.map (·.1)) (ps.map (·.2))) H := fun X fr G s us hd h hus Q E hq => by
 obtain _ | ⟨hu, _ | _⟩ := hus
 obtain ⟨a, us, nn, rfl, g, r, z⟩ := h.listAt e hu
 obtain ⟨kvs, k1, k2, k3, k4⟩ := aZ h xs hp r
 have hl : kvs.length = ps.length := by have := congrArg List.length k1; simpa using this
 refine cC (I9 (knd := skd w) (kvs := kvs) (fun k t => by show Value.isStrOf k (.str k t) = true; simp [Value.isStrOf]) rfl g (by rw [k3, List.size_toArray]) (by lia) (fun j k v e => by
  obtain ⟨p, t, n, q1, q2⟩ := k4 j k v e
  exact ⟨p, t, n, by simpa using q1, q2⟩) (by rw [k1]; exact hn) fun D h' tk hD hd' hk' => ?_)
 obtain ⟨ob, o1, o2⟩ := ai (tk := tk) h hD hd' hk' k2
 rw [k1] at o2
 exact hq _ _ _ (Gam.le_imm ..) o1 o2 ⟨rfl, rfl, rfl⟩
noncomputable def zk : NameKind -> Bool
 | .local => true
 | _ => false
theorem nk {k : NameKind} (h : zk k = true) : k = .local := by
 have q : bif zk k then k = .local else True := by cases k <;> first | exact True.intro | exact Eq.refl _
 rw [h] at q; exact q
noncomputable def cInt : Const -> Option V
 | .int i => some (.int i)
 | _ => none
def fE (kinds : Str -> Option NameKind) (fr : List (Str × V)) (e : Expr) : Option V := match e with
 | .Constant c _ _ => cInt c
 | .Name x _ => bif x == ("__debug__" : Str) then none else (kinds x).bind fun k => bif zk k then fr.lookup x else none
 | _ => none
theorem fD {e : Expr} {v : V} (he : fE (eX X).kindOf σ.fr e = some v) (hk : (eX X).scope.kind = .function) (h : Ok w X G σ s) (Q : VP) (E : VP) (hq : ∀ u tk, RV w.params G v u -> Q u { s with toks := tk }) : wpAny (mdl w) (tp X) (eval e (eX X)) Q E s := by
 refine okG.at (P := fun v => (∀ u tk, RV w.params G v u -> Q u { s with toks := tk }) -> wpAny (mdl w) (tp X) (eval e (eX X)) Q E s) ?_ he hq
 clear he hq
 cases e with
 | Constant c k p =>
  cases c with
  | int i => exact fun hq => wpAny_Constant_int (hq _ _ ⟨_, rfl⟩)
  | _ => exact True.intro
 | Name x p =>
  refine okI fun v he hq => a9 (gnd he) fun hd he => e9 he fun k hx he => i5 he fun hk' he => ?_
  rw [nk hk'] at hx
  obtain ⟨mm, hn, hf⟩ := h.ns
  obtain ⟨u, hu, hv⟩ := hf x v he
  exact wpAny_Name (wpAny_loadName_local hk hx hn hu (hq u s.toks hv)) hd
 | _ => exact True.intro
noncomputable def cStr : Const -> Option Str
 | .str x => some x
 | _ => none
def Jm : Expr -> Option Str
 | .Constant c _ _ => cStr c
 | _ => none
def oU (k : Option Expr) : Option Str := k.bind Jm
theorem nz {e : Expr} {x : Str} (h : Jm e = some x) : ∃ c p, e = .Constant (.str x) c p := by
 refine okG.at (P := fun x => ∃ c p, e = .Constant (.str x) c p) ?_ h
 cases e with
 | Constant c k p => cases c <;> first | exact True.intro | exact ⟨k, p, rfl⟩
 | _ => exact True.intro
theorem iw {k : Option Expr} {x : Str} (h : oU k = some x) : ∃ c p, k = some (.Constant (.str x) c p) :=
 e9 h fun e h1 h2 => (nz h2).imp fun c => Exists.imp fun p q => h1.trans (congrArg some q)
def M8 (kinds : Str -> Option NameKind) (fr : List (Str × V)) : List (Option Expr) -> List Expr -> Option (List (Str × V))
 | [], [] => some []
 | k :: ks, e :: es => (oU k).bind fun k => (fE kinds fr e).bind fun v => (M8 kinds fr ks es).map fun r => (k, v) :: r
 | _, _ => none
noncomputable def dm (env : Env) (pos : Pos) : List (Option Expr) -> List Expr -> List (Sem Value × Sem Value)
 | some k :: ks, e :: es => (eval k env, eval e env >>= fun x => standAt pos >>= fun _ => pure x) :: dm env pos ks es
 | _, _ => []
theorem C0 {kinds : Str -> Option NameKind} {fr : List (Str × V)} {k : Option Expr} {ks : List (Option Expr)} {e : Expr} {es : List Expr} {ps : List (Str × V)} (h : M8 kinds fr (k :: ks) (e :: es) = some ps) : ∃ x c p v r, k = some (.Constant (.str x) c p) ∧ fE kinds fr e = some v ∧ M8 kinds fr ks es = some r ∧ ps = (x, v) :: r := by
 obtain ⟨x, h1, h⟩ := bnd h
 obtain ⟨v, h2, h⟩ := bnd h
 obtain ⟨r, h3, h4⟩ := mp h
 obtain ⟨c, p, rfl⟩ := iw h1
 exact ⟨x, c, p, v, r, rfl, h2, h3, h4.symm⟩
theorem bz {kinds : Str -> Option NameKind} {fr : List (Str × V)} {env : Env} {pos : Pos} : ∀ (keys : List (Option Expr)) (es : List Expr) {ps : List (Str × V)}, M8 kinds fr keys es = some ps →
 (evalEachOpt keys env).zip ((evalEach es env).map fun v => do let x ← v; standAt pos; pure x) = (dm env pos keys es).map (fun p => (some p.1, p.2)) ∧ (dm env pos keys es).length = ps.length := by
 intro keys
 induction keys with
 | nil =>
  intro es ps h
  cases es with
  | nil => cases h; exact ⟨rfl, rfl⟩
  | cons e es => cases h
 | cons k ks ih =>
  intro es ps h
  cases es with
  | nil => cases k <;> cases h
  | cons e es =>
   obtain ⟨x, c, p, v, r, rfl, h1, h2, rfl⟩ := C0 h
   obtain ⟨i1, i2⟩ := ih es h2
   exact ⟨congrArg (List.cons _) i1, congrArg (· + 1) i2⟩
theorem nC {pos : Pos} (hk : (eX X).scope.kind = .function) (E : VP) : ∀ (keys : List (Option Expr)) (es : List Expr) (ps : List (Str × V)) (s : Shared) (Q : List (Value × Value) -> Shared -> Prop), M8 (eX X).kindOf σ.fr keys es = some ps -> Ok w X G σ s →
 (∀ us kvs tk, Carries (skd w) us kvs -> kvs.map (·.1) = ps.map (·.1) -> d9 (RV w.params G) (ps.map (·.2)) (kvs.map (·.2)) -> Q us { s with toks := tk }) -> wpAny (mdl w) (tp X) (evalPairs (dm (eX X) pos keys es)) Q E s := by
 intro keys
 induction keys with
 | nil =>
  intro es ps s Q h ho hq
  cases es with
  | nil => cases h; exact evalPairs_nil (hq [] [] s.toks trivial rfl .nil)
  | cons e es => cases h
 | cons key ks ih =>
  intro es ps s Q h ho hq
  cases es with
  | nil => cases key <;> cases h
  | cons e es =>
   obtain ⟨k, c, p, v, r, rfl, h1, h2, rfl⟩ := C0 h
   refine evalPairs_cons (wpAny_Constant_str ?_)
   refine wpAny_bind (fD h1 hk (s := { s with toks := s.toks + 1 }) ho _ _ fun u tk hu => wpAny_bind (wpAny_standAt (wpAny_pure ?_)))
   refine ih es r { s with toks := tk } _ h2 ho fun us kvs tk' c1 c2 c3 => ?_
   exact hq _ ((k, u) :: kvs) tk' ⟨by show Value.isStrOf k (.str k s.toks) = true; simp [Value.isStrOf], rfl, c1⟩ (congrArg (_ :: ·) c2) (.cons hu c3)
theorem Ev.dict {keys : List (Option Expr)} {es : List Expr} {ps : List (Str × V)} {pos : Pos} (hk : (eX X).scope.kind = .function) (hp : M8 (eX X).kindOf σ.fr keys es = some ps) (h0 : ps ≠ []) (hz : ps.length ≤ 15) (hn : (ps.map (·.1)).Nodup) : Ev w X σ (.Dict keys es pos) (.dct (ps.map (·.1)) (ps.map (·.2))) σ := fun G s h Q E hq => by
 obtain ⟨s1, s2⟩ := bz (env := eX X) (pos := pos) keys es hp
 refine cC (wpAny_Dict_pairs (knd := skd w) s1 (fun e => by rw [e] at s2; exact h0 (List.length_eq_zero_iff.mp s2.symm)) (by lia) ?_)
 have h1 : Ok w X G σ { s with heap := s.heap.push { cls := .type "dict", data := .dict #[] } } := h.ext (tk := s.toks) fun b o e => Heap.get?_push_of_some _ e
 refine nC hk E keys es ps _ _ hp h1 fun us kvs tk c1 c2 c3 => ⟨kvs, c1, Heap.DictOf.new s.heap, fun h' hd hs => ?_⟩
 rw [merged_nil_of_nodup kvs (by rw [c2]; exact hn)] at hd
 obtain ⟨ob, o1, o2⟩ := ai (tk := tk + us.length) h (Nat.le_refl _) hd (fun b o e => hs.extBut b o (Nat.ne_of_lt (Heap.lt_size e)) (Heap.get?_push_of_some _ e)) c3
 rw [c2] at o2
 exact hq _ _ _ (Gam.le_imm ..) o1 o2 ⟨rfl, rfl, rfl⟩
theorem Ev.dict0 {pos : Pos} : Ev w X σ (.Dict [] [] pos) (.dct [] []) σ := fun G s h Q E hq => by
 rw [arm_eval_Dict]
 refine cS (cC ?_)
 show wpAny _ _ newDict _ _ _
 unfold newDict
 refine wpAny_newObj_type ?_
 have h1 := h.gets (h' := s.heap.push (dictOf [] 0)) (tk := s.toks) (a := s.heap.objs.size) (o := dictOf [] 0) (fun b o e => Heap.get?_push_of_some _ e) (Nat.le_refl _) (Heap.get?_push_size _ rfl)
 exact hq _ _ _ (Gam.le_imm ..) h1 ⟨_, [], 0, rfl, .inl (.head _), .nil, by simp [RVs], Z3 h.kin (Nat.le_refl _), List.nodup_nil⟩ ⟨rfl, rfl, rfl⟩
end
end
section
open PySem PySem.W PyProof.Rows PySem.Spec PySem.Calls PySem.MeetsSeq PySem.SeqAt
theorem W6 : Slot "bytes" "join" "bytes.join" :=
 .of (owner := "bytes") (n := "join") (by rw [typeLookup_type, builtinLookup_eq_fast]; kernel_rfl) (by decide +kernel) (by decide +kernel) (by decide +kernel)
  (by first | exact .inl (by decide +kernel) | exact .inr (by decide +kernel)) (by rw [isSubtype_type]; kernel_rfl)
theorem dv : typeOf (.builtin "bytes.join") = pure (.type "method_descriptor") := by show builtinType _ = _; rw [builtinType_eq_fast]; kernel_rfl
theorem kU : entryFor table "bytes.join" = some Builtin.«bytes.join» := entryFor_of_tree (by kernel_rfl)
theorem nR (a b : Value) : argsOk "bytes.join" ⟨[a, b], []⟩ := by unfold argsOk; kernel_rfl
theorem w5 : typeLookup (.type "bytes") "__buffer__" = pure (some (.builtin "bytes.__buffer__")) := by rw [typeLookup_type, builtinLookup_eq_fast]; kernel_rfl
theorem bI : typeLookup (.type "bytes") "__release_buffer__" = pure none := by rw [typeLookup_type, builtinLookup_eq_fast]; kernel_rfl
theorem Ab : isSubtype (.type "bytes") (.type "bytes") = pure true := by rw [isSubtype_type]; kernel_rfl
theorem H8 : PlainAttrs "bytes" :=
 ⟨⟨"bytes.__getattribute__", by rw [typeLookup_type, builtinLookup_eq_fast]; kernel_rfl, by decide +kernel⟩, by rw [typeLookup_type, builtinLookup_eq_fast]; kernel_rfl⟩
section
variable {prog : Program} {w : World} {A : Around} {E : VP} {s : Shared}
theorem aQ {b : Array UInt8} {t : Tok} {Q : Option (Array UInt8 × Option Value) -> Shared -> Prop} (hQ : Q (some (b, none)) s) : wpAny (model prog w) A (Builtin.Bytes.takeBufferQuiet? "bytes.join" (.bytes b t) 0) Q E s := by
 have hT : s.TypeIs (.bytes b t) "bytes" := PySem.W.typeIs_bytes _ _ _
 have own : ∀ {Q' : Bool -> Shared -> Prop} {E' : VP}, Q' true s -> wpAny (model prog w) A (Builtin.Bytes.slotIsOwn (.bytes b t) "__buffer__") Q' E' s := fun h => by
  unfold Builtin.Bytes.slotIsOwn
  refine wpAny_bind (wpAny_specialOf hT w5 ?_)
  dsimp only
  rw [if_neg (by decide +kernel), show (String.dropRight "bytes.__buffer__" (String.length "__buffer__" + 1)) = "bytes" by decide +kernel]
  exact wpAny_isInstance hT Ab h
 have rel : ∀ {Q' : Bool -> Shared -> Prop} {E' : VP}, Q' false s -> wpAny (model prog w) A (Builtin.Bytes.ownRelease (.bytes b t)) Q' E' s := fun h => by
  unfold Builtin.Bytes.ownRelease Builtin.Bytes.slotIsOwn
  exact wpAny_bind (wpAny_bind (wpAny_specialOf hT bI (wpAny_pure (wpAny_pure h))))
 unfold Builtin.Bytes.takeBufferQuiet?
 refine wpAny_bind (wpAny_attempt ?_)
 unfold Builtin.Bytes.takeBuffer?
 refine wpAny_bind (wpAny_specialOf hT w5 ?_)
 dsimp only
 refine wpAny_bind (own ?_)
 refine bm_if_false rfl ?_
 refine wpAny_bind (wpAny_specialOf hT w5 ?_)
 refine wpAny_bind ?_
 unfold Builtin.Bytes.buffer?
 refine wpAny_bind (wpAny_specialOf hT w5 ?_)
 dsimp only
 refine wpAny_bind (own ?_)
 refine bm_if_false rfl ?_
 refine wpAny_bind (wpAny_specialOf hT w5 ?_)
 refine wpAny_bind (rel ?_)
 refine bm_if_false rfl ?_
 refine wpAny_bind ?_
 unfold Builtin.Bytes.payload Builtin.Bytes.payload?
 refine wpAny_bind (wpAny_pure ?_)
 refine wpAny_pure (wpAny_pure (wpAny_pure ?_))
 exact wpAny_pure hQ
theorem eW {bs : List (Array UInt8)} : ∀ {k : Nat}, List.foldl (fun x1 x2 => x1 + Array.size x2) k bs = k + (bs.map (·.size)).sum := by
 induction bs with
 | nil => intro k; rfl
 | cons b bs ih => intro k; rw [List.foldl_cons, ih, List.map_cons, List.sum_cons]; lia
theorem Q1 : ∀ (l : List (Array UInt8 × Nat)) (out : Array UInt8), (l.foldl (fun out (p, i) => (if i > 0 then out ++ (#[] : Array UInt8) else out) ++ p) out).size = out.size + (l.map (·.1.size)).sum
 | [], out => rfl
 | (p, i) :: l, out => by
  rw [List.foldl_cons, Q1 l, List.map_cons, List.sum_cons]
  have h1 : (if i > 0 then out ++ (#[] : Array UInt8) else out).size = out.size := by split <;> simp
  show ((if i > 0 then out ++ (#[] : Array UInt8) else out) ++ p).size + _ = _
  rw [Array.size_append, h1]
  dsimp only
  lia
theorem Z6 {bs : List (Array UInt8)} : (Builtin.Bytes.joined #[] bs).size = (bs.map (·.size)).sum := by
 unfold Builtin.Bytes.joined
 rw [Q1]
 have : bs.zipIdx.map (fun x => x.1.size) = bs.map (·.size) := by
  have h : (bs.zipIdx.map (·.1)) = bs := by simp
  calc bs.zipIdx.map (fun x => x.1.size) = (bs.zipIdx.map (·.1)).map (·.size) := by rw [List.map_map]; rfl
   _ = _ := by rw [h]
 rw [this]; simp
theorem iq {M : Model} : ∀ (taken : List (Value × Option Value)) (keep : List Value) {Q : Unit -> Shared -> Prop}, (∀ p ∈ taken, p.2 = none) -> Q () s -> wpAny M A (Builtin.Bytes.joinLetGo taken keep) Q E s
 | [], _, Q, _, h => wpAny_pure h
 | (x, none) :: rest, keep, Q, ht, h => by
  unfold Builtin.Bytes.joinLetGo
  dsimp only
  exact wpAny_bind (wpAny_letGo (iq rest keep (fun p hp => ht p (.tail _ hp)) h))
 | (x, some w) :: rest, keep, Q, ht, h => by have := ht _ (.head _); cases this
noncomputable def Cj {α : Type} (items : Array Value) (f : Value -> α) (g : α) : α := match items with | #[x] => f x | _ => g
theorem mx {α : Type} (items : Array Value) (h2 : items.size ≠ 1) (f : Value -> α) (g : α) : Cj items f g = g := by
 obtain ⟨l⟩ := items
 unfold Cj
 match l, h2 with
 | [], _ => rfl
 | [x], h => exact absurd rfl h
 | x :: y :: l, _ => rfl
theorem cEA {α : Type} {M : Model} {t t' : Sem α} {Q : α -> Shared -> Prop} (e : t = t') (h : wpAny M A t' Q E s) : wpAny M A t Q E s := e ▸ h
theorem eB {a : Addr} {t : Tok} {items : Array Value} {nn : Nat} {bs : List (Array UInt8)} {Q : VP} (ho : s.heap.get? a = some { cls := .type "list", data := .seq items nn }) (hb : items.toList.length = bs.length) (hi : ∀ (j : Nat) b, bs[j]? = some b -> ∃ t, items[j]? = some (.bytes b t)) (hz : (bs.map (·.size)).sum ≤ 100000) (h2 : items.size ≠ 1)
 (hQ : ∀ r t k, r.size = (bs.map (·.size)).sum -> Q (.bytes r t) { s with toks := k }) : wpAny (model prog w) A (call (.builtin "bytes.join") [.bytes #[] t, .ref a]) Q E s := by
 have hT : s.TypeIs (.bytes #[] t) "bytes" := PySem.W.typeIs_bytes _ _ _
 refine wpAny_call_entry W6 hT kU ?_ (nR _ _)
 unfold Builtin.«bytes.join» Builtin.Bytes.joinM
 refine wpAny_bind (wpAny_of_eq (a := (.bytes #[] t, .ref a)) (by kernel_rfl) ?_)
 dsimp only
 refine bm_if_true (by decide) ?_
 refine wpAny_bind ?_
 unfold Builtin.Bytes.joinItems
 refine wpAny_bind (wpAny_typeOf (T := "list") ⟨_, ho, rfl⟩ ?_)
 refine bm_if_true (by decide) ?_
 refine wpAny_pure ?_
 refine wpAny_bind (wpAny_seqItems ho rfl ?_)
 dsimp only
 refine bm_if_true (by decide) ?_
 have hsz : items.size = bs.length := by rw [← hb]; simp
 have hi' : ∀ i (h : i < items.size), ∃ t, items[i]? = some (.bytes (bs[i]'(hsz ▸ h)) t) := fun i h => hi i _ (List.getElem?_eq_getElem (hsz ▸ h))
 refine cEA (mx items h2 _ _) ?_
 · skip
   simp only [Std.Legacy.Range.forIn_eq_forIn_range']
   refine wpAny_bind (wpAny_forIn_list _ (fun rest b s' => s' = s ∧ ∃ i, rest = List.range' i (items.size - i) ∧ i ≤ items.size ∧ b.1.toList = bs.take i ∧ ∀ p ∈ b.2, p.2 = none ∧ p.1.onHeap = false) _ ?turn ?fin _ _ ?h)
   case h => exact ⟨rfl, 0, by simp [Std.Legacy.Range.size], Nat.zero_le _, by simp, fun p hp => by cases hp⟩
   case turn =>
    rintro i rest b s' ⟨rfl, i', hr, hi, hbt, ht⟩
    obtain ⟨r, hr'⟩ : ∃ r, items.size - i' = r + 1 := by
     cases q : items.size - i' with
     | zero => rw [q] at hr; cases hr
     | succ r => exact ⟨r, rfl⟩
    rw [hr', List.range'_succ] at hr
    obtain ⟨rfl, rfl⟩ := List.cons.inj hr
    have hlt : i < items.size := by lia
    obtain ⟨tt, hx⟩ := hi' i hlt
    refine wpAny_bind (wpAny_seqItems ho rfl ?_)
    dsimp only
    have hany : (b.2.any fun x => x.1.onHeap) = false := List.any_eq_false.mpr fun p hp => by rw [(ht p hp).2]; exact Bool.false_ne_true
    refine bm_if_false (by rw [hany]; decide) ?_
    rw [show items.getD i Value.none = .bytes (bs[i]'(hsz ▸ hlt)) tt by rw [Array.getD_eq_getD_getElem?, hx]; rfl]
    refine wpAny_bind (wpAny_holding (aQ ?_))
    dsimp only
    refine wpAny_bind (wpAny_seqItems ho rfl ?_)
    dsimp only
    refine bm_if_false (by simp) ?_
    refine wpAny_pure ⟨rfl, i + 1, by rw [show items.size - (i + 1) = r by lia], by lia, ?_, fun p hp => ?_⟩
    · rw [Array.toList_push, hbt, List.take_add_one, List.getElem?_eq_getElem (hsz ▸ hlt)]; rfl
    · rcases aM hp with hp | hp
      · exact ht p hp
      · rw [nM hp]; exact ⟨rfl, rfl⟩
   case fin =>
    rintro ⟨parts, taken⟩ s' ⟨rfl, i, hr, hi, hbt, ht⟩
    have hlen : items.size - i = 0 := by have := congrArg List.length hr; rw [List.length_range', List.length_nil] at this; exact this.symm
    have hp : parts.toList = bs := by rw [hbt, List.take_of_length_le (by lia)]
    refine wpAny_bind (wpAny_of_eq (a := #[]) rfl ?_)
    have hf : Array.foldl (fun x1 x2 => x1 + Array.size x2) ((#[] : Array UInt8).size * (parts.size - 1)) parts = (bs.map (·.size)).sum := by
     rw [← Array.foldl_toList, hp]
     simp only [Array.size_empty, Nat.zero_mul]
     rw [eW]; lia
    refine bm_if_false (by show Builtin.Bytes.tooLong (Array.foldl (fun x1 x2 => x1 + Array.size x2) ((#[] : Array UInt8).size * (parts.size - 1)) parts) = false; rw [hf]; unfold Builtin.Bytes.tooLong; rw [sizeLine_eq]; simp; lia) ?_
    have hj : (Builtin.Bytes.joined #[] parts.toList).size = (bs.map (·.size)).sum := by rw [hp, Z6]
    refine wpAny_bind (m := mkBytes (Builtin.Bytes.joined #[] parts.toList)) (wpAny_mkBytes ?_ (by rw [hj, sizeLine_eq]; lia))
    refine wpAny_bind (wpAny_holding (wpAny_point ?_))
    refine wpAny_bind (iq taken _ (fun p hp => (ht p hp).1) ?_)
    exact wpAny_pure ⟨_, rfl, hQ _ _ _ hj⟩
theorem aJ (b n : Nat) (hb : b ≤ n) : Builtin.Slice.sliceAdjust none (some (b : Int)) 1 (n : Int) = (0, (b : Int)) := by
 unfold Builtin.Slice.sliceAdjust
 have h1 : ¬ ((1 : Int) < 0) := by lia
 have h2 : ¬ ((b : Int) < 0) := by lia
 simp only [h1, h2, if_false]
 congr 1
 lia
theorem D0 {sl : Addr} {b n : Nat} {u : Tok} {Q : Int × Int × Nat -> Shared -> Prop} (hs : s.heap.IsSliceOf sl .none (.int b u) .none) (hb : b ≤ n) (h : Q (0, 1, b) s) :
 wpAny (model prog w) A (Builtin.Slice.sliceApplied (.ref sl) (pure (n : Int))) Q E s := by
 obtain ⟨os, hos, hcs, hds⟩ := id hs
 unfold Builtin.Slice.sliceApplied Builtin.Slice.sliceFields
 refine wpAny_bind (wpAny_bind (wpAny_field hos hds (x := .none) rfl (wpAny_bind (wpAny_field hos hds (x := .int b u) rfl (wpAny_bind (wpAny_field hos hds (x := .none) rfl (wpAny_pure ?_)))))))
 refine wpAny_bind (slicePart_none ?_)
 refine bm_if_false (by decide) ?_
 refine wpAny_bind (slicePart_none (wpAny_bind (slicePart_int (wpAny_bind (wpAny_pure ?_)))))
 show wpAny _ _ (match Builtin.Slice.sliceAdjust none (some (b : Int)) 1 (n : Int) with | (lo, hi) => pure (lo, (1 : Int), Builtin.Slice.slicePlaces lo hi 1)) _ _ s
 rw [aJ b n hb]
 show wpAny _ _ (pure ((0 : Int), (1 : Int), Builtin.Slice.slicePlaces (0 : Int) (b : Int) 1)) _ _ s
 have := places_from 0 b (Nat.zero_le _)
 rw [Nat.sub_zero] at this
 rw [show ((0 : Int)) = ((0 : Nat) : Int) from rfl, this]
 exact wpAny_pure h
theorem B8 {t sl : Addr} {items : Array Value} {b : Nat} {u : Tok} {Q : VP} (ht : IsTup s.heap t items) (hs : s.heap.IsSliceOf sl .none (.int b u) .none) (hb : b < items.size)
 (h : Q (.ref s.heap.objs.size) { s with heap := s.heap.push { cls := .type "tuple", data := .seq (items.toList.take b).toArray } })
 (hsz : items.size ≤ sizeLine) : wpAny (model prog w) A (getItem (.ref t) (.ref sl)) Q E s := by
 have htake : sizeOk (.seq (items.toList.take b).toArray) := by
  show (items.toList.take b).toArray.size ≤ sizeLine
  rw [List.size_toArray, List.length_take, Array.length_toList]
  lia
 obtain ⟨os, hos, hcs, hds⟩ := id hs
 have hTs : s.TypeIs (.ref sl) "slice" := ⟨os, hos, hcs⟩
 unfold getItem
 try with_reducible refine wpAny_holding ?_
 first | refine wpAny_bind (wpAny_pure ?_) | skip
 refine wpAny_bind (wpAny_sequenceKey ht.typeIs (by decide) ?_)
 refine wpAny_bind (wpAny_callSpecial?_slot (name := Str.ofString "__getitem__") ht.typeIs slot_tuple_getitem
  (wpAny_call_entry slot_tuple_getitem ht.typeIs entry_tuple_getitem ?_ (args_tuple_getitem _ _)))
 show wpAny _ _ (Builtin.Tuple.tupleItemsOf (.ref t) >>= _) _ _ s
 refine wpAny_bind (tupleItemsOf_ ht ?_)
 refine wpAny_bind (wpAny_typeOf hTs ?_)
 rw [if_pos (by decide)]
 refine wpAny_bind (D0 hs (Nat.le_of_lt hb) ?_)
 have hno : ¬ (((0 : Int) == 0 && (1 : Int) == 1 && b == items.size) = true) := by
  have : (b == items.size) = false := by rw [beq_eq_false_iff_ne]; lia
  rw [this]; simp
 show wpAny _ _ (if ((0 : Int) == 0 && (1 : Int) == 1 && b == items.size) = true then _ else _) _ _ s
 have hpick : ((List.range b).filterMap fun (k : Nat) => items[((0 : Int) + (k : Int) * 1).toNat]?).toArray = (items.toList.take b).toArray := by
  congr 1
  have e : (fun (k : Nat) => items[((0 : Int) + (k : Int) * 1).toNat]?) = fun k => items[k]? := by
   funext k
   rw [show ((0 : Int) + (k : Int) * 1).toNat = k by lia]
  rw [e]
  apply List.ext_getElem?
  intro i
  have : ∀ (l : List Nat), (∀ k ∈ l, k < items.size) -> l.filterMap (fun k => items[k]?) = l.map (fun k => items.getD k .none) := by
   intro l hl
   induction l with
   | nil => rfl
   | cons k l ih =>
    rw [List.filterMap_cons, List.map_cons, ih fun j hj => hl j (.tail _ hj)]
    rw [Array.getElem?_eq_getElem (hl k (.head _)), Array.getD_eq_getD_getElem?, Array.getElem?_eq_getElem (hl k (.head _))]
    rfl
  rw [this _ (fun k hk => by rw [List.mem_range] at hk; lia)]
  rw [List.getElem?_map, List.getElem?_take]
  by_cases hi : i < b
  · rw [if_pos hi, List.getElem?_range hi, Array.getElem?_toList, Array.getElem?_eq_getElem (by lia), Option.map_some, Array.getD_eq_getD_getElem?, Array.getElem?_eq_getElem (by lia)]
    rfl
  · rw [if_neg hi, List.getElem?_eq_none (by simp; lia)]; rfl
 rw [if_neg hno, hpick]
 first
  | exact wpAny_bind (m := Builtin.Tuple.tupleExact _) (wpAny_newObj_type (wpAny_pure ⟨_, rfl, wpAny_pure h⟩) htake)
  | exact wpAny_bind (m := Builtin.Tuple.tupleExact _) (wpAny_newObj_type (wpAny_bind (wpAny_pure (wpAny_pure ⟨_, rfl, wpAny_pure h⟩))) htake)
  | exact wpAny_bind (wpAny_bind (m := Builtin.Tuple.tupleExact _) (wpAny_newObj_type (wpAny_pure (wpAny_pure ⟨_, rfl, wpAny_pure h⟩)) htake))
  | exact wpAny_bind (wpAny_bind (m := Builtin.Tuple.tupleExact _) (wpAny_newObj_type (wpAny_pure ⟨_, rfl, wpAny_pure h⟩) htake))
end
section
variable {w : World} {X : Cf} {G : Gam} {σ σ' σ'' l6 : St} {s : Shared}
theorem Ev.sliceT {value : Expr} {upper : Expr} {σ₁ σ₂ : St} {b : Nat} {xs : List V} {p pos : Pos} (hl : Ev w X σ value (.tup xs) σ₁) (h2 : Ev w X σ₁ upper (.int b) σ₂) (hb : b < xs.length) :
 Ev w X σ (.Subscript value (.Slice none (some upper) none p) pos) (.tup (xs.take b)) σ₂ := fun G s h Q E hq => by
 refine u4 (hl G s h _ _ fun b8 u a7 c0 k₁ hu b9 => ?_)
 refine bE (cC (evalPart_none_step (pj (h2 _ a7 k₁ _ _ fun i6 vu a8 f6 i9 pu e7 => cC (evalPart_none_step ?_)))))
 obtain ⟨t, rfl⟩ := pu
 obtain ⟨ad, us, nn, rfl, g, hus, z⟩ := i9.tupAt (hu.mono f6)
 have z : xs.length ≤ 100000 := z
 have ht := hus.len
 have hT := isT g
 have hT' : IsTup (a8.heap.push { cls := .type "slice", data := .fields #[.none, .int b t, .none] }) ad us.toArray := hT.keeps fun _ _ e => Heap.get?_push_of_some _ e
 refine cC (i9.newI (a := a8.heap.objs.size + 1) (tk := a8.toks) (ob := C9 (us.take b) 0) (Nat.le_succ _) (Value.ref (a8.heap.objs.size + 1)) Q E (fun s' k' W1 => ?_) fun m news F N hk => ?_)
 · refine hq _ _ s' ((c0.trans f6).trans (Gam.le_imm ..)) k' ?_ ((b9.trans e7).trans W1)
   exact Ok.newT (a := a8.heap.objs.size + 1) (n := 0) i6 (hus.take b) (by show _ ≤ 100000; rw [List.length_take]; lia)
 · refine tail_any (s := { a8 with heap := a8.heap.push { cls := .type "slice", data := .fields #[.none, .int b t, .none] } }) (ops := [.ref a8.heap.objs.size, .ref ad]) hT'.typeIs slot_tuple_getitem.lookup
    (B8 hT' (Heap.IsSliceOf.new ..) (by rw [List.size_toArray]; lia) ?_ (by rw [List.size_toArray, sizeLine_eq]; lia)) rfl
   have N1 := News.push (F.push { cls := .type "slice", data := .fields #[.none, .int b t, .none] }) (N.grown fun _ _ e => Heap.get?_push_of_some _ e) (C9 (us.take b) 0)
   rw [Heap.size_push] at N1
   show Q (.ref (a8.heap.push _).objs.size) _
   rw [Heap.size_push]
   exact hk _ ((F.push _).push _) N1
noncomputable def V.sizeB : V -> Option Nat
 | .byt n => some n
 | _ => Option.none
theorem R2 {P : Params} : ∀ {xs : List V} {us : List Value} {ns : List Nat}, e8 (xs.map V.sizeB) = some ns -> d9 (RV P G) xs us -> ∃ bs : List (Array UInt8), bs.map (·.size) = ns ∧ bs.length = us.length ∧ ∀ (j : Nat) b, bs[j]? = some b -> ∃ t, us[j]? = some (Value.bytes b t)
 | [], us, ns, e, h => by cases h; cases e; exact ⟨[], rfl, rfl, fun j b e => by simp at e⟩
 | x :: xs, _, ns, e, .cons hu hus => by
  cases x with
  | byt n =>
   rw [List.map_cons] at e
   unfold e8 at e
   dsimp only [V.sizeB] at e
   split at e
   · rename_i ns' q
     cases e
     obtain ⟨bs, b1, b2, b3⟩ := R2 q hus
     obtain ⟨b, t, rfl, e1, e2⟩ := hu
     refine ⟨b :: bs, by rw [List.map_cons, b1, e1], by simp [b2], fun j b' e => ?_⟩
     cases j with
     | zero => cases e; exact ⟨t, rfl⟩
     | succ j => exact b3 j b' e
   · cases e
  | _ => cases e
theorem iA {k : Nat} {H : List O} {v : V} {xs : List V} {ns : List Nat} (e : deL H v = some xs) (hn : e8 (xs.map V.sizeB) = some ns) (h1 : xs.length ≠ 1) (hz : ns.sum ≤ big) : Cl w k (.builtin "bytes.join") H [.byt 0, v] (.byt ns.sum) H := fun X fr G s us hd h hus Q E hq => by
 obtain _ | ⟨hu, _ | ⟨hv, _ | _⟩⟩ := hus
 obtain ⟨b0, t0, rfl, e0, -⟩ := hu
 obtain ⟨a, us, nn, rfl, g, r, z⟩ := h.listAt e hv
 obtain ⟨bs, b1, b2, b3⟩ := R2 hn r
 have : b0 = #[] := Array.size_eq_zero_iff.mp e0
 subst this
 refine cC (eB g (by simpa using b2.symm) (fun j b e => by obtain ⟨t, q⟩ := b3 j b e; exact ⟨t, by simpa using q⟩) (by rw [b1]; exact hz) (by rw [List.size_toArray, ← r.len]; exact h1) fun rr t k hr => ?_)
 exact hq G _ _ (.refl G) h ⟨rr, t, rfl, by rw [hr, b1], hz⟩ ⟨rfl, rfl, rfl⟩
end
end
noncomputable def mV (k n : Nat) : Option V := bif Nat.beq k 0 && Nat.beq n 0 then some (.lst []) else bif Nat.beq k 1 && Nat.beq n 1 then some .none else bif Nat.beq k 2 && Nat.beq n 0 then some (.byt 4) else none
def yY : Pos := match z6 0 with | .List _ p => p | _ => default
def Gj : Nat × Pos := match z6 1 with | .Constant _ k p => (k, p) | _ => (0, default)
def Gi : Nat × Pos := match z6 2 with | .Constant _ k p => (k, p) | _ => (0, default)
theorem Gh : z6 0 = .List [] yY := by kernel_rfl
theorem Gg : z6 1 = .Constant .none Gj.1 Gj.2 := by kernel_rfl
theorem Gf : z6 2 = .Constant (.bytes [112, 101, 101, 114]) Gi.1 Gi.2 := by kernel_rfl
section
variable {w : World} {X : Cf} {G : Gam} {σ σ' σ'' : St} {s : Shared}
theorem Ok.lamAt (h : Ok w X G σ s) {k : Nat} {u : Value} (hu : RV w.params G (.lam k) u) : ∃ f pm c ct, u = .ref f ∧ (f, kla_obj "<lambda>" Z5 (L8 k) (z6 k) (w8 k) [] pm c ct) ∈ G.κ ∧ s.heap.CodeRec (.ref c) Z5 := by
 obtain ⟨f, o, rfl, h1, pm, c, ct, oc, vs, t, rfl, h2, h3, h4⟩ := hu
 exact ⟨f, pm, c, ct, rfl, h1, c, oc, vs, t, rfl, h.hasAt h2, h3, h4⟩
theorem bk {k : Nat} {v : V} {us : List Value} {u : Value} {binds : List (Str × Value)} (hm : Rm X 1) (h : Ok w X G σ s) (hu : RV w.params G (.lam k) u)
 (hb : ∀ pm c ct, bindArgs (kla_fn "<lambda>" Z5 (L8 k) (z6 k) (w8 k) [] pm (.ref c) ct) ⟨us, []⟩ = pure binds) (hl : ∀ y ∈ binds, (w8 k).names.lookup y.1 = some .local)
 (hsc : ((w8 k).isCoroutine, (w8 k).isGenerator, (w8 k).kind) = (false, false, .function)) (hcell : ∀ x ∈ (w8 k).names, x.2 ≠ .cell)
 (body : ∀ (A : Around) (env : Env) (E : VP) (a7 : Shared) (g : Heap) (L : Addr) (m : Str -> Option Value) (news : List (Addr × Obj)) (Q : VP), Fr g L a7.heap m -> News g L a7.heap news →
  (∀ u h' tk nw, Fr g L h' m -> News g L h' (nw ++ news) -> (∀ p ∈ nw, a7.heap.objs.size ≤ p.1) -> (∀ G', (∀ p ∈ nw, p ∈ G'.κ) -> RV w.params G' v u) -> Q u { a7 with heap := h', toks := tk }) -> wpAny (mdl w) A (eval (z6 k) env) Q E a7) : Gv w X G s (call u us) v σ := fun Q E hq => by
 obtain ⟨f, pm, c, ct, rfl, hf, hc⟩ := h.lamAt hu
 obtain ⟨m, obs, C, h1, h2, h3, hfr, hcf⟩ := id h
 obtain ⟨sc1, sc2, sc3⟩ : _ ∧ _ ∧ _ := by simpa only [Prod.mk.injEq] using hsc
 refine cC (wpAny_call (kla_code C.B C.F C.X C.N C.T rfl rfl C.k (aR (aL hf)) hc (by have := hm.1; show X.dp < 1000; lia) (hb pm c ct) hl (fun g L' b6 FG F' N' B' X' T' => ?_) sc1 sc2 sc3 hcell))
 refine body _ _ _ _ _ _ _ _ _ F' N' fun u h' tk nw F2 N2 hge hv => ?_
 refine leaveK_ F2 N2 fun kF kN => ?_
 have hlt : ∀ p ∈ List.zip G.ρ obs ++ (G.κ ++ G.θ), p.1 < b6.objs.size := fun p hp => Heap.lt_size (N' p hp).1
 have hne : ∀ p ∈ nw, ∀ q ∈ List.zip G.ρ obs ++ (G.κ ++ G.θ), p.1 ≠ q.1 := fun p hp q hq e => by
  have a := hge p hp; have b := hlt q hq; rw [e] at a; exact absurd b (Nat.not_lt.mpr a)
 have l : Le G ⟨nw ++ G.κ, G.ρ, G.θ⟩ := ⟨fun p hp => aR hp, ⟨[], (List.append_nil _).symm⟩, rfl⟩
 refine hq ⟨nw ++ G.κ, G.ρ, G.θ⟩ u _ l ⟨m, obs, ⟨C.B, kF, C.X, fun p hp => ?_, C.T, C.k⟩, h1, ⟨h2.nd, fun p hp hm => ?_, h2.tr, fun p hp q hq => ?_⟩, h3.imp fun _ _ r => r.mono l, hfr.mono l, hcf.mono l⟩ (hv _ fun p hp => aL hp) ⟨rfl, rfl, rfl⟩
 · rcases aM hp with q | q
   · exact kN p (aR (aL q))
   · rcases aM q with q | q
     · rcases aM q with q | q
       · exact kN p (aL q)
       · exact kN p (aR (aR (aL q)))
     · exact kN p (aR (aR (aR q)))
 · rcases aM hp with q | q
   · obtain ⟨i, hi⟩ := List.mem_iff_getElem?.mp hm
     have hil : i < obs.length := h1 ▸ (List.getElem?_eq_some_iff.mp hi).1
     exact hne p q (p.1, obs[i]) (aL (List.mem_iff_getElem?.mpr ⟨i, by rw [List.getElem?_zip_eq_some]; exact ⟨hi, List.getElem?_eq_getElem hil⟩⟩)) rfl
   · exact h2.kr p q hm
 · rcases aM hp with z | z
   · exact hne p z q (aR (aR hq))
   · exact h2.kt p z q hq
theorem oR {k : Nat} {v : V} {vs : List V} {us : List Value} {u : Value} (e : mV k vs.length = some v) (hm : Rm X 1) (h : Ok w X G σ s) (hu : RV w.params G (.lam k) u) (hus : d9 (RV w.params G) vs us) : Gv w X G s (call u us) v σ := by
 have hl := hus.len
 rw [hl] at e
 refine cdE e (fun c e => ?_) fun _ e => cdE e (fun c e => ?_) fun _ e => i5 e fun c e => ?_
 · have hz := Nat.eq_of_beq_eq_true (i0 c).2
   cases e
   obtain rfl := Nat.eq_of_beq_eq_true (i0 c).1
   obtain rfl := List.length_eq_zero_iff.mp hz
   refine bk (binds := []) hm h hu (fun pm c ct => by kernel_rfl) (fun y hy => by cases hy) (by kernel_rfl) (by rw [show (w8 0).names = [] by kernel_rfl]; intro x hx; cases hx) fun A env E a7 g L m news Q F N hq => ?_
   rw [Gh]
   show wpAny _ _ (standAt yY >>= fun _ => spliced (backTo yY (starEach [] env)) >>= newList) _ _ _
   refine wpAny_bind (wpAny_standAt (wpAny_bind (spliced_none (newList_N F N fun h' F' N' => ?_))))
   refine hq _ h' a7.toks [(a7.heap.objs.size, listOf [].toArray 0)] F' N' (fun p hp => by rw [nM hp]; exact Nat.le_refl _) fun G' hG => ⟨_, [], 0, rfl, .inl (hG _ (.head _)), rfl, by decide⟩
 · have hz := Nat.eq_of_beq_eq_true (i0 c).2
   cases e
   obtain rfl := Nat.eq_of_beq_eq_true (i0 c).1
   obtain ⟨u0, rfl⟩ := List.length_eq_one_iff.mp hz
   refine bk (binds := [(("room" : Str), u0)]) hm h hu (fun pm c ct => by kernel_rfl) (fun y hy => by rw [nM hy]; kernel_rfl) (by kernel_rfl) (by rw [show (w8 1).names = [(("room" : Str), NameKind.local)] by kernel_rfl]; intro x hx; rw [nM hx]; decide) fun A env E a7 g L m news Q F N hq => ?_
   rw [Gg]
   exact wpAny_Constant_none (hq .none a7.heap a7.toks [] F N (fun p hp => by cases hp) fun G' hG => rfl)
 · have hz := Nat.eq_of_beq_eq_true (i0 c).2
   cases e
   obtain rfl := Nat.eq_of_beq_eq_true (i0 c).1
   obtain rfl := List.length_eq_zero_iff.mp hz
   refine bk (binds := []) hm h hu (fun pm c ct => by kernel_rfl) (fun y hy => by cases hy) (by kernel_rfl) (by rw [show (w8 2).names = [] by kernel_rfl]; intro x hx; cases hx) fun A env E a7 g L m news Q F N hq => ?_
   rw [Gf]
   exact Constant_bytes (hq _ a7.heap (a7.toks + 1) [] F N (fun p hp => by cases hp) fun G' hG => ⟨_, _, rfl, rfl, by decide⟩)
theorem oS {k : Nat} {f : Addr} (h : Ok w X G σ s) (hu : RV w.params G (.lam k) (.ref f)) : FnAt f s.heap := by
 obtain ⟨f', pm, c, ct, e, hf, -⟩ := h.lamAt hu
 cases e
 exact ⟨_, _, _, _, h.hasAt (.inl hf)⟩
theorem L1 {l d k : Nat} {C : Addr} {es' : List (Str × V)} {o : Expr} {name : Str} {apos pos : Pos} {es : List Expr} {Q : VP} {E : VP}
 (hv : Ev w X σ o (.ref l) σ') (ho : σ'.hp[l]? = some (.inst C d)) (hdd : σ'.hp[d]? = some (.dict es')) (hl : es'.lookup name = some (.lam k)) (hg : H4 w.params C name) (hno : findIn (K w.params) (.ref C) name = some none)
 (hst : es.all i7 = true) (hnc : l9 o = true) (hn : Nat.ble es.length 29 = true) (hp : (apos.endLine == pos.line) = true) (h : Ok w X G σ s)
 (hk : ∀ b8 a7 f, Le G b8 -> j3 s a7 -> Ok w X b8 σ' a7 -> RV w.params b8 (.lam k) (.ref f) -> wpC (mdl w) (tp X) (callWith pos (.ref f) [] (backTo pos (starEach es (eX X))) []) Q E a7) :
 wpC (mdl w) (tp X) (eval (.Call (.Attribute o name apos) es [] pos) (eX X)) Q E s := by
 refine v5 (hv G s h _ _ fun b8 u a7 c0 b6 hu b9 => ?_) (J4 hnc hst hn hp)
 obtain ⟨a, ad, sl, des, n, k1, k2, I, k3⟩ := b6.inst ho hdd
 obtain ⟨a', q1, rfl⟩ := hu
 obtain rfl : a = a' := by rw [k1] at q1; exact Option.some.inj q1
 obtain ⟨attr, g1, g2, g3, g4⟩ := hg
 obtain ⟨uf, huf, hr⟩ := cT k3 hl
 obtain ⟨m, obs, Cx, hh1, hh2, hh3, hf, hcc⟩ := id b6
 refine cC (method_usual b6.kin I (plainGet_of g1).1 (plainGet_of g1).2 hno rfl ?_)
 refine get_own Cx.F Cx.X I g1 g2 g3 g4 huf (K8 hr rfl) ?_
 dsimp only
 obtain ⟨f, pm, c, ct, rfl, -⟩ := b6.lamAt hr
 exact hk b8 _ f c0 ⟨b9.1, b9.2.1, b9.2.2⟩ b6 hr
theorem Ev.methL {l d k : Nat} {C : Addr} {es' : List (Str × V)} {o e : Expr} {name : Str} {apos pos : Pos} {es : List Expr} {vs : List V} {v : V}
 (hv : Ev w X σ o (.ref l) σ') (ho : σ'.hp[l]? = some (.inst C d)) (hdd : σ'.hp[d]? = some (.dict es')) (hl : es'.lookup name = some (.lam k)) (hg : H4 w.params C name) (hno : findIn (K w.params) (.ref C) name = some none)
 (ha : Es w X σ' (e :: es) vs σ'') (hc : mV k vs.length = some v) (hd : Rm X 1) (hst : (e :: es).all i7 = true) (hnc : l9 o = true) (hn : Nat.ble (e :: es).length 29 = true) (hp : (apos.endLine == pos.line) = true) :
 Ev w X σ (.Call (.Attribute o name apos) (e :: es) [] pos) v σ'' := fun G s h Q E hq => by
 refine L1 hv ho hdd hl hg hno hst hnc hn hp h fun b8 a7 f c0 b9 b6 hr => ?_
 rw [List.all_cons, Bool.and_eq_true] at hst
 have z := ha pos b8 a7 b6
 rw [g0 hst.1] at z ⊢
 refine u5 (P := FnAt f) (by show (false || (backTo pos (starEach es _)).any (·.1)) = false; rw [p6 hst.2]; rfl) keeps_F (A0 ?_)
 exact z _ _ fun i6 us a8 f6 f8 hus e7 => ⟨oS f8 (hr.mono f6), oR hc hd f8 (hr.mono f6) hus _ _ fun n9 u f7 m5 i8 hu n8 => hq n9 u f7 ((c0.trans f6).trans m5) i8 hu ((b9.trans e7).trans n8)⟩
theorem Ev.methL0 {l d k : Nat} {C : Addr} {es' : List (Str × V)} {o : Expr} {name : Str} {apos pos : Pos} {v : V}
 (hv : Ev w X σ o (.ref l) σ') (ho : σ'.hp[l]? = some (.inst C d)) (hdd : σ'.hp[d]? = some (.dict es')) (hl : es'.lookup name = some (.lam k)) (hg : H4 w.params C name) (hno : findIn (K w.params) (.ref C) name = some none)
 (hc : mV k 0 = some v) (hd : Rm X 1) (hnc : l9 o = true) (hp : (apos.endLine == pos.line) = true) :
 Ev w X σ (.Call (.Attribute o name apos) [] [] pos) v σ' := fun G s h Q E hq => by
 refine L1 hv ho hdd hl hg hno rfl hnc rfl hp h fun b8 a7 f c0 b9 b6 hr => ?_
 exact u5 rfl keeps_F (cC (evalArgs_nil3 ⟨oS b6 hr, oR (vs := []) hc hd b6 hr .nil _ _ fun n9 u f7 m5 i8 hu n8 => hq n9 u f7 (c0.trans m5) i8 hu (b9.trans n8)⟩))
theorem Ok.updF {l : Nat} {x : O} (h : Ok w X G σ s) (hx : σ.hp[l]? = some x) : ∃ a ob m obs g, G.ρ[l]? = some a ∧ obs[l]? = some ob ∧ RO w.params G x ob ∧ Cx w X.p X.loose X.mean X.mg X.mb X.dp X.un X.cs X.A₀ X.base X.outer X.h₀ X.L s.heap m (List.zip G.ρ obs ++ (G.κ ++ G.θ)) ∧ G.ρ.length = obs.length ∧ oy G ∧ d9 (RO w.params G) σ.hp obs ∧ Frm w.params X G σ.fr m ∧ CF w.params X G ∧
 UpdF a ob (List.zip G.ρ obs ++ (G.κ ++ G.θ)) g ∧ ∀ o', g o' = List.zip G.ρ (obs.set l o') ++ (G.κ ++ G.θ) := by
 obtain ⟨m, obs, C, h1, h2, h3, hf, hc⟩ := h
 obtain ⟨ob, e2, r2⟩ := h3.get hx
 have hl : l < G.ρ.length := by rw [h1]; exact (List.getElem?_eq_some_iff.mp e2).1
 have ha : G.ρ[l]? = some G.ρ[l] := List.getElem?_eq_getElem hl
 have hm : G.ρ[l] ∈ G.ρ := List.getElem_mem hl
 have U : ∀ o', Upd G.ρ[l] ob o' (List.zip G.ρ obs ++ (G.κ ++ G.θ)) (List.zip G.ρ (obs.set l o') ++ (G.κ ++ G.θ)) := fun o' => bU (R7 h2.nd h1 ha e2) fun p hp => by
  rcases aM hp with q | q
  · exact fun e => h2.kr p q (e ▸ hm)
  · exact fun e => h2.tr p q (e ▸ hm)
 have key : ∀ {d : Addr} {o : Obj} {l1 : List (Addr × Obj)} (f : Obj -> List (Addr × Obj)), (∀ o', Upd d o o' l1 (f o')) -> ∃ g, UpdF d o l1 g ∧ ∀ o', g o' = f o' := by
  intro d o l1
  induction l1 with
  | nil => intro f hU; cases hU o
  | cons p r ih =>
   intro f hU
   by_cases e : p.1 = d
   · obtain ⟨b, x⟩ := p
     have e : b = d := e
     subst e
     have hr : (∀ q ∈ r, q.1 ≠ b) ∧ x = o := by
      have z := hU o
      generalize f o = l2 at z
      cases z with
      | head h => exact ⟨h, rfl⟩
      | tail h _ => exact absurd rfl h
     obtain ⟨hr, rfl⟩ := hr
     refine ⟨_, .head hr, fun o' => ?_⟩
     have z := hU o'
     generalize f o' = l2 at z
     cases z with
     | head _ => rfl
     | tail h _ => exact absurd rfl h
   · have hU' : ∀ o', ∃ r', f o' = p :: r' ∧ Upd d o o' r r' := fun o' => by
      have z := hU o'
      generalize f o' = l2 at z
      cases z with
      | head _ => exact absurd rfl e
      | tail _ h => exact ⟨_, rfl, h⟩
     obtain ⟨g, hg, hge⟩ := ih (fun o' => (hU' o').choose) fun o' => (hU' o').choose_spec.2
     exact ⟨_, .tail e hg, fun o' => by rw [hge]; exact (hU' o').choose_spec.1.symm⟩
 obtain ⟨g, hg, hge⟩ := key _ U
 exact ⟨_, ob, m, obs, g, ha, e2, r2, C, h1, h2, h3, hf, hc, hg, hge⟩
theorem bP {q : Pos} {a b : Nat} {c : Value} (l : List Value) (h : TriplesOk l) (hn : codeAmong q l = none) (hne : ¬ (q.line = a ∧ q.col = b)) : codeAmong q (l ++ [rawInt a, rawInt b, c]) = none := by
 fun_induction TriplesOk l with
 | case1 =>
  simp only [List.nil_append, rawInt, codeAmong]
  rw [if_neg]
  simp only [Bool.and_eq_true, beq_iff_eq]
  exact fun e => hne ⟨by have := e.1; lia, by have := e.2; lia⟩
 | case2 a t b u x rest ih =>
  simp only [List.cons_append, codeAmong] at hn ⊢
  split at hn
  · cases hn
  · rename_i hc; rw [if_neg hc]; exact ih h hn
 | case3 l h1 h2 => exact h.elim
theorem eU (P : Params) : codeHdIn (K P) 998 996 = true := by kernel_rfl
theorem Ev.lam {k : Nat} {params : Arguments} {body : Expr} {scope : Scope} {pos : Pos} {fr : List (Str × V)} {H : List O} {ks : List (Nat × Nat)} (hL : dK[k]? = some (.Lambda params body scope pos)) (hco : X.co = none) (hcn : X.cn = "_law_state") (hcc : X.ccd = .ref 998)
 (hdf : ∀ env, defaultsOf params env = ([], [])) (hcl : ∀ env, closureFor scope env = pure []) (hp : (pos.line, pos.col) ∉ ks) :
 Ev w X ⟨fr, .tab ks :: H⟩ (.Lambda params body scope pos) (.lam k) ⟨fr, .tab ((pos.line, pos.col) :: ks) :: H⟩ := fun G s h Q E hq => by
 obtain ⟨a, ob, m, obs, g, ha, hob, ⟨ps, rfl, t1, t2, t3⟩, C, h1, h2, h3, hf, hc, U, hg⟩ := h.updF (l := 0) (x := .tab ks) rfl
 obtain rfl : a = 996 := by
  cases hr : G.ρ with
  | nil => rw [hr] at t3; cases t3
  | cons b r => rw [hr] at t3 ha; cases t3; cases ha; rfl
 have ee : eX X = envX X.cn X.cs X.L X.a X.ccd X.cl := by unfold eX; rw [hco]
 rw [ee]
 refine cC (kla_eval (hdf _) (kla_nest C.F C.N C.T (codeHd_of_K C.X (eU _)) hcc U t1 (t2 pos hp) (hcl _) fun f c' oc vs t ctv h' tk F' N' hd hv hlt hlt2 => ?_))
 rw [hg] at N'
 have e1 : L8 k = params := by unfold L8; rw [hL]
 have e2 : z6 k = body := by unfold z6; rw [hL]
 have e3 : w8 k = scope := by unfold w8; rw [hL]
 have e4 : (envX X.cn X.cs X.L X.a X.ccd X.cl).qual ++ "<lambda>" = Z5 := by rw [hcn]; kernel_rfl
 rw [e4] at N' hv
 have l : Le G ⟨(f, kla_obj "<lambda>" Z5 params body scope [] ((X.mg "__name__").getD .none) c' ctv) :: (c', oc) :: G.κ, G.ρ, G.θ⟩ := ⟨fun p hp => .tail _ (.tail _ hp), ⟨[], (List.append_nil _).symm⟩, rfl⟩
 have old : ∀ q ∈ List.zip G.ρ obs ++ (G.κ ++ G.θ), q.1 ≠ c' ∧ q.1 ≠ f := fun q hq' => ⟨Nat.ne_of_lt (hlt q hq'), Nat.ne_of_lt (Nat.lt_trans (hlt q hq') hlt2)⟩
 have oldr : ∀ b ∈ G.ρ, b ≠ c' ∧ b ≠ f := fun b hb => by
  obtain ⟨o, ho⟩ := C5 h1 hb
  exact old (b, o) (aL ho)
 refine hq ⟨(f, kla_obj "<lambda>" Z5 params body scope [] ((X.mg "__name__").getD .none) c' ctv) :: (c', oc) :: G.κ, G.ρ, G.θ⟩ (.ref f) _ l ⟨m, obs.set 0 (tabObj (ps ++ #[rawInt pos.line, rawInt pos.col, .ref c'])), ⟨C.B, F', C.X, fun p hp => ?_, C.T, C.k⟩, by rw [List.length_set]; exact h1, ⟨h2.nd, fun p hp hm => ?_, h2.tr, fun p hp q hq' => ?_⟩, ?_, hf.mono l, hc.mono l⟩ ⟨f, _, rfl, .head _, _, c', ctv, oc, vs, t, by rw [e1, e2, e3], .inl (.tail _ (.head _)), hd, hv⟩ ⟨rfl, rfl, rfl⟩
 · rcases aM hp with q | q
   · exact N' p (.tail _ (.tail _ (aL q)))
   · rcases aM q with q | q
     · rcases mC q with rfl | q
       · exact N' _ (.head _)
       · rcases mC q with rfl | q
         · exact N' _ (.tail _ (.head _))
         · exact N' p (.tail _ (.tail _ (aR (aL q))))
     · exact N' p (.tail _ (.tail _ (aR (aR q))))
 · rcases mC hp with rfl | hp
   · exact (oldr _ hm).2 rfl
   · rcases mC hp with rfl | hp
     · exact (oldr _ hm).1 rfl
     · exact h2.kr p hp hm
 · have z := old q (aR (aR hq'))
   rcases mC hp with rfl | hp
   · exact Ne.symm z.2
   · rcases mC hp with rfl | hp
     · exact Ne.symm z.1
     · exact h2.kt p hp q hq'
 · have z := (h3.imp fun _ _ r => r.mono l).set (i := 0) (a := .tab ((pos.line, pos.col) :: ks)) (b := tabObj (ps ++ #[rawInt pos.line, rawInt pos.col, .ref c'])) ⟨_, rfl, by rw [Array.toList_append]; exact TriplesOk_snoc _ _ _ _ t1, fun q hq2 => ?_, t3⟩
   · exact z
   · rw [Array.toList_append]
     rw [List.mem_cons, not_or] at hq2
     exact bP _ t1 (t2 q hq2.2) fun e => hq2.1 (Prod.ext e.1 e.2)
end
structure Kt where
 kinds : List (Str × NameKind)
 cf : List (Str × V)
 co : Bool
structure Sx where
 fr : List (Str × V)
 hp : List O
 as : List (Nat × Nat × Bool)
 ob : List Prop
noncomputable def Sx.st (S : Sx) : St := ⟨S.fr, S.hp⟩
noncomputable def Sx.add (S : Sx) (ps : List Prop) : Sx := ⟨S.fr, S.hp, S.as, ps ++ S.ob⟩
noncomputable def Sx.to (S : Sx) (hp : List O) : Sx := ⟨S.fr, hp, S.as, S.ob⟩
noncomputable def Sx.put (S : Sx) (x : Str) (v : V) : Sx := ⟨(x, v) :: S.fr, S.hp, S.as, S.ob⟩
structure Fn where
 xs : List Str
 body : List Stmt
 sc : Scope
noncomputable def Fn.frOf (fn : Fn) (vs : List V) : List (Str × V) := ((List.zip fn.xs vs).filter fun p => fn.sc.names.lookup p.1 == some .local).reverse
noncomputable def Fn.cfOf (fn : Fn) (vs : List V) : List (Str × V) := ((List.zip fn.xs vs).filter fun p => fn.sc.names.lookup p.1 == some .cell).reverse
structure Tb where
 glob : Str -> Option V
 bi : Str -> Option Value
 keep : Addr -> Bool
 fn : Addr -> Option Fn
 spec : Addr -> List O -> List V -> Option (V × List O × List Prop)
 get : Addr -> Str -> Bool
 set : Addr -> Str -> Bool
 met : Addr -> Str -> Option Addr
 cls : Addr -> Option Addr
 mu : Nat -> Nat -> Bool
 bare : Addr -> Str -> Bool
structure Rn where
 ev : Kt -> Expr -> Sx -> Option (V × Sx)
 es : Kt -> List Expr -> Sx -> Option (List V × Sx)
 te : Kt -> Expr -> Sx -> Option (Bool × Sx)
 s1 : Kt -> Stmt -> Sx -> Option (Fl × Sx)
 ss : Kt -> List Stmt -> Sx -> Option (Fl × Sx)
 asg : Kt -> Expr -> V -> Sx -> Option Sx
 als : Kt -> List Expr -> List V -> Sx -> Option Sx
 lp : Kt -> Expr -> List Stmt -> List V -> Sx -> Option (Fl × Sx)
 cm : Kt -> Option Expr -> Expr -> Str -> List V -> Sx -> Option (List V × Sx)
 fnc : Addr -> List V -> Sx -> Option (V × Sx)
 cal : Value -> List V -> Sx -> Option (V × Sx)
def M5 (hp : List O) (l : Nat) : Option (Addr × Nat × List (Str × V)) := (hp[l]?.bind GH).bind fun i => (hp[i.2]?.bind pe).map fun es => (i.1, i.2, es)
def M4 (hp : List O) (l : Nat) : Option (List V) := hp[l]?.bind nj
noncomputable def iG : Value -> Option Addr
 | .ref a => some a
 | _ => none
noncomputable def FJ (T : Tb) (κ : Kt) (x : Str) (fr : List (Str × V)) : NameKind -> Option V
 | .local => fr.lookup x
 | .cell => κ.cf.lookup x
 | .globalImplicit => (match T.glob x with
  | some v => some v
  | none => (T.bi x).map V.val)
 | _ => none
def ig (T : Tb) (κ : Kt) (x : Str) (fr : List (Str × V)) : Option V := bif x == ("__debug__" : Str) then none else (κ.kinds.lookup x).bind (FJ T κ x fr)
def jh : Const -> Option V
 | .none => some .none
 | .bool b => some (.bool b)
 | .int i => some (.int i)
 | .str x => some (.str x)
 | .bytes b => bif Nat.ble b.length big then some (.byt b.length) else none
 | _ => none
noncomputable def told (S : Sx) (pos : Pos) (c : Bool) : Bool × Sx := match S.as with
 | (l, cc, b) :: r => bif Nat.beq l pos.line && Nat.beq cc pos.col then (b, ⟨S.fr, S.hp, r, (c = b) :: S.ob⟩) else (c, S)
 | [] => (c, S)
def mo (R : Rn) (κ : Kt) (l : Expr) (ops : List CmpOp) (rs : List Expr) (pos : Pos) (S : Sx) : Option (Bool × Sx) := (one ops).bind fun op => (one rs).bind fun r => (R.ev κ l S).bind fun p => (R.ev κ r p.2).bind fun q => bif l8 r then (F3 q.2.hp op p.1 q.1).map fun c => told q.2 pos c else none
def rCh (R : Rn) (κ : Kt) (l : Expr) (ops : List CmpOp) (rs : List Expr) (pos : Pos) (S : Sx) : Option (Bool × Sx) := (two ops).bind fun o => (two rs).bind fun t => bif l8 t.2 then (R.ev κ l S).bind fun p => (R.ev κ t.1 p.2).bind fun q => (R0 q.2.hp o.1 p.1 q.1).bind fun c => bif (told q.2 pos c).1 then
 (R.ev κ t.2 (told q.2 pos c).2).bind fun r => (R0 r.2.hp o.2 q.1 r.1).map fun c => told r.2 pos c
 else some (false, (told q.2 pos c).2)
 else none
def zo (hp : List O) (l : Nat) : Option Nat := hp[l]?.bind GI
noncomputable def jg (xs : List V) (lo hi : Option Int) : Option (List V) := match lo with
 | some a => (match hi with | none => bif decide (0 ≤ a) then some (xs.drop a.toNat) else none | some _ => none)
 | none => (match hi with | some b => bif decide (0 ≤ b) then some (xs.take b.toNat) else none | none => none)
def hF (R : Rn) (κ : Kt) (e : Option Expr) (S : Sx) : Option (Option Int × Sx) := match e with
 | none => some (none, S)
 | some e => (R.ev κ e S).bind fun p => (j5 p.1).map fun k => (some k, p.2)
noncomputable def pc (lo hi : Option Expr) : Option Expr := match lo with
 | none => hi
 | some _ => none
noncomputable def bu : Expr -> Option (Option Expr × Option Expr)
 | .Slice lo hi st _ => (match st with | none => some (lo, hi) | some _ => none)
 | _ => none
def oJ (R : Rn) (κ : Kt) (s : Option Expr × Option Expr) (xs : List V) (S : Sx) : Option (V × Sx) := (pc s.1 s.2).bind fun e => (R.ev κ e S).bind fun q => (j5 q.1).bind fun b => bif decide (0 ≤ b) && decide (b < xs.length) then some (.tup (xs.take b.toNat), q.2) else none
def oK (R : Rn) (κ : Kt) (s : Option Expr × Option Expr) (v : V) (S : Sx) : Option (V × Sx) := (hF R κ s.1 S).bind fun q => (hF R κ s.2 q.2).bind fun r => (deL r.2.hp v).bind fun xs => (jg xs q.1 r.1).map fun ys => (.lst ys, r.2)
def pY (R : Rn) (κ : Kt) (v i : Expr) (S : Sx) : Option (V × Sx) := match bu i with
 | some s => (R.ev κ v S).bind fun p => (match F1 p.1 with
  | some xs => oJ R κ s xs p.2
  | none => oK R κ s p.1 p.2)
 | none => bif r8 i then (R.ev κ v S).bind fun p => (R.ev κ i p.2).bind fun q => (cG q.2.hp p.1 q.1).map fun v => (v, q.2) else none
def pp (name : Str) (a u : V) (hp0 hp : List O) : Option (V × List O × List Prop) := match a with
 | .ref l => (M4 hp0 l).bind fun _ => (M4 hp l).bind fun xs => bif name == ("append" : Str) then some (.none, hp.set l (.list (xs ++ [u])), [xs.length < big])
  else bif name == ("extend" : Str) then (deL hp u).map fun ys => (.none, hp.set l (.list (xs ++ ys)), [xs.length + ys.length ≤ big]) else none
 | .tup xs => bif name == ("index" : Str) then (j5 u).bind fun k => bif xs.all V.anyInt then (xs.findIdx? (V.isInt k)).map fun (j : Nat) => (V.int (j : Int), hp, []) else none else none
 | .lst xs => bif name == ("index" : Str) then (iQ u).bind fun k => bif xs.all V.anyStr then (xs.findIdx? (V.isStr k)).map fun (j : Nat) => (V.int (j : Int), hp, []) else none else none
 | .byt n => bif name == ("join" : Str) && Nat.beq n 0 then (deL hp u).bind fun xs => (e8 (xs.map V.sizeB)).bind fun ns => bif Nat.beq xs.length 1 then none else some (.byt ns.sum, hp, [ns.sum ≤ big]) else none
 | _ => none
def oL (T : Tb) (R : Rn) (κ : Kt) (o : Expr) (name : Str) (apos : Pos) (es : List Expr) (pos : Pos) (S : Sx) : Option (V × Sx) :=
 bif l9 o && es.all i7 && Nat.ble es.length 29 && (apos.endLine == pos.line) then
  (R.ev κ o S).bind fun p => match (I7 p.1).bind (M5 p.2.hp) with
   | some i => (I7 p.1).bind fun l => (match i.2.2.lookup name with
    | some u => (GG u).bind fun k => bif T.get i.1 name && T.bare i.1 name then (R.es κ es p.2).bind fun q => (mV k q.1.length).map fun v => (v, q.2) else none
    | none => (T.met i.1 name).bind fun f => (R.es κ es p.2).bind fun q => R.cal (.ref f) (.ref l :: q.1) q.2)
   | none => (one es).bind fun e => (R.ev κ e p.2).bind fun q => (pp name p.1 q.1 p.2.hp q.2.hp).map fun r => (r.1, ⟨q.2.fr, r.2.1, q.2.as, r.2.2 ++ q.2.ob⟩)
 else none
def oM (T : Tb) (R : Rn) (κ : Kt) (f : Expr) (es : List Expr) (pos : Pos) (S : Sx) : Option (V × Sx) := match f with
 | .Name x p => (R.ev κ (.Name x p) S).bind fun p => (GD p.1).bind fun f => bif es.all i7 then (R.es κ es p.2).bind fun q => R.cal f q.1 q.2 else none
 | .Attribute o name apos => oL T R κ o name apos es pos S
 | _ => none
noncomputable def pX (κ : Kt) (scope : Scope) : List (Str × NameKind) := scope.names.map fun (n, k) => if (k == .free && true && κ.kinds.lookup n == some .cell) then (n, .cell) else (n, k)
def inner (κ : Kt) (scope : Scope) : Kt := ⟨pX κ scope, κ.cf.filter fun p => scope.names.lookup p.1 == some .free, true⟩
noncomputable def oO : List Expr -> Option (Option Expr)
 | [] => some none
 | c :: r => match r with | [] => some (some c) | _ :: _ => none
noncomputable def tgN : Expr -> Option (Str × Bool)
 | .Name x _ => some (x, true)
 | .Tuple ts _ _ => (match ts with
  | [] => none
  | t :: _ => (match t with | .Name x _ => some (x, false) | _ => none))
 | _ => none
def cj (R : Rn) (κ : Kt) (elt : Expr) (gens : List Comprehension) (scope : Scope) (S : Sx) : Option (List V × Sx) := (one gens).bind fun g => (tgN g.target).bind fun t => bif !κ.co && (g.is_async == 0) && l8 g.iter && y7 scope t.1 && (scope.names.all fun y => decide (y.2 = .free -> (κ.cf.lookup y.1).isSome = true)) then
 (R.ev κ g.iter S).bind fun p => (u9 p.1).bind fun xs => (oO g.ifs).bind fun ct => bif t.2 || xs.isEmpty then (R.cm (inner κ scope) ct elt t.1 xs p.2).map fun q => (q.1, ⟨p.2.fr, q.2.hp, q.2.as, q.2.ob⟩) else none
 else none
def Ao (R : Rn) (κ : Kt) (op : UnaryOp) (e : Expr) (S : Sx) : Option (V × Sx) := match op with
 | .USub => (R.ev κ e S).bind fun p => (j5 p.1).map fun n => (.int (-n), p.2)
 | .Not => (R.ev κ e S).bind fun p => (da p.1).map fun b => (.bool (!b), p.2)
 | _ => none
def fi (R : Rn) (κ : Kt) (op : BoolOp) (es : List Expr) (pos : Pos) (S : Sx) : Option (V × Sx) := match es with
 | [] => none
 | e :: r => match r with
  | [] => R.ev κ e S
  | e2 :: es => (R.ev κ e S).bind fun p => (da p.1).bind fun b => match op with
   | .And => (match b with | true => R.ev κ (.BoolOp .And (e2 :: es) pos) p.2 | false => some (.bool false, p.2))
   | .Or => (match b with | false => R.ev κ (.BoolOp .Or (e2 :: es) pos) p.2 | true => some (.bool true, p.2))
noncomputable def At (R : Rn) (κ : Kt) (a b : Expr) (c : Bool) (S : Sx) : Option (V × Sx) := match c with | true => R.ev κ a S | false => R.ev κ b S
def fg (T : Tb) (R : Rn) (κ : Kt) (es : List Expr) (pos : Pos) (S : Sx) : Option (V × Sx) := bif es.all i7 then (R.es κ es S).bind fun p => bif Nat.ble p.1.length big then
 (bif T.mu pos.line pos.col then some (.ref p.2.hp.length, p.2.to (p.2.hp ++ [.list p.1])) else some (.lst p.1, p.2)) else none else none
def fq (T : Tb) (R : Rn) (κ : Kt) (v : Expr) (x : Str) (S : Sx) : Option (V × Sx) := bif l9 v then (R.ev κ v S).bind fun p => (I7 p.1).bind fun l => (M5 p.2.hp l).bind fun i => bif T.get i.1 x then (i.2.2.lookup x).bind fun v => bif okV v then some (v, p.2) else none else none else none
def fh (κ : Kt) (keys : List (Option Expr)) (es : List Expr) (S : Sx) : Option (V × Sx) := (M8 (fun x => κ.kinds.lookup x) S.fr keys es).bind fun ps => bif Nat.ble ps.length 15 && decide (ps.map (·.1)).Nodup then some (.dct (ps.map (·.1)) (ps.map (·.2)), S) else none
def fb (T : Tb) (R : Rn) (κ : Kt) : Expr -> Sx -> Option (V × Sx)
 | .Constant c _ _, S => (jh c).map fun v => (v, S)
 | .Name x _, S => (ig T κ x S.fr).map fun v => (v, S)
 | .BinOp l op r _, S => (R.ev κ l S).bind fun p => (R.ev κ r p.2).bind fun q => (R3 q.2.hp op p.1 q.1).map fun c => (c.1, q.2.add c.2)
 | .UnaryOp op e _, S => Ao R κ op e S
 | .BoolOp op es pos, S => fi R κ op es pos S
 | .IfExp t a b _, S => (R.te κ t S).bind fun p => At R κ a b p.1 p.2
 | .Compare l ops rs pos, S => (mo R κ l ops rs pos S).map fun p => (.bool p.1, p.2)
 | .Tuple es _ _, S => bif es.all i7 then (R.es κ es S).bind fun p => bif Nat.ble p.1.length big then some (.tup p.1, p.2) else none else none
 | .List es pos, S => fg T R κ es pos S
 | .Attribute v x _, S => fq T R κ v x S
 | .Subscript v i _, S => pY R κ v i S
 | .Call f es ks pos, S => (match ks with | [] => oM T R κ f es pos S | _ => none)
 | .ListComp elt gens scope _, S => (cj R κ elt gens scope S).map fun p => (.lst p.1, p.2)
 | .Dict keys es _, S => fh κ keys es S
 | _, _ => none
noncomputable def oG (R : Rn) (κ : Kt) (op : BoolOp) (es : List Expr) (pos : Pos) (S : Sx) : Option (Bool × Sx) := match es with
 | [] => some (match op with | .And => true | .Or => false, S)
 | e :: es => (R.te κ e S).bind fun p => match op with
  | .And => (match p.1 with | true => R.te κ (.BoolOp .And es pos) p.2 | false => some (false, p.2))
  | .Or => (match p.1 with | false => R.te κ (.BoolOp .Or es pos) p.2 | true => some (true, p.2))
def fe (R : Rn) (κ : Kt) (l : Expr) (ops : List CmpOp) (rs : List Expr) (pos : Pos) (S : Sx) : Option (Bool × Sx) := match mo R κ l ops rs pos S with | some r => some r | none => rCh R κ l ops rs pos S
def Aq (R : Rn) (κ : Kt) (e : Expr) (S : Sx) : Option (Bool × Sx) := match e with
 | .UnaryOp op e _ => (match op with | .Not => (R.te κ e S).map fun p => (!p.1, p.2) | _ => none)
 | .BoolOp op es pos => oG R κ op es pos S
 | .Compare l ops rs pos => fe R κ l ops rs pos S
 | _ => none
def eZ (R : Rn) (κ : Kt) (e : Expr) (S : Sx) : Option (Bool × Sx) := bif aY e then (R.ev κ e S).bind fun p => (da p.1).map fun b => (b, p.2) else Aq R κ e S
noncomputable def oF (x : Expr) : Bool := PySem.swappedStores.match_5 (fun _ => Bool) x (fun _ _ => true) fun _ => false
noncomputable def nmAt (kf : Str -> Option NameKind) (line : Nat) (x : Expr) : Option Str := PySem.swappedStores.match_8 (fun _ => Option Str) x (fun id pos => if (kf id == some .local && pos.line == line) = true then some id else none) fun _ => none
def swN (kf : Str -> Option NameKind) (ts : List Expr) : List Str := ts.filterMap (nmAt kf ((ts.head?.map (·.pos.line)).getD 0))
noncomputable def swV (c1 c2 c3 c4 c5 : Bool) (ns : List Str) : Option (Option (List Str)) := bif c1 then some none else bif c2 then some none else bif c3 then some none else bif c4 then some none else bif c5 then none else some (some ns)
def eV (κ : Kt) (ts : List Expr) (e : Expr) : Option (Option (List Str)) := match e with
 | .Tuple vs _ _ => swV (!(ts.length == 2 || ts.length == 3) || vs.length != ts.length) (vs.any oF) ((swN (fun x => κ.kinds.lookup x) ts).length != ts.length || (swN (fun x => κ.kinds.lookup x) ts).eraseDups.length != (swN (fun x => κ.kinds.lookup x) ts).length) (vs.all (foldedForSure 8)) (vs.all (constantsAlone 8)) (swN (fun x => κ.kinds.lookup x) ts)
 | _ => some none
noncomputable def mq (κ : Kt) : List Str -> List V -> Sx -> Option Sx
 | [], vs, S => (match vs with | [] => some S | _ :: _ => none)
 | x :: xs, vs, S => match vs with
  | [] => none
  | v :: vs => bif decide (κ.kinds.lookup x = some .local) then mq κ xs vs (S.put x v) else none
noncomputable def Ar (R : Rn) (κ : Kt) (a b : List Stmt) (c : Bool) (S : Sx) : Option (Fl × Sx) := match c with | true => R.ss κ a S | false => R.ss κ b S
noncomputable def md (R : Rn) (κ : Kt) (t : Expr) (o : List Stmt) (S : Sx) : Option (Fl × Sx) := match o with
 | [] => (R.te κ t S).bind fun p => (match p.1 with | true => none | false => some (.next, p.2))
 | _ => none
def Au (R : Rn) (κ : Kt) (t iter : Expr) (b o : List Stmt) (S : Sx) : Option (Fl × Sx) := match o with
 | [] => bif !κ.co && l8 iter then (R.ev κ iter S).bind fun p => (u9 p.1).bind fun xs => R.lp κ t b xs p.2 else none
 | _ => none
def fv (R : Rn) (κ : Kt) (t : Expr) (ts : List Expr) (e : Expr) (S : Sx) : Option (Fl × Sx) := bif n4 e then (match eV κ ts e with
 | some none => (R.ev κ e S).bind fun p => (R.asg κ t p.1 p.2).map fun S => (.next, S)
 | some (some names) => (R.ev κ e S).bind fun p => (F1 p.1).bind fun vs => bif Nat.beq names.length vs.length then (mq κ names.reverse vs.reverse p.2).map fun S => (.next, S) else none
 | none => none) else none
noncomputable def isLC : Expr -> Bool
 | .ListComp .. => true
 | _ => false
def fy (R : Rn) (κ : Kt) (y : Str) (py : Pos) (e : Expr) (S : Sx) : Option (Fl × Sx) := match e with
 | .ListComp elt gens scope cpos => bif decide (κ.kinds.lookup y = some .local) && py.line == cpos.line && !(scope.names.any fun (n, k) => n == y && (k == .local || k == .cell)) then (cj R κ elt gens scope S).map fun p => (.next, p.2.put y (.lst p.1)) else none
 | _ => none
def fw (R : Rn) (κ : Kt) (y : Str) (py : Pos) (e : Expr) (S : Sx) : Option (Fl × Sx) := bif isLC e then fy R κ y py e S else bif n4 e && decide (κ.kinds.lookup y = some .local) then (R.ev κ e S).map fun p => (.next, p.2.put y p.1) else none
def aU (R : Rn) (κ : Kt) (t e : Expr) (S : Sx) : Option (Fl × Sx) := bif n4 e then (R.ev κ e S).bind fun p => (R.asg κ t p.1 p.2).map fun S => (.next, S) else none
def fz (R : Rn) (κ : Kt) (t e : Expr) (S : Sx) : Option (Fl × Sx) := match t with
 | .Tuple ts k p => fv R κ (.Tuple ts k p) ts e S
 | .Name y py => fw R κ y py e S
 | .Attribute o x p' => aU R κ (.Attribute o x p') e S
 | .Subscript o i p' => aU R κ (.Subscript o i p') e S
 | _ => none
def oH (R : Rn) (κ : Kt) (ts : List Expr) (e : Expr) (S : Sx) : Option (Fl × Sx) := bif κ.co then none else match ts with
 | [] => none
 | t :: r => match r with | [] => fz R κ t e S | _ => none
def fj (R : Rn) (κ : Kt) (x : Str) (op : Operator) (e : Expr) (S : Sx) : Option (Fl × Sx) := bif decide (κ.kinds.lookup x = some .local) then (S.fr.lookup x).bind fun a => (R.ev κ e S).bind fun p => (N7 op a p.1).map fun c => (.next, p.2.put x c) else none
def fo (T : Tb) (R : Rn) (κ : Kt) (o : Expr) (x : Str) (op : Operator) (e : Expr) (S : Sx) : Option (Fl × Sx) := (R.ev κ o S).bind fun p => (I7 p.1).bind fun l => (M5 p.2.hp l).bind fun i => bif T.get i.1 x && T.set i.1 x then (i.2.2.lookup x).bind fun a => bif okV a then (R.ev κ e p.2).bind fun q => (M5 q.2.hp l).bind fun j => bif Nat.beq j.1 i.1 && Nat.beq j.2.1 i.2.1 then
 (N7 op a q.1).bind fun c => bif Nat.ble (D3 j.2.2 x c).length 1000 then some (.next, q.2.to (q.2.hp.set j.2.1 (.dict (D3 j.2.2 x c)))) else none else none else none else none
def fm (R : Rn) (κ : Kt) (o i : Expr) (op : Operator) (e : Expr) (S : Sx) : Option (Fl × Sx) := bif r8 i then (R.ev κ o S).bind fun p => (I7 p.1).bind fun l => (R.ev κ i p.2).bind fun q => (j5 q.1).bind fun k => (M4 q.2.hp l).bind fun xs => bif decide (0 ≤ k) && decide (k < xs.length) then (xs[k.toNat]?).bind fun a => (R.ev κ e q.2).bind fun r => (M4 r.2.hp l).bind fun xs2 => bif decide (k < xs2.length) then
 (N7 op a r.1).map fun c => (.next, r.2.to (r.2.hp.set l (.list (xs2.set k.toNat c)))) else none else none else none
def Av (T : Tb) (R : Rn) (κ : Kt) (t : Expr) (op : Operator) (e : Expr) (S : Sx) : Option (Fl × Sx) := bif κ.co then none else match t with
 | .Name x _ => fj R κ x op e S
 | .Attribute o x _ => fo T R κ o x op e S
 | .Subscript o i _ => fm R κ o i op e S
 | _ => none
def oE (T : Tb) (R : Rn) (κ : Kt) : Stmt -> Sx -> Option (Fl × Sx)
 | .Return r _, S => (match r with | none => some (.ret .none, S) | some e => (R.ev κ e S).map fun p => (.ret p.1, p.2))
 | .Pass _, S => some (.next, S)
 | .Break _, S => some (.brk, S)
 | .Continue _, S => some (.cont, S)
 | .Expr e _, S => bif !κ.co && n4 e then (R.ev κ e S).map fun p => (.next, p.2) else none
 | .If t b1 b2 _, S => (R.te κ t S).bind fun p => Ar R κ b1 b2 p.1 p.2
 | .While t b o _, S => md R κ t o S
 | .For t iter b o _, S => Au R κ t iter b o S
 | .Assign ts e _, S => oH R κ ts e S
 | .AugAssign t op e _, S => Av T R κ t op e S
 | _, _ => none
def fB (R : Rn) (κ : Kt) (o i : Expr) (v : V) (S : Sx) : Option Sx := (R.ev κ o S).bind fun p => (I7 p.1).bind fun l => (R.ev κ i p.2).bind fun q => (j5 q.1).bind fun k => (match M4 q.2.hp l with
 | some xs => bif decide (0 ≤ k) && decide (k < xs.length) then some (q.2.to (q.2.hp.set l (.list (xs.set k.toNat v)))) else none
 | none => (zo q.2.hp l).bind fun n => (j5 v).bind fun b => bif Nat.ble n 1000 && decide (0 ≤ k) && decide (k < n) then some ⟨q.2.fr, q.2.hp.set l (.bya n), q.2.as, (0 ≤ b ∧ b < 256) :: q.2.ob⟩ else none)
def bX (T : Tb) (R : Rn) (κ : Kt) (e : Expr) (v : V) (S : Sx) : Option Sx := match e with
 | .Name x _ => bif !κ.co && decide (κ.kinds.lookup x = some .local) then some (S.put x v) else none
 | .Tuple ts _ _ => (F1 v).bind fun vs => bif Nat.beq ts.length vs.length && ts.all i7 then R.als κ ts vs S else none
 | .Attribute o x _ => (R.ev κ o S).bind fun p => (I7 p.1).bind fun l => (M5 p.2.hp l).bind fun i => bif T.set i.1 x && Nat.ble (D3 i.2.2 x v).length 1000 then some (p.2.to (p.2.hp.set i.2.1 (.dict (D3 i.2.2 x v)))) else none
 | .Subscript o i _ => fB R κ o i v S
 | _ => none
def fa (R : Rn) (κ : Kt) (t : Expr) (b : List Stmt) : List V -> Sx -> Option (Fl × Sx)
 | [], S => some (.next, S)
 | v :: vs, S => (R.asg κ t v S).bind fun S1 => (R.ss κ b S1).bind fun p => match p.1 with
  | .next => R.lp κ t b vs p.2
  | .cont => R.lp κ t b vs p.2
  | .brk => some (.next, p.2)
  | .ret v => some (.ret v, p.2)
noncomputable def fc (R : Rn) (κ : Kt) (ct : Option Expr) (elt : Expr) (x : Str) : List V -> Sx -> Option (List V × Sx)
 | [], S => some ([], S)
 | v :: vs, S => (match ct with | none => some (true, Sx.mk [(x, v)] S.hp S.as S.ob) | some c => R.te κ c ⟨[(x, v)], S.hp, S.as, S.ob⟩ : Option (Bool × Sx)).bind fun p => match p.1 with
  | true => (R.ev κ elt p.2).bind fun q => (R.cm κ ct elt x vs q.2).map fun (r : List V × Sx) => (q.1 :: r.1, r.2)
  | false => R.cm κ ct elt x vs p.2
noncomputable def AH : Fl -> Option V
 | .ret v => some v
 | .next => some .none
 | _ => none
def aT (T : Tb) (R : Rn) (f : Addr) (vs : List V) (S : Sx) : Option (V × Sx) := match T.spec f S.hp vs with
 | some r => some (r.1, ⟨S.fr, r.2.1, S.as, r.2.2 ++ S.ob⟩)
 | none => (T.fn f).bind fun fn => bif Nat.beq fn.xs.length vs.length then (R.ss ⟨fn.sc.names, fn.cfOf vs, false⟩ fn.body ⟨fn.frOf vs, S.hp, S.as, S.ob⟩).bind fun p => (AH p.1).map fun v => (v, ⟨S.fr, p.2.hp, p.2.as, p.2.ob⟩)
  else none
noncomputable def Am (hp : List O) : V -> Option (V × List O)
 | .int n => bif decide (0 < n) && decide (n ≤ 1000) then some (.ref hp.length, hp ++ [.bya n.toNat]) else none
 | _ => none
def Ak (hp : List O) : V -> Option (V × List O)
 | .int n => bif decide (0 ≤ n) && decide (n ≤ 1000) then some (.byt n.toNat, hp) else none
 | .ref l => (zo hp l).bind fun n => bif Nat.ble n 1000 then some (.byt n, hp) else none
 | _ => none
def Aj (hp : List O) (T : String) (vs : List V) : Option (V × List O) := (one vs).bind fun v =>
 bif T == "bytearray" then Am hp v else bif T == "bytes" then Ak hp v
 else bif T == "dict" then (deL hp v).bind fun xs => (e8 (xs.map U7)).bind fun ps => bif Nat.ble ps.length 1000 && decide (ps.map (·.1)).Nodup then some (.dct (ps.map (·.1)) (ps.map (·.2)), hp) else none
 else none
def pK (hp : List O) (f : Value) (vs : List V) : Option (V × List O) := match f with
 | .type T => Aj hp T vs
 | _ => none
def U2 (T : Tb) (R : Rn) (f : Value) (vs : List V) (S : Sx) : Option (V × Sx) := match iG f with
 | some a => bif T.keep a then (match T.cls a with
  | some i => (R.fnc i (.ref (S.hp.length + 1) :: vs) (S.to (S.hp ++ [.dict [], .inst a S.hp.length]))).bind fun p => bif M0 p.1 then some (.ref (S.hp.length + 1), p.2) else none
  | none => R.fnc a vs S) else none
 | none => (match pK S.hp f vs with
  | some r => some (r.1, S.to r.2)
  | none => (kZ S.hp f vs).map fun p => (p.1, S.add p.2))
def step (T : Tb) (R : Rn) : Rn where
 ev := fb T R
 te := eZ R
 es κ es S := match es with
  | [] => some ([], S)
  | e :: es => (R.ev κ e S).bind fun p => (R.es κ es p.2).map fun q => (p.1 :: q.1, q.2)
 s1 := oE T R
 ss κ bs S := match bs with
  | [] => some (.next, S)
  | b :: bs => (R.s1 κ b S).bind fun p => (match p.1 with | .next => R.ss κ bs p.2 | f => some (f, p.2))
 asg := bX T R
 als κ ts vs S := match ts, vs with
  | [], [] => some S
  | t :: ts, v :: vs => (R.asg κ t v S).bind fun S => R.als κ ts vs S
  | _, _ => none
 lp := fa R
 cm := fc R
 fnc := aT T R
 cal := U2 T R
noncomputable def rn0 : Rn := ⟨fun _ _ _ => none, fun _ _ _ => none, fun _ _ _ => none, fun _ _ _ => none, fun _ _ _ => none, fun _ _ _ _ => none, fun _ _ _ _ => none, fun _ _ _ _ _ => none, fun _ _ _ _ _ _ => none, fun _ _ _ => none, fun _ _ _ => none⟩
def rn (T : Tb) (n : Nat) : Rn := Nat.rec rn0 (fun _ R => step T R) n
noncomputable def Cf.innerC (X : Cf) (cn : Str) (cs : Scope) (a : Addr) (ccd : Value) (h₀ : Heap) (L : Addr) (cf : List (Str × V)) : Cf := { X.inner cn cs a ccd h₀ L with cl := cellsFrom (L + 1) cs.names [], cf := cf }
structure TOk (w : World) (d : Nat) (T : Tb) : Prop where
 glob : ∀ x v, T.glob x = some v -> ∃ c, nsIn (K w.params) mainGlobals x = some (some c) ∧ ∀ G, RV w.params G v c
 bi : ∀ x c, T.bi x = some c -> nsIn (K w.params) mainGlobals x = some none ∧ bootBuiltins x = some c ∧ x ≠ "__name__"
 keep : ∀ a, T.keep a = true -> keepIn (K w.params) (.ref a) = true
 fn : ∀ a fn, T.fn a = some fn -> fn.sc.kind = .function ∧ ∃ qual cdv, ∀ k H vs v H', fn.xs.length = vs.length -> (∀ X, Rm X (k + 1) -> ∀ g L', ∃ fr' fl, Ex w (X.innerC qual fn.sc a cdv g L' (fn.cfOf vs)) ⟨fn.frOf vs, H⟩ fn.body fl ⟨fr', H'⟩ ∧ (fl = .ret v ∨ fl = .next ∧ v = .none)) -> Cc w (k + 1) (.ref a) H vs v H'
 spec : ∀ a H vs v H' ps, T.spec a H vs = some (v, H', ps) -> (∀ p ∈ ps, p) -> Cc w (d + 1) (.ref a) H vs v H'
 get : ∀ C x, T.get C x = true -> H4 w.params C x
 set : ∀ C x, T.set C x = true -> X9 w.params C x
 met : ∀ C x f, T.met C x = some f -> cu w.params C x f
 cls : ∀ C f, T.cls C = some f -> jk w.params C f
 bare : ∀ C x, T.bare C x = true -> findIn (K w.params) (.ref C) x = some none
structure Mt (X : Cf) (κ : Kt) : Prop where
 kd : ∀ x, (eX X).kindOf x = κ.kinds.lookup x
 fk : (eX X).scope.kind = .function
 cf : X.cf = κ.cf
 co : κ.co = false -> X.co = none
def All (ps : List Prop) : Prop := ∀ p ∈ ps, p
theorem All.app {a b : List Prop} (h : All (a ++ b)) : All a ∧ All b := ⟨fun p q => h p (aL q), fun p q => h p (aR q)⟩
theorem All.cons {a : Prop} {b : List Prop} (h : All (a :: b)) : a ∧ All b := ⟨h a (.head _), fun p q => h p (.tail _ q)⟩
section
variable {w : World} {X : Cf} {κ : Kt} {T : Tb}
theorem Mt.k (M : Mt X κ) (h : κ.co = false) : X.co = none ∧ X.cs.kind = .function ∧ ∀ x, X.cs.names.lookup x = κ.kinds.lookup x := by
 have e : eX X = ev X := by unfold eX; rw [M.co h]
 refine ⟨M.co h, ?_, fun x => ?_⟩
 · have := M.fk; rw [e] at this; exact this
 · have := M.kd x; rw [e] at this; exact this
theorem Mt.ni (M : Mt X κ) : interactive (eX X) = false := by
 unfold interactive; rw [M.fk]; rfl
abbrev EvG (w : World) (X : Cf) (S : Sx) (e : Expr) (v : V) (S' : Sx) : Prop := All S.ob ∧ Ev w X S.st e v S'.st
abbrev TeG (w : World) (X : Cf) (S : Sx) (e : Expr) (v : Bool) (S' : Sx) : Prop := All S.ob ∧ Te w X S.st e v S'.st
abbrev EsG (w : World) (X : Cf) (S : Sx) (e : List Expr) (v : List V) (S' : Sx) : Prop := All S.ob ∧ Es w X S.st e v S'.st
abbrev E1G (w : World) (X : Cf) (S : Sx) (e : Stmt) (v : Fl) (S' : Sx) : Prop := All S.ob ∧ E1 w X S.st e v S'.st
abbrev ExG (w : World) (X : Cf) (S : Sx) (e : List Stmt) (v : Fl) (S' : Sx) : Prop := All S.ob ∧ Ex w X S.st e v S'.st
abbrev AsG (w : World) (X : Cf) (S : Sx) (e : Expr) (v : V) (S' : Sx) : Prop := All S.ob ∧ As w X S.st e v S'.st
structure Snd (w : World) (d n : Nat) (R : Rn) : Prop where
 ev : ∀ X κ e S v S', Mt X κ -> Rm X (n + (d + 1)) -> R.ev κ e S = some (v, S') -> All S'.ob -> EvG w X S e v S'
 es : ∀ X κ e S v S', Mt X κ -> Rm X (n + (d + 1)) -> e.all i7 = true -> R.es κ e S = some (v, S') -> All S'.ob -> EsG w X S e v S'
 es0 : ∀ κ S v S', R.es κ [] S = some (v, S') -> v = [] ∧ S' = S
 te : ∀ X κ e S v S', Mt X κ -> Rm X (n + (d + 1)) -> R.te κ e S = some (v, S') -> All S'.ob -> TeG w X S e v S'
 s1 : ∀ X κ e S v S', Mt X κ -> Rm X (n + (d + 1)) -> R.s1 κ e S = some (v, S') -> All S'.ob -> E1G w X S e v S'
 ss : ∀ X κ e S v S', Mt X κ -> Rm X (n + (d + 1)) -> R.ss κ e S = some (v, S') -> All S'.ob -> ExG w X S e v S'
 asg : ∀ X κ e v S S', Mt X κ -> Rm X (n + (d + 1)) -> R.asg κ e v S = some S' -> All S'.ob -> AsG w X S e v S'
 als : ∀ X κ e v S S', Mt X κ -> Rm X (n + (d + 1)) -> e.all i7 = true -> R.als κ e v S = some S' -> All S'.ob -> All S.ob ∧ Al w X S.st ((assignEach e (eX X)).map (·.2)) v S'.st
 lp : ∀ X κ t b xs S fl S', Mt X κ -> Rm X (n + (d + 1)) -> R.lp κ t b xs S = some (fl, S') -> All S'.ob -> All S.ob ∧ Lp w X t b xs S.st fl S'.st
 cm : ∀ X scope cf κ ct elt x xs S ys S', (∀ cl C m, Mt (X.comp scope cl cf C m) κ) -> Rm X (n + (d + 1)) -> R.cm κ ct elt x xs S = some (ys, S') -> All S'.ob -> All S.ob ∧ ∀ cl, Cm w X scope cl cf ct elt x xs S.hp ys S'.hp
 fnc : ∀ a vs S v S', R.fnc a vs S = some (v, S') -> All S'.ob -> All S.ob ∧ S'.fr = S.fr ∧ Cc w (n + (d + 1)) (.ref a) S.hp vs v S'.hp
 cal : ∀ f vs S v S', R.cal f vs S = some (v, S') -> All S'.ob -> All S.ob ∧ S'.fr = S.fr ∧ Cl w (n + (d + 1)) f S.hp vs v S'.hp ∧ (keepIn (K w.params) f = true ∨ (∃ id, f = .builtin id) ∨ ∃ T, f = .type T)
theorem Cc.deep {k k' : Nat} {f : Value} {H H' : List O} {vs : List V} {v : V} (h : Cc w k f H vs v H') (e : k ≤ k') : Cc w k' f H vs v H' := fun X fr G s us hd => h X fr G s us (hd.less e)
theorem sE {α : Type} {a v : α} {S S' : Sx} {P : α -> Sx -> Prop} (h : some (a, S) = some (v, S')) (k : P a S) : P v S' := by cases h; exact k
theorem t9 {hp : List O} {l : Nat} {i : Addr × Nat × List (Str × V)} (h : M5 hp l = some i) : hp[l]? = some (.inst i.1 i.2.1) ∧ hp[i.2.1]? = some (.dict i.2.2) :=
 e9 h fun j h1 h => mpE h fun es h2 h => e9 h1 fun o h3 h4 => e9 h2 fun o' h5 h6 => by
  rw [← h]; exact ⟨np h4 ▸ h3, iT h6 ▸ h5⟩
theorem w3 {hp : List O} {l : Nat} {xs : List V} (h : M4 hp l = some xs) : hp[l]? = some (.list xs) := e9 h fun o h3 h4 => cW h4 ▸ h3
theorem cZ {hp : List O} {l n : Nat} (h : zo hp l = some n) : hp[l]? = some (.bya n) := e9 h fun o h3 h4 => nu h4 ▸ h3
theorem lS (S : Sx) (pos : Pos) (c : Bool) : told S pos c = (c, S) ∨ ∃ l cc b r, S.as = (l, cc, b) :: r ∧ told S pos c = (b, ⟨S.fr, S.hp, r, (c = b) :: S.ob⟩) := by
 unfold told
 cases S.as with
 | nil => exact .inl rfl
 | cons a r =>
  cases hc : (Nat.beq a.1 pos.line && Nat.beq a.2.1 pos.col) with
  | true => exact .inr ⟨a.1, a.2.1, a.2.2, r, rfl, by dsimp only; rw [hc]; rfl⟩
  | false => exact .inl (by dsimp only; rw [hc]; rfl)
theorem R8 {S : Sx} {pos : Pos} {c : Bool} (h : All (told S pos c).2.ob) : All S.ob ∧ (told S pos c).1 = c ∧ (told S pos c).2.st = S.st := by
 rcases lS S pos c with e | ⟨l, cc, b, r, -, e⟩
 · rw [e] at h ⊢; exact ⟨h, rfl, rfl⟩
 · rw [e] at h ⊢; exact a9 (All.cons h) fun h1 h2 => ⟨h2, h1.symm, rfl⟩
theorem oz {S S' : Sx} {pos : Pos} {c b : Bool} {P : Prop} (h : told S pos c = (b, S')) (ho : All S'.ob) (k : All S.ob -> b = c -> S'.st = S.st -> P) : P := by
 have e1 := congrArg Prod.fst h
 have e2 := congrArg Prod.snd h
 have z := R8 (show All (told S pos c).2.ob from e2 ▸ ho)
 exact k z.1 (e1.symm.trans z.2.1) ((congrArg Sx.st e2).symm.trans z.2.2)
section
variable {d n : Nat} {R : Rn}
theorem evB (Z : Snd w d n R) (M : Mt X κ) (hm : Rm X (n + (d + 1))) {e : Expr} {S : Sx} {β : Type} {f : V × Sx -> Option β} {b : β} {P : Prop} (h : (R.ev κ e S).bind f = some b) (k : ∀ p, f p = some b -> (All p.2.ob -> EvG w X S e p.1 p.2) -> P) : P := e9 h fun p h1 h => k p h (Z.ev X κ e S p.1 p.2 M hm h1)
theorem evM (Z : Snd w d n R) (M : Mt X κ) (hm : Rm X (n + (d + 1))) {e : Expr} {S : Sx} {β : Type} {f : V × Sx -> β} {b : β} {P : Prop} (h : (R.ev κ e S).map f = some b) (k : ∀ p, f p = b -> (All p.2.ob -> EvG w X S e p.1 p.2) -> P) : P := mpE h fun p h1 h => k p h (Z.ev X κ e S p.1 p.2 M hm h1)
theorem esB (Z : Snd w d n R) (M : Mt X κ) (hm : Rm X (n + (d + 1))) {e : List Expr} {S : Sx} {β : Type} {f : List V × Sx -> Option β} {b : β} {P : Prop} (g : e.all i7 = true) (h : (R.es κ e S).bind f = some b) (k : ∀ p, f p = some b -> (All p.2.ob -> EsG w X S e p.1 p.2) -> P) : P := e9 h fun p h1 h => k p h (Z.es X κ e S p.1 p.2 M hm g h1)
theorem teB (Z : Snd w d n R) (M : Mt X κ) (hm : Rm X (n + (d + 1))) {e : Expr} {S : Sx} {β : Type} {f : Bool × Sx -> Option β} {b : β} {P : Prop} (h : (R.te κ e S).bind f = some b) (k : ∀ c S1, f (c, S1) = some b -> (All S1.ob -> TeG w X S e c S1) -> P) : P := e9 h fun p h1 h => k p.1 p.2 h (Z.te X κ e S p.1 p.2 M hm h1)
theorem mZ {v : V} {β : Type} {f : Int -> Option β} {b : β} {P : Prop} (h : (j5 v).bind f = some b) (k : ∀ i, v = .int i -> f i = some b -> P) : P := e9 h fun i h1 h => k i (g9 h1) h
theorem dE {v : V} {β : Type} {f : Nat -> Option β} {b : β} {P : Prop} (h : (I7 v).bind f = some b) (k : ∀ i, v = .ref i -> f i = some b -> P) : P := e9 h fun i h1 h => k i (cV h1) h
theorem dn (Z : Snd w d n R) {l : Expr} {ops : List CmpOp} {rs : List Expr} {pos : Pos} {S S' : Sx} {c : Bool} (M : Mt X κ) (hm : Rm X (n + (d + 1))) (h : mo R κ l ops rs pos S = some (c, S')) (ho : All S'.ob) : All S.ob ∧ Ev w X S.st (.Compare l ops rs pos) (.bool c) S'.st ∧ Te w X S.st (.Compare l ops rs pos) c S'.st := by
 refine e9 h fun op h1 h => e9 h fun r h2 h => ?_
 rw [B5 h1, B5 h2]
 refine evB Z M hm h fun p h z1 => evB Z M hm h fun q h z2 => i5 h fun h3 h => mpE h fun c' h4 h => oz h ho fun o e1 e2 => ?_
 rw [e1, e2]
 exact a9 (z2 o) fun o2 r2 => a9 (z1 o2) fun o1 r1 => ⟨o1, Ev.cmp2 (hm.less (by lia)) r1 r2 h4 h3, Te.cmp2 (hm.less (by lia)) r1 r2 h4 h3⟩
theorem zN (Z : Snd w d n R) {l : Expr} {ops : List CmpOp} {rs : List Expr} {pos : Pos} {S S' : Sx} {c : Bool} (M : Mt X κ) (hm : Rm X (n + (d + 1))) (h : rCh R κ l ops rs pos S = some (c, S')) (ho : All S'.ob) : TeG w X S (.Compare l ops rs pos) c S' := by
 refine e9 h fun op h1 h => e9 h fun r h2 h => ?_
 rw [J7 h1, J7 h2]
 refine i5 h fun hn h => evB Z M hm h fun p h z1 => evB Z M hm h fun q h z2 => e9 h fun eu h3 h => ?_
 cases ht : (told q.2 pos eu).1 with
 | true =>
  rw [ht] at h
  refine evB Z M hm h fun r h z3 => mpE h fun c₂ h5 h => oz h ho fun o e1 e2 => ?_
  unfold TeG
  rw [e1, e2]
  refine a9 (z3 o) fun o3 r3 => a9 (R8 o3) fun t1 t => a9 (z2 t1) fun o2 r2 => a9 (z1 o2) fun o1 r1 => ⟨o1, ?_⟩
  rw [t.2] at r3
  exact Te.chain (hm.less (by lia)) r1 r2 h3 (fun _ => ⟨r3, h5⟩) (fun e => nomatch e.symm.trans (t.1.symm.trans ht)) hn
 | false =>
  rw [ht] at h
  refine sE (P := fun c S' => All S'.ob -> TeG w X S _ c S') h (fun ho => ?_) ho
  refine a9 (R8 ho) fun t1 t => a9 (z2 t1) fun o2 r2 => a9 (z1 o2) fun o1 r1 => ⟨o1, ?_⟩
  rw [t.2]
  exact Te.chain (c₂ := false) (d := .none) (hm.less (by lia)) r1 r2 h3 (fun e => nomatch e.symm.trans (t.1.symm.trans ht)) (fun _ => ⟨rfl, rfl⟩) hn
theorem ax {a : Int} {n : Nat} (h : 0 ≤ a) : sliceBounds (some a) none none n = (((min a.toNat n : Nat) : Int), ((n : Nat) : Int), 1) := by
 unfold sliceBounds
 have h2 : ¬ a < 0 := by lia
 simp [h2]
 lia
theorem aw {b : Int} {n : Nat} (h : 0 ≤ b) : sliceBounds none (some b) none n = (((0 : Nat) : Int), ((min b.toNat n : Nat) : Int), 1) := by
 unfold sliceBounds
 have h2 : ¬ b < 0 := by lia
 simp [h2]
 lia
theorem E0 {xs ys : List V} {lo hi : Option Int} (h : jg xs lo hi = some ys) : ∃ a b : Nat, sliceBounds lo hi none xs.length = ((a : Int), (b : Int), 1) ∧ ys = (xs.drop a).take (b - a) := by
 cases lo with
 | some a =>
  cases hi with
  | some _ => cases h
  | none =>
   refine i5 h fun g h => ⟨_, _, ax (dO g), ?_⟩
   rw [← Option.some.inj h, List.take_of_length_le (by rw [List.length_drop]; exact Nat.le_refl _)]
   rcases Nat.le_total a.toNat xs.length with q | q
   · rw [Nat.min_eq_left q]
   · rw [Nat.min_eq_right q, List.drop_of_length_le q, List.drop_of_length_le (Nat.le_refl _)]
 | none =>
  cases hi with
  | none => cases h
  | some b =>
   refine i5 h fun g h => ⟨_, _, aw (dO g), ?_⟩
   rw [← Option.some.inj h, List.drop_zero, Nat.sub_zero]
   rcases Nat.le_total b.toNat xs.length with q | q
   · rw [Nat.min_eq_left q]
   · rw [Nat.min_eq_right q, List.take_of_length_le q, List.take_of_length_le (Nat.le_refl _)]
theorem oN (Z : Snd w d n R) (M : Mt X κ) (hm : Rm X (n + (d + 1))) {e : Option Expr} {S : Sx} {β : Type} {f : Option Int × Sx -> Option β} {b : β} {P : Prop} (h : (hF R κ e S).bind f = some b) (k : ∀ p, f p = some b -> (All p.2.ob -> All S.ob ∧ Pt w X S.st e p.1 p.2.st) -> P) : P := e9 h fun p h1 h => k p h (by
 cases e with
 | none => exact sE (P := fun a S' => All S'.ob -> All S.ob ∧ Pt w X S.st none a S'.st) (S' := p.2) h1 fun o => ⟨o, Pt.no⟩
 | some e =>
  refine evB Z M hm h1 fun p h z => mpE h fun i h2 h => ?_
  rw [g9 h2] at z
  rw [← h]
  exact fun o => a9 (z o) fun o1 r1 => ⟨o1, Pt.at r1⟩)
theorem aa {lo hi : Option Expr} {e : Expr} (h : pc lo hi = some e) : lo = none ∧ hi = some e := by
 cases lo with
 | none => exact ⟨rfl, h⟩
 | some _ => cases h
theorem dW {i : Expr} {s : Option Expr × Option Expr} (h : bu i = some s) : ∃ p, i = .Slice s.1 s.2 none p := by
 refine okG.at (P := fun s => ∃ p, i = .Slice s.1 s.2 none p) ?_ h
 cases i with
 | Slice lo hi st p =>
  cases st with
  | none => exact ⟨p, rfl⟩
  | some _ => exact True.intro
 | _ => exact True.intro
theorem ma (Z : Snd w d n R) {v i : Expr} {pos : Pos} {S S' : Sx} {c : V} (M : Mt X κ) (hm : Rm X (n + (d + 1))) (h : pY R κ v i S = some (c, S')) (ho : All S'.ob) : EvG w X S (.Subscript v i pos) c S' := by
 unfold pY at h
 cases hs : bu i with
 | some s =>
  rw [hs] at h
  obtain ⟨sp, e⟩ := dW hs
  rw [e]
  refine evB Z M hm h fun p h z1 => ?_
  cases ht : F1 p.1 with
  | some xs =>
   rw [ht] at h
   rw [q8 ht] at z1
   refine e9 (show oJ R κ s xs p.2 = _ from h) fun e h1 h => evB Z M hm h fun q h z2 => mZ h fun b h3 h => i5 h fun g h => ?_
   rw [(aa h1).1, (aa h1).2]
   refine sE (P := fun v S' => All S'.ob -> EvG w X S _ v S') h (fun ho => ?_) ho
   refine a9 (i0 g) fun g1 g2 => ?_
   have g1 := dO g1
   have g2 := dO g2
   rw [h3, show b = ((b.toNat : Nat) : Int) from (Int.toNat_of_nonneg g1).symm] at z2
   exact a9 (z2 ho) fun o2 r2 => a9 (z1 o2) fun o1 r1 => ⟨o1, Ev.sliceT r1 r2 (by lia)⟩
  | none =>
   rw [ht] at h
   refine oN Z M hm (show oK R κ s p.1 p.2 = _ from h) fun q h z2 => oN Z M hm h fun r h z3 => e9 h fun xs h4 h => mpE h fun ys h5 h => ?_
   obtain ⟨a, b, e1, e2⟩ := E0 h5
   rw [e2] at h
   exact sE (P := fun v S' => All S'.ob -> EvG w X S _ v S') (congrArg some h) (fun ho => a9 (z3 ho) fun o3 r3 => a9 (z2 o3) fun o2 r2 => a9 (z1 o2) fun o1 r1 => ⟨o1, Ev.slice r1 r2 r3 h4 e1⟩) ho
 | none =>
  rw [hs] at h
  refine i5 h fun g h => evB Z M hm h fun p h z1 => evB Z M hm h fun q h z2 => mpE h fun x h3 h => ?_
  exact sE (P := fun v S' => All S'.ob -> EvG w X S _ v S') (congrArg some h) (fun ho => a9 (z2 ho) fun o2 r2 => a9 (z1 o2) fun o1 r1 => ⟨o1, Ev.item r1 r2 h3 g⟩) ho
theorem Sx.eta {S S' : Sx} (h : S'.fr = S.fr) : S'.st = ⟨S.fr, S'.hp⟩ := by unfold Sx.st; rw [h]
theorem lh {name : Str} {a u v : V} {hp H' : List O} {ps : List Prop} {o e : Expr} {apos pos : Pos} {fr : List (Str × V)} {σ σ' : St} (h : pp name a u σ'.hp hp = some (v, H', ps)) (hps : All ps) (hd : Rm X 1)
 (ro : Ev w X σ o a σ') (re : Ev w X σ' e u ⟨fr, hp⟩) (hnc : l9 o = true) (hst : i7 e = true) (hpos : (apos.endLine == pos.line) = true) : Ev w X σ (.Call (.Attribute o name apos) [e] [] pos) v ⟨fr, H'⟩ := by
 have hst' : [e].all i7 = true := by rw [List.all_cons, hst]; rfl
 have ra : Es w X σ' [e] [u] ⟨fr, hp⟩ := Es.cons re .nil (g0 hst)
 refine okG.at (P := fun r : V × List O × List Prop => All r.2.2 -> Ev w X σ (.Call (.Attribute o name apos) [e] [] pos) r.1 ⟨fr, r.2.1⟩) ?_ h hps
 clear h hps
 cases a with
 | ref l =>
  refine okI fun r h => e9 h fun xs0 h0 h => e9 h fun xs h1 h => ?_
  have hT : ∀ G s u, Ok w X G σ' s -> RV w.params G (.ref l) u -> s.TypeIs u "list" ∧ ∀ b, u = .ref b -> ∃ o, s.heap.get? b = some o ∧ o.dict = none := fun G s u k r => by
   obtain ⟨b, hb, rfl⟩ := r
   obtain ⟨a', ob, ha', hob, us, nn, rfl, hus, hz⟩ := k.at (w3 h0)
   obtain rfl : b = a' := by rw [hb] at ha'; exact Option.some.inj ha'
   exact ⟨⟨_, hob, rfl⟩, fun b' e => by cases e; exact ⟨_, hob, rfl⟩⟩
  refine cdE h (fun c h => ?_) fun _ h => cdE h (fun c h => ?_) fun _ h => nomatch h
  · rw [eq_of_beq c]
    exact tE (v := r.1) (H := r.2.1) (ps := r.2.2) (P := fun v H' ps => All ps -> Ev w X σ _ v ⟨fr, H'⟩) h (fun hps => Ev.bmeth (k := 1) ro hT PySem.F.plainAttrs_list ra (lC (w3 h1) (hps _ (.head _))) hd PySem.F.slot_list_append type_list_append hst' hnc rfl hpos)
  · rw [eq_of_beq c]
    exact mpE h fun ys h2 h => tE (v := r.1) (H := r.2.1) (ps := r.2.2) (P := fun v H' ps => All ps -> Ev w X σ _ v ⟨fr, H'⟩) (congrArg some h) (fun hps => Ev.bmeth (k := 1) ro hT PySem.F.plainAttrs_list ra (iZ (w3 h1) h2 (hps _ (.head _))) hd PySem.F.slot_list_extend PySem.F.type_list_extend hst' hnc rfl hpos)
 | tup xs =>
  have hT : ∀ G s u, Ok w X G σ' s -> RV w.params G (.tup xs) u -> s.TypeIs u "tuple" ∧ ∀ b, u = .ref b -> ∃ o, s.heap.get? b = some o ∧ o.dict = none := fun G s u k r => by
   obtain ⟨b, us, n, rfl, g, -⟩ := k.tupAt r
   exact ⟨⟨_, g, rfl⟩, fun b' e => by cases e; exact ⟨_, g, rfl⟩⟩
  refine okI fun r h => cdE h (fun c h => e9 h fun k h1 h => i5 h fun g h => mpE h fun j h2 h => ?_) fun _ h => nomatch h
  rw [eq_of_beq c]
  rw [g9 h1] at ra
  exact tE (v := r.1) (H := r.2.1) (ps := r.2.2) (P := fun v H' ps => All ps -> Ev w X σ _ v ⟨fr, H'⟩) (congrArg some h) (fun _ => Ev.bmeth (k := 1) ro hT PySem.F.plainAttrs_tuple ra (O3 g h2) hd PySem.F.slot_tuple_index PySem.F.type_tuple_index hst' hnc rfl hpos)
 | lst xs =>
  have hT : ∀ G s u, Ok w X G σ' s -> RV w.params G (.lst xs) u -> s.TypeIs u "list" ∧ ∀ b, u = .ref b -> ∃ o, s.heap.get? b = some o ∧ o.dict = none := fun G s u k r => by
   obtain ⟨b, us, n, rfl, g, -⟩ := k.listAt (v := .lst xs) (xs := xs) rfl r
   exact ⟨⟨_, g, rfl⟩, fun b' e => by cases e; exact ⟨_, g, rfl⟩⟩
  refine okI fun r h => cdE h (fun c h => e9 h fun k h1 h => i5 h fun g h => mpE h fun j h2 h => ?_) fun _ h => nomatch h
  rw [eq_of_beq c]
  rw [J5 h1] at ra
  exact tE (v := r.1) (H := r.2.1) (ps := r.2.2) (P := fun v H' ps => All ps -> Ev w X σ _ v ⟨fr, H'⟩) (congrArg some h) (fun _ => Ev.bmeth (k := 1) ro hT PySem.F.plainAttrs_list ra (V3 rfl g h2) hd PySem.F.slot_list_index PySem.F.type_list_index hst' hnc rfl hpos)
 | byt n =>
  have hT : ∀ G s u, Ok w X G σ' s -> RV w.params G (.byt n) u -> s.TypeIs u "bytes" ∧ ∀ b, u = .ref b -> ∃ o, s.heap.get? b = some o ∧ o.dict = none := fun G s u k r => by
   obtain ⟨b, t, rfl, -⟩ := r
   exact ⟨PySem.W.typeIs_bytes _ _ _, fun b' e => by cases e⟩
  refine okI fun r h => cdE h (fun c h => e9 h fun xs h1 h => e9 h fun ns h2 h => ?_) fun _ h => nomatch h
  rw [eq_of_beq (i0 c).1]
  rw [Nat.eq_of_beq_eq_true (i0 c).2] at ro hT
  exact a9 (gnd h) fun g h => tE (v := r.1) (H := r.2.1) (ps := r.2.2) (P := fun v H' ps => All ps -> Ev w X σ _ v ⟨fr, H'⟩) h (fun hps => Ev.bmeth (k := 1) ro hT H8 ra (iA h1 h2 (fun e => by rw [e] at g; cases g) (hps _ (.head _))) hd W6 dv hst' hnc rfl hpos)
 | _ => exact True.intro
theorem ik (A : TOk w d T) (Z : Snd w d n R) {o : Expr} {name : Str} {apos pos : Pos} {es : List Expr} {S S' : Sx} {c : V} (M : Mt X κ) (hm : Rm X (n + (d + 1))) (h : oL T R κ o name apos es pos S = some (c, S')) (ho : All S'.ob) : EvG w X S (.Call (.Attribute o name apos) es [] pos) c S' := by
 refine i5 h fun g h => a9 (i0 g) fun g g4 => a9 (i0 g) fun g g3 => a9 (i0 g) fun g1 g2 => evB Z M hm h fun p h z1 => ?_
 cases hi : (I7 p.1).bind (M5 p.2.hp) with
 | some i =>
  rw [hi] at h
  refine dE hi fun l e h3 => a9 (t9 h3) fun i1 i2 => ?_
  dsimp only at h
  rw [e] at h z1
  dsimp only [I7, Option.bind_some] at h
  cases hl : i.2.2.lookup name with
  | some u =>
   rw [hl] at h
   refine e9 h fun k hk h => i5 h fun gb h => a9 (i0 gb) fun gb1 gb2 => e9 h fun q h5 h => mpE h fun v h6 h => ?_
   rw [nl hk] at hl
   refine sE (P := fun v S' => All S'.ob -> EvG w X S _ v S') (congrArg some h) (fun ho => a9 (Z.es X κ es p.2 q.1 q.2 M hm g2 h5 ho) fun o2 r2 => a9 (z1 o2) fun o1 r1 => ⟨o1, ?_⟩) ho
   cases es with
   | nil =>
    have a := Z.es0 κ p.2 q.1 q.2 h5
    rw [a.1] at h6
    rw [a.2]
    exact Ev.methL0 r1 i1 i2 hl (A.get _ _ gb1) (A.bare _ _ gb2) h6 (hm.less (by lia)) g1 g4
   | cons e es => exact Ev.methL r1 i1 i2 hl (A.get _ _ gb1) (A.bare _ _ gb2) r2 h6 (hm.less (by lia)) g2 g1 g3 g4
  | none =>
   rw [hl] at h
   refine e9 h fun f h4 h => e9 h fun q h5 h => a9 (Z.cal _ _ _ _ _ h ho) fun o3 z3 => a9 (Z.es X κ es p.2 q.1 q.2 M hm g2 h5 o3) fun o2 r2 => a9 (z1 o2) fun o1 r1 => ⟨o1, ?_⟩
   have r3 := z3.2.1
   rw [Sx.eta z3.1]
   cases es with
   | nil =>
    have a := Z.es0 κ p.2 q.1 q.2 h5
    rw [a.1, a.2] at r3
    rw [show q.2.fr = p.2.fr by rw [a.2]]
    exact Ev.meth0 r1 i1 i2 hl (A.met _ _ _ h4) r3 hm g1 g4
   | cons e es => exact Ev.meth r1 i1 i2 hl (A.met _ _ _ h4) r2 r3 hm g2 g1 g3 g4
 | none =>
  rw [hi] at h
  refine e9 h fun e h2 h => evB Z M hm h fun q h z2 => mpE h fun r h5 h => ?_
  rw [B5 h2] at g2 ⊢
  rw [List.all_cons] at g2
  exact sE (P := fun v S' => All S'.ob -> EvG w X S _ v S') (congrArg some h) (fun ho => a9 (All.app ho) fun o3 ho => a9 (z2 ho) fun o2 r2 => a9 (z1 o2) fun o1 r1 => ⟨o1, lh (ps := r.2.2) h5 o3 (hm.less (by lia)) r1 r2 g1 (i0 g2).1 g4⟩) ho
theorem Z4 (A : TOk w d T) {x : Str} {p : Pos} {S : Sx} {c : V} (M : Mt X κ) (h : ig T κ x S.fr = some c) : Ev w X S.st (.Name x p) c S.st := by
 refine a9 (gnd h) fun hd h => e9 h fun k h1 h => ?_
 have kd := (M.kd x).trans h1
 cases k with
 | «local» => exact Ev.nm h M.fk kd hd
 | cell => exact Ev.ce (by rw [M.cf]; exact h) M.fk kd hd
 | globalImplicit =>
  change (match T.glob x with | some v => some v | none => (T.bi x).map V.val) = some c at h
  cases hv : T.glob x with
  | some v =>
   rw [hv] at h
   obtain ⟨c', e1, e2⟩ := A.glob x _ (hv.trans h)
   exact Ev.gl e1 e2 M.fk kd hd
  | none =>
   rw [hv] at h
   refine mpE h fun v h1 h2 => ?_
   rw [← h2]
   obtain ⟨e1, e2, e3⟩ := A.bi x v h1
   exact Ev.bi e1 e2 e3 M.fk kd hd
 | _ => cases h
theorem jn (A : TOk w d T) (Z : Snd w d n R) {f : Expr} {pos : Pos} {es : List Expr} {S S' : Sx} {c : V} (M : Mt X κ) (hm : Rm X (n + (d + 1))) (h : oM T R κ f es pos S = some (c, S')) (ho : All S'.ob) : EvG w X S (.Call f es [] pos) c S' := by
 refine okG.at (P := fun r : V × Sx => All r.2.ob -> EvG w X S (.Call f es [] pos) r.1 r.2) ?_ h ho
 clear h ho
 cases f with
 | Name x p =>
  refine okP fun c S' h ho => evB Z M hm h fun p h z1 => e9 h fun f h2 h => i5 h fun g h => e9 h fun q h3 h => a9 (Z.cal _ _ _ _ _ h ho) fun o3 z3 => a9 (Z.es X κ es p.2 q.1 q.2 M hm g h3 o3) fun o2 r2 => ?_
  rw [nh h2] at z1
  refine a9 (z1 o2) fun o1 r1 => ⟨o1, ?_⟩
  have r3 := z3.2.1
  rw [Sx.eta z3.1]
  cases es with
  | nil =>
   have a := Z.es0 κ p.2 q.1 q.2 h3
   rw [a.1, a.2] at r3
   rw [show q.2.fr = p.2.fr by rw [a.2]]
   exact Ev.callN0 r1 r3 hm z3.2.2
  | cons e es => exact Ev.callN r1 r2 r3 hm z3.2.2 g
 | Attribute o name apos => exact okP fun c S' h ho => ik A Z M hm h ho
 | _ => exact True.intro
theorem p5 {cf : List (Str × V)} {pr : Str -> Bool} : ∀ {x : Str} {v : V}, (cf.filter fun p => pr p.1).lookup x = some v -> cf.lookup x = some v ∧ pr x = true := by
 induction cf with
 | nil => intro x v h; cases h
 | cons a r ih =>
  intro x v h
  obtain ⟨y, u⟩ := a
  rw [List.filter_cons] at h
  cases hp : pr y with
  | true =>
   simp only [hp, if_true] at h
   by_cases e : x = y
   · subst e; rw [List.lookup_cons_self] at h; rw [List.lookup_cons_self]; exact ⟨h, hp⟩
   · rw [List.lookup_cons, nB e] at h
     rw [List.lookup_cons, nB e]; exact ih h
  | false =>
   simp only [hp, Bool.false_eq_true, if_false] at h
   obtain ⟨i1, i2⟩ := ih h
   by_cases e : x = y
   · subst e; rw [hp] at i2; cases i2
   · rw [List.lookup_cons, nB e]; exact ⟨i1, i2⟩
theorem D9 {scope : Scope} (M : Mt X κ) (hco : κ.co = false) (hs : scope.kind = .function) : ∀ cl C m, Mt (X.comp scope cl (κ.cf.filter fun p => scope.names.lookup p.1 == some .free) C m) (inner κ scope) := fun cl C m => by
 have hc := M.co hco
 have ee := J6 (scope := scope) (cl := cl) (cf := κ.cf.filter fun p => scope.names.lookup p.1 == some .free) (C := C) (m := m) hc
 refine ⟨fun x => ?_, ?_, rfl, fun h => by cases h⟩
 · rw [ee]
   show List.lookup x (relabel scope (eX X)).names = List.lookup x (pX κ scope)
   unfold relabel pX
   congr 1
   refine List.map_congr_left fun a ha => ?_
   obtain ⟨n, k⟩ := a
   dsimp only
   rw [M.kd n, M.fk]
   rfl
 · rw [ee]; exact hs
theorem hN {ifs : List Expr} {ct : Option Expr} (h : oO ifs = some ct) : ifs = ct.toList := by
 cases ifs with
 | nil => rw [← Option.some.inj h]; rfl
 | cons c r =>
  cases r with
  | nil => rw [← Option.some.inj h]; rfl
  | cons _ _ => cases h
theorem zi (g : Comprehension) : g = ⟨g.target, g.iter, g.ifs, g.is_async⟩ := by cases g; rfl
theorem pI {e : Expr} {t : Str × Bool} (h : tgN e = some t) : t.2 = false ∨ ∃ p, e = .Name t.1 p := by
 refine okG.at (P := fun t => t.2 = false ∨ ∃ p, e = .Name t.1 p) ?_ h
 cases e with
 | Name y p => exact .inr ⟨p, rfl⟩
 | Tuple ts k p =>
  cases ts with
  | nil => exact True.intro
  | cons t ts => cases t <;> first | exact True.intro | exact Or.inl rfl
 | _ => exact True.intro
inductive JH (w : World) (X : Cf) (κ : Kt) (S : Sx) (elt : Expr) (gens : List Comprehension) (scope : Scope) (ys : List V) (S' : Sx) : Prop
 | mk (x : Str) (tg iter : Expr) (ct : Option Expr) (v : V) (xs : List V) (σ' : St) (e : gens = [⟨tg, iter, ct.toList, 0⟩]) (c1 : X.co = none) (c2 : Ev w X S.st iter v σ') (c3 : u9 v = some xs) (c4 : (∃ px, tg = .Name x px) ∨ xs = []) (c5 : ∀ cl, Cm w X scope cl (κ.cf.filter fun p => scope.names.lookup p.1 == some .free) ct elt x xs σ'.hp ys S'.hp) (c6 : l8 iter = true) (c7 : y7 scope x = true) (c8 : (scope.names.all fun y => decide (y.2 = .free -> (X.cf.lookup y.1).isSome = true)) = true) (c9 : S'.fr = σ'.fr)
theorem ag (Z : Snd w d n R) {elt : Expr} {gens : List Comprehension} {scope : Scope} {S S' : Sx} {ys : List V} (M : Mt X κ) (hm : Rm X (n + (d + 1))) (h : cj R κ elt gens scope S = some (ys, S')) (ho : All S'.ob) : All S.ob ∧ JH w X κ S elt gens scope ys S' := by
 refine e9 h fun gn h1 h => e9 h fun t ht h => i5 h fun g h => a9 (i0 g) fun g g5 => a9 (i0 g) fun g g4 => a9 (i0 g) fun g g3 => a9 (i0 g) fun g1 g2 => ?_
 have g1 := yD g1
 refine evB Z M hm h fun p h z1 => e9 h fun xs h2 h => e9 h fun ct h3 h => i5 h fun g6 h => mpE h fun q h4 h => ?_
 refine sE (P := fun ys S' => All S'.ob -> All S.ob ∧ JH w X κ S elt gens scope ys S') (congrArg some h) (fun ho => ?_) ho
 refine a9 (Z.cm X scope _ _ ct elt t.1 xs p.2 q.1 q.2 (D9 M g1 (y7.all g4).2.1) hm h4 ho) fun o2 r2 => a9 (z1 o2) fun o1 r1 => ⟨o1, .mk t.1 gn.target gn.iter ct p.1 xs p.2.st ?_ (M.co g1) r1 h2 ?_ r2 g3 g4 (by rw [M.cf]; exact g5) rfl⟩
 · rw [B5 h1, ← hN h3, ← show gn.is_async = 0 from eq_of_beq g2]; exact congrArg (fun x => [x]) (zi gn)
 · rcases pI ht with e | e
   · rw [e] at g6
     exact .inr (List.isEmpty_iff.mp g6)
   · exact .inl e
theorem ji (Z : Snd w d n R) {elt : Expr} {gens : List Comprehension} {scope : Scope} {pos : Pos} {S S' : Sx} {ys : List V} (M : Mt X κ) (hm : Rm X (n + (d + 1))) (h : cj R κ elt gens scope S = some (ys, S')) (ho : All S'.ob) : EvG w X S (.ListComp elt gens scope pos) (.lst ys) S' := by
 refine a9 (ag Z M hm h ho) fun o1 z => ⟨o1, ?_⟩
 cases z with
 | mk x tg iter ct v xs σ' e c1 c2 c3 ctg c4 c5 c6 c7 c8 =>
  rw [e, show S'.st = ⟨σ'.fr, S'.hp⟩ by unfold Sx.st; rw [c8]]
  refine Ev.comp c1 c2 c3 ctg c4 c5 c6 c7 fun x v e => ?_
  have e := p5 (pr := fun y => scope.names.lookup y == some .free) e
  exact ⟨by rw [M.cf]; exact e.1, eq_of_beq e.2⟩
theorem ew {c : Const} {k : Nat} {pos : Pos} {S : Sx} {v : V} (h : jh c = some v) : Ev w X S.st (.Constant c k pos) v S.st := by
 refine okG.at (P := fun v => Ev w X S.st (.Constant c k pos) v S.st) ?_ h
 cases c with
 | none => exact Ev.cNone
 | bool => exact Ev.cBool
 | int => exact Ev.cInt
 | str => exact Ev.cStr
 | bytes =>
  refine okI fun v h => i5 h fun g h => ?_
  rw [← Option.some.inj h]
  exact fun G s k Q E hq => cC (Constant_bytes (hq G _ _ (.refl G) k ⟨_, _, rfl, by simp, bL g⟩ ⟨rfl, rfl, rfl⟩))
 | _ => exact True.intro
theorem pH (Z : Snd w d n R) {op : UnaryOp} {e : Expr} {pos : Pos} {S S' : Sx} {v : V} (M : Mt X κ) (hm : Rm X (n + (d + 1))) (h : Ao R κ op e S = some (v, S')) (ho : All S'.ob) : EvG w X S (.UnaryOp op e pos) v S' := by
 cases op with
 | USub =>
  refine evB Z M hm h fun p h z => mpE h fun k h2 h => sE (P := fun v S' => All S'.ob -> EvG w X S _ v S') (congrArg some h) (fun ho => ?_) ho
  rw [g9 h2] at z
  exact a9 (z ho) fun o1 r1 => ⟨o1, Ev.neg r1⟩
 | Not =>
  refine evB Z M hm h fun p h z => mpE h fun k h2 h => sE (P := fun v S' => All S'.ob -> EvG w X S _ v S') (congrArg some h) (fun ho => ?_) ho
  rw [M6 h2] at z
  exact a9 (z ho) fun o1 r1 => ⟨o1, Ev.not r1⟩
 | _ => cases h
theorem jA (Z : Snd w d n R) {op : BoolOp} {es : List Expr} {pos : Pos} {S S' : Sx} {v : V} (M : Mt X κ) (hm : Rm X (n + (d + 1))) (h : fi R κ op es pos S = some (v, S')) (ho : All S'.ob) : EvG w X S (.BoolOp op es pos) v S' := by
 cases es with
 | nil => cases h
 | cons e r =>
  cases r with
  | nil => exact a9 (Z.ev X κ e S v S' M hm h ho) fun o1 r1 => ⟨o1, Ev.boolOne r1⟩
  | cons e2 es =>
   refine evB Z M hm h fun p h z => e9 h fun b h2 h => ?_
   rw [M6 h2] at z
   cases op <;> cases b
   · cases h
     exact a9 (z ho) fun o1 r1 => ⟨o1, Ev.and r1 (fun q => nomatch q) fun _ => ⟨rfl, rfl⟩⟩
   · exact a9 (Z.ev X κ _ p.2 v S' M hm h ho) fun o2 r2 => a9 (z o2) fun o1 r1 => ⟨o1, Ev.and r1 (fun _ => r2) fun q => nomatch q⟩
   · exact a9 (Z.ev X κ _ p.2 v S' M hm h ho) fun o2 r2 => a9 (z o2) fun o1 r1 => ⟨o1, Ev.or r1 (fun _ => r2) fun q => nomatch q⟩
   · cases h
     exact a9 (z ho) fun o1 r1 => ⟨o1, Ev.or r1 (fun q => nomatch q) fun _ => ⟨rfl, rfl⟩⟩
theorem ze (Z : Snd w d n R) {t a b : Expr} {pos : Pos} {S S' : Sx} {v : V} (M : Mt X κ) (hm : Rm X (n + (d + 1))) (h : (R.te κ t S).bind (fun p => At R κ a b p.1 p.2) = some (v, S')) (ho : All S'.ob) : EvG w X S (.IfExp t a b pos) v S' := by
 refine teB Z M hm h fun c S1 h z => ?_
 cases c
 · exact a9 (Z.ev X κ b S1 v S' M hm h ho) fun o2 r2 => a9 (z o2) fun o1 r1 => ⟨o1, Ev.ife r1 (fun q => nomatch q) fun _ => r2⟩
 · exact a9 (Z.ev X κ a S1 v S' M hm h ho) fun o2 r2 => a9 (z o2) fun o1 r1 => ⟨o1, Ev.ife r1 (fun _ => r2) fun q => nomatch q⟩
theorem ip (Z : Snd w d n R) {es : List Expr} {pos : Pos} {S S' : Sx} {v : V} (M : Mt X κ) (hm : Rm X (n + (d + 1))) (h : fg T R κ es pos S = some (v, S')) (ho : All S'.ob) : EvG w X S (.List es pos) v S' := by
 refine i5 h fun g h => esB Z M hm g h fun p h z => i5 h fun g2 h => ?_
 cases hmu : T.mu pos.line pos.col with
 | true =>
  rw [hmu] at h
  exact sE (P := fun v S' => All S'.ob -> EvG w X S _ v S') h (fun ho => a9 (z ho) fun o1 r1 => ⟨o1, Ev.mkList r1 (bL g2)⟩) ho
 | false =>
  rw [hmu] at h
  exact sE (P := fun v S' => All S'.ob -> EvG w X S _ v S') h (fun ho => a9 (z ho) fun o1 r1 => ⟨o1, Ev.mkListF r1 (bL g2)⟩) ho
theorem lw (A : TOk w d T) (Z : Snd w d n R) {e : Expr} {x : Str} {pos : Pos} {S S' : Sx} {v : V} (M : Mt X κ) (hm : Rm X (n + (d + 1))) (h : fq T R κ e x S = some (v, S')) (ho : All S'.ob) : EvG w X S (.Attribute e x pos) v S' := by
 refine i5 h fun g h => evB Z M hm h fun p h z => dE h fun l h2 h => e9 h fun i h3 h => i5 h fun g2 h => e9 h fun u h4 h => i5 h fun g3 h => ?_
 rw [h2] at z
 exact sE (P := fun v S' => All S'.ob -> EvG w X S _ v S') h (fun ho => a9 (z ho) fun o1 r1 => ⟨o1, Ev.attr r1 (t9 h3).1 (t9 h3).2 h4 (A.get _ _ g2) g3 g⟩) ho
theorem jc {keys : List (Option Expr)} {es : List Expr} {pos : Pos} {S S' : Sx} {v : V} (M : Mt X κ) (h : fh κ keys es S = some (v, S')) (ho : All S'.ob) : EvG w X S (.Dict keys es pos) v S' := by
 refine e9 h fun ps h1 h => i5 h fun g h => ?_
 cases h
 refine a9 (i0 g) fun g2 g3 => ⟨ho, ?_⟩
 have hk : (eX X).kindOf = fun x => κ.kinds.lookup x := funext M.kd
 by_cases q : ps = []
 · subst q
   cases keys with
   | nil =>
    cases es with
    | nil => exact Ev.dict0
    | cons e es => cases h1
   | cons k ks =>
    cases es with
    | nil => cases k <;> cases h1
    | cons e es => obtain ⟨_, _, _, _, _, _, _, _, q⟩ := C0 h1; cases q
 · exact Ev.dict M.fk (by rw [hk]; exact h1) q (bL g2) (dO g3)
theorem zE (A : TOk w d T) (Z : Snd w d n R) {e : Expr} {S S' : Sx} {v : V} (M : Mt X κ) (hm : Rm X (n + (d + 1))) (h : fb T R κ e S = some (v, S')) (ho : All S'.ob) : EvG w X S e v S' := by
 refine okG.at (P := fun r : V × Sx => All r.2.ob -> EvG w X S e r.1 r.2) ?_ h ho
 clear h ho
 cases e with
 | Constant c k p => exact okP fun v S' h ho => mpE h fun c h1 h => sE (P := fun v S' => All S'.ob -> EvG w X S _ v S') (congrArg some h) (fun ho => ⟨ho, ew h1⟩) ho
 | Name x p => exact okP fun v S' h ho => mpE h fun c h1 h => sE (P := fun v S' => All S'.ob -> EvG w X S _ v S') (congrArg some h) (fun ho => ⟨ho, Z4 A M h1⟩) ho
 | BinOp l op r p =>
  refine okP fun v S' h ho => evB Z M hm h fun p h z1 => evB Z M hm h fun q h z2 => mpE h fun c h3 h => sE (P := fun v S' => All S'.ob -> EvG w X S _ v S') (congrArg some h) (fun ho => ?_) ho
  exact a9 (All.app ho) fun o3 ho => a9 (z2 ho) fun o2 r2 => a9 (z1 o2) fun o1 r1 => ⟨o1, Ev.bin r1 r2 fun G s u v k hu hv => ay (ps := c.2) h3 o3 k hu hv⟩
 | UnaryOp op e p => exact okP fun v S' h ho => pH Z M hm h ho
 | BoolOp op es p => exact okP fun v S' h ho => jA Z M hm h ho
 | IfExp t a b p => exact okP fun v S' h ho => ze Z M hm h ho
 | Compare l ops rs p =>
  exact okP fun v S' h ho => mpE h fun p h1 h => sE (P := fun v S' => All S'.ob -> EvG w X S _ v S') (congrArg some h) (fun ho => a9 (dn Z M hm h1 ho) fun o1 r => ⟨o1, r.1⟩) ho
 | Tuple es k p =>
  exact okP fun v S' h ho => i5 h fun g h => esB Z M hm g h fun p h z => i5 h fun g2 h => sE (P := fun v S' => All S'.ob -> EvG w X S _ v S') h (fun ho => a9 (z ho) fun o1 r1 => ⟨o1, Ev.mkTuple r1 (bL g2)⟩) ho
 | List es p => exact okP fun v S' h ho => ip Z M hm h ho
 | Attribute e x p => exact okP fun v S' h ho => lw A Z M hm h ho
 | Subscript e i p => exact okP fun v S' h ho => ma Z M hm h ho
 | Call f es ks p =>
  cases ks with
  | nil => exact okP fun v S' h ho => jn A Z M hm h ho
  | cons k ks => exact True.intro
 | ListComp elt gens sc p =>
  exact okP fun v S' h ho => mpE h fun p h1 h => sE (P := fun v S' => All S'.ob -> EvG w X S _ v S') (congrArg some h) (fun ho => ji Z M hm h1 ho) ho
 | Dict keys es p => exact okP fun v S' h ho => jc M h ho
 | _ => exact True.intro
theorem lW (Z : Snd w d n R) {op : BoolOp} {es : List Expr} {pos : Pos} {S S' : Sx} {v : Bool} (M : Mt X κ) (hm : Rm X (n + (d + 1))) (h : oG R κ op es pos S = some (v, S')) (ho : All S'.ob) : TeG w X S (.BoolOp op es pos) v S' := by
 cases es with
 | nil =>
  cases op
  · cases h; exact ⟨ho, Te.and0⟩
  · cases h; exact ⟨ho, Te.or0⟩
 | cons e es =>
  refine teB Z M hm h fun c S1 h z => ?_
  cases op <;> cases c
  · cases h
    exact a9 (z ho) fun o1 r1 => ⟨o1, Te.and r1 (fun q => nomatch q) fun _ => ⟨rfl, rfl⟩⟩
  · exact a9 (Z.te X κ _ S1 v S' M hm h ho) fun o2 r2 => a9 (z o2) fun o1 r1 => ⟨o1, Te.and r1 (fun _ => r2) fun q => nomatch q⟩
  · exact a9 (Z.te X κ _ S1 v S' M hm h ho) fun o2 r2 => a9 (z o2) fun o1 r1 => ⟨o1, Te.or r1 (fun _ => r2) fun q => nomatch q⟩
  · cases h
    exact a9 (z ho) fun o1 r1 => ⟨o1, Te.or r1 (fun q => nomatch q) fun _ => ⟨rfl, rfl⟩⟩
theorem lV (Z : Snd w d n R) {l : Expr} {ops : List CmpOp} {rs : List Expr} {pos : Pos} {S S' : Sx} {v : Bool} (M : Mt X κ) (hm : Rm X (n + (d + 1))) (h : fe R κ l ops rs pos S = some (v, S')) (ho : All S'.ob) : TeG w X S (.Compare l ops rs pos) v S' := by
 unfold fe at h
 cases hr : mo R κ l ops rs pos S with
 | some r =>
  rw [hr] at h
  exact a9 (dn Z M hm (hr.trans h) ho) fun o1 r => ⟨o1, r.2⟩
 | none =>
  rw [hr] at h
  exact zN Z M hm h ho
theorem pJ (A : TOk w d T) (Z : Snd w d n R) {e : Expr} {S S' : Sx} {v : Bool} (M : Mt X κ) (hm : Rm X (n + (d + 1))) (h : eZ R κ e S = some (v, S')) (ho : All S'.ob) : TeG w X S e v S' := by
 refine cdE h (fun g h => evB Z M hm h fun p h z => mpE h fun b h2 h => ?_) fun _ h => ?_
 · rw [M6 h2] at z
   exact sE (P := fun v S' => All S'.ob -> TeG w X S e v S') (congrArg some h) (fun ho => a9 (z ho) fun o1 r1 => ⟨o1, Te.val r1 g⟩) ho
 refine okG.at (P := fun r : Bool × Sx => All r.2.ob -> TeG w X S e r.1 r.2) ?_ h ho
 clear h ho
 cases e with
 | UnaryOp op e p =>
  cases op with
  | Not => exact okP fun v S' h ho => mpE h fun p h1 h => sE (P := fun v S' => All S'.ob -> TeG w X S _ v S') (congrArg some h) (fun ho => a9 (Z.te X κ _ S p.1 p.2 M hm h1 ho) fun o1 r1 => ⟨o1, Te.not r1⟩) ho
  | _ => exact True.intro
 | BoolOp op es p => exact okP fun v S' h ho => lW Z M hm h ho
 | Compare l ops rs p => exact okP fun v S' h ho => lV Z M hm h ho
 | _ => exact True.intro
end
end
section
variable {w : World} {X : Cf} {κ : Kt} {T : Tb} {n : Nat} {R : Rn}
noncomputable def swS (b c1 c2 c3 c4 c5 : Bool) (ns : List Str) : Sem (Option (List Str)) := if (c1 || b) = true then pure none else if c2 = true then pure none else if c3 = true then pure none else if c4 = true then pure none else if c5 = true then (unsupported "assign.tuple-of-constant-expressions:order-of-the-stores" >>= fun (_ : PUnit) => pure (some ns)) else pure (some ns)
theorem pN {c1 c2 c3 c4 c5 : Bool} {ns : List Str} {r : Option (List Str)} (h : swV c1 c2 c3 c4 c5 ns = some r) : swS false c1 c2 c3 c4 c5 ns = pure r := by
 cases c1 with
 | true => rw [← Option.some.inj h]; rfl
 | false =>
  cases c2 with
  | true => rw [← Option.some.inj h]; rfl
  | false =>
   cases c3 with
   | true => rw [← Option.some.inj h]; rfl
   | false =>
    cases c4 with
    | true => rw [← Option.some.inj h]; rfl
    | false =>
     cases c5 with
     | true => cases h
     | false => rw [← Option.some.inj h]; rfl
theorem J3 {ts : List Expr} {e : Expr} {k : Nat} {p : Pos} {r : Option (List Str)} (M : Mt X κ) (h : eV κ ts e = some r) : swappedStores [.Tuple ts k p] e (eX X) = pure r := by
 cases e with
 | Tuple vs k2 p2 =>
  unfold swappedStores
  dsimp only
  show swS ((eX X).blockKind != .function) _ (vs.any oF) ((swN (eX X).kindOf ts).length != ts.length || (swN (eX X).kindOf ts).eraseDups.length != (swN (eX X).kindOf ts).length) _ _ (swN (eX X).kindOf ts) = pure r
  rw [show ((eX X).blockKind != .function) = false by unfold Env.blockKind; rw [M.fk]; rfl, show (eX X).kindOf = fun x => κ.kinds.lookup x from funext M.kd]
  exact pN h
 | _ => exact Option.some.inj h ▸ rfl
theorem U5 (M : Mt X κ) (hco : κ.co = false) : ∀ {xs : List Str} {vs : List V} {S S' : Sx}, mq κ xs vs S = some S' -> S'.ob = S.ob ∧ Al w X S.st (xs.map fun n => bindName (eX X) n) vs S'.st
 | [], [], S, S', h => Option.some.inj h ▸ ⟨rfl, Al.nil⟩
 | x :: xs, v :: vs, S, S', h => by
  refine i5 (show (bif decide (κ.kinds.lookup x = some .local) then mq κ xs vs (S.put x v) else none) = _ from h) fun g h => ?_
  have i := U5 M hco h
  have m := M.k hco
  exact ⟨i.1, Al.bind i.2 m.1 m.2.1 ((m.2.2 x).trans (dO g))⟩
 | [], _ :: _, S, S', h => by cases h
 | _ :: _, [], S, S', h => by cases h
theorem aF (Z : Snd w d n R) {t e : Expr} {S S' : Sx} {v : Fl} {P : Prop} (M : Mt X κ) (hm : Rm X (n + (d + 1))) (h : aU R κ t e S = some (v, S')) (ho : All S'.ob) (k : n4 e = true -> ∀ u (S1 : Sx), All S.ob -> Ev w X S.st e u S1.st -> As w X S1.st t u S'.st -> v = .next -> P) : P := by
 refine i5 h fun g h => evB Z M hm h fun p h z => mpE h fun S2 h2 h => ?_
 exact sE (P := fun v S' => (∀ u (S1 : Sx), All S.ob -> Ev w X S.st e u S1.st -> As w X S1.st t u S'.st -> v = .next -> P) -> All S'.ob -> P) (congrArg some h) (fun k ho => a9 (Z.asg X κ t p.1 p.2 _ M hm h2 ho) fun o2 r2 => a9 (z o2) fun o1 r1 => k p.1 p.2 o1 r1 r2 rfl) (k g) ho
theorem lx (Z : Snd w d n R) {ts : List Expr} {k : Nat} {p : Pos} {e : Expr} {pos : Pos} {S S' : Sx} {v : Fl} (M : Mt X κ) (hm : Rm X (n + (d + 1))) (hco : κ.co = false) (h : fv R κ (.Tuple ts k p) ts e S = some (v, S')) (ho : All S'.ob) : E1G w X S (.Assign [.Tuple ts k p] e pos) v S' := by
 refine i5 h fun g h => ?_
 cases hs : eV κ ts e with
 | none => rw [hs] at h; cases h
 | some r =>
  rw [hs] at h
  cases r with
  | none =>
   refine evB Z M hm h fun p h z => mpE h fun S2 h2 h => ?_
   exact sE (P := fun v S' => All S'.ob -> E1G w X S _ v S') (congrArg some h) (fun ho => a9 (Z.asg X κ _ p.1 p.2 _ M hm h2 ho) fun o2 r2 => a9 (z o2) fun o1 r1 => ⟨o1, E1.assignT r1 r2 g (J3 M hs)⟩) ho
  | some names =>
   refine evB Z M hm h fun p h z => e9 h fun vs h2 h => i5 h fun g2 h => mpE h fun S2 h3 h => sE (P := fun v S' => All S'.ob -> E1G w X S _ v S') (congrArg some h) (fun ho => ?_) ho
   refine a9 (U5 (w := w) M hco h3) fun o2 r2 => ?_
   rw [o2] at ho
   rw [q8 h2] at z
   exact a9 (z ho) fun o1 r1 => ⟨o1, E1.assignS r1 r2 (Nat.eq_of_beq_eq_true g2) g (J3 M hs)⟩
theorem lz (Z : Snd w d n R) {y : Str} {py cpos pos : Pos} {elt : Expr} {gens : List Comprehension} {scope : Scope} {S S' : Sx} {v : Fl} (M : Mt X κ) (hm : Rm X (n + (d + 1))) (hco : κ.co = false) (h : fy R κ y py (.ListComp elt gens scope cpos) S = some (v, S')) (ho : All S'.ob) : E1G w X S (.Assign [.Name y py] (.ListComp elt gens scope cpos) pos) v S' := by
 have m := M.k hco
 refine i5 h fun g h => mpE h fun p h1 h => a9 (i0 g) fun g g3 => a9 (i0 g) fun g1 g2 => ?_
 refine sE (P := fun v S' => All S'.ob -> E1G w X S _ v S') (congrArg some h) (fun ho => a9 (ag Z M hm h1 ho) fun o1 z => ⟨o1, ?_⟩) ho
 cases z with
 | mk x tg iter ct v xs σ' e c1 c2 c3 ctg c4 c5 c6 c7 c8 => ?_
 rw [e, show (p.2.put y (.lst p.1)).st = ⟨(y, .lst p.1) :: σ'.fr, p.2.hp⟩ by unfold Sx.st Sx.put; rw [c8]]
 refine B3 c1 c2 c3 ctg c4 c5 c6 c7 (fun x v e => ?_) m.2.1 ((m.2.2 y).trans (dO g1)) ?_
 · have e := p5 (pr := fun y => scope.names.lookup y == some .free) e
   exact ⟨by rw [M.cf]; exact e.1, eq_of_beq e.2⟩
 · have hb : (eX X).blockKind = .function := by unfold Env.blockKind; rw [M.fk]; rfl
   show (pure ((eX X).blockKind == .function && (eX X).kindOf y == some .local && py.line == cpos.line && !(scope.names.any fun (n, k) => n == y && (k == .local || k == .cell))) : Sem Bool) = pure true
   rw [hb, M.kd y, dO g1, g2, g3]; rfl
theorem ly (Z : Snd w d n R) {y : Str} {py pos : Pos} {e : Expr} {S S' : Sx} {v : Fl} (M : Mt X κ) (hm : Rm X (n + (d + 1))) (hco : κ.co = false) (h : fw R κ y py e S = some (v, S')) (ho : All S'.ob) : E1G w X S (.Assign [.Name y py] e pos) v S' := by
 refine cdE h (fun _ h => ?_) fun _ h => ?_
 · refine okG.at (P := fun r : Fl × Sx => All r.2.ob -> E1G w X S (.Assign [.Name y py] e pos) r.1 r.2) ?_ h ho
   clear h ho
   cases e with
   | ListComp elt gens scope cpos => exact okP fun v S' h ho => lz Z M hm hco h ho
   | _ => exact True.intro
 · have m := M.k hco
   refine i5 h fun g h => evM Z M hm h fun p h z => sE (P := fun v S' => All S'.ob -> E1G w X S _ v S') (congrArg some h) (fun ho => ?_) ho
   exact a9 (i0 g) fun g1 g2 => a9 (z ho) fun o1 r1 => ⟨o1, E1.assign r1 m.1 m.2.1 ((m.2.2 y).trans (dO g2)) (v8 g1)⟩
theorem oe (Z : Snd w d n R) {ts : List Expr} {e : Expr} {pos : Pos} {S S' : Sx} {v : Fl} (M : Mt X κ) (hm : Rm X (n + (d + 1))) (h : oH R κ ts e S = some (v, S')) (ho : All S'.ob) : E1G w X S (.Assign ts e pos) v S' := by
 refine a9 (gnd h) fun hco h => ?_
 cases ts with
 | nil => cases h
 | cons t r =>
  cases r with
  | cons t2 r => cases h
  | nil =>
   refine okG.at (P := fun r : Fl × Sx => All r.2.ob -> E1G w X S (.Assign [t] e pos) r.1 r.2) ?_ (show fz R κ t e S = _ from h) ho
   clear h ho
   cases t with
   | Tuple ts k p => exact okP fun v S' h ho => lx Z M hm hco h ho
   | Name y py => exact okP fun v S' h ho => ly Z M hm hco h ho
   | Attribute o x p => exact okP fun v S' h ho => aF Z M hm h ho fun g u S1 o1 r1 r2 e => e ▸ ⟨o1, E1.assignA r1 r2 g⟩
   | Subscript o i p => exact okP fun v S' h ho => aF Z M hm h ho fun g u S1 o1 r1 r2 e => e ▸ ⟨o1, E1.assignI r1 r2 g⟩
   | _ => exact True.intro
theorem lq (Z : Snd w d n R) {x : Str} {px pos : Pos} {op : Operator} {e : Expr} {S S' : Sx} {v : Fl} (M : Mt X κ) (hm : Rm X (n + (d + 1))) (hco : κ.co = false) (h : fj R κ x op e S = some (v, S')) (ho : All S'.ob) : E1G w X S (.AugAssign (.Name x px) op e pos) v S' := by
 have m := M.k hco
 refine i5 h fun g h => e9 h fun a h1 h => evB Z M hm h fun p h z => mpE h fun c h3 h => ?_
 exact sE (P := fun v S' => All S'.ob -> E1G w X S _ v S') (congrArg some h) (fun ho => a9 (z ho) fun o1 r1 => ⟨o1, E1.aug h1 r1 h3 m.1 m.2.1 ((m.2.2 _).trans (dO g))⟩) ho
theorem lu (A : TOk w d T) (Z : Snd w d n R) {o : Expr} {x : Str} {px pos : Pos} {op : Operator} {e : Expr} {S S' : Sx} {v : Fl} (M : Mt X κ) (hm : Rm X (n + (d + 1))) (hco : κ.co = false) (h : fo T R κ o x op e S = some (v, S')) (ho : All S'.ob) : E1G w X S (.AugAssign (.Attribute o x px) op e pos) v S' := by
 refine evB Z M hm h fun p h z1 => dE h fun l h2 h => e9 h fun i h3 h => i5 h fun g h => e9 h fun a h4 h => i5 h fun g2 h => evB Z M hm h fun q h z2 => e9 h fun j h6 h => i5 h fun g3 h => e9 h fun c h7 h => i5 h fun g4 h => sE (P := fun v S' => All S'.ob -> E1G w X S _ v S') h (fun ho => ?_) ho
 rw [h2] at z1
 refine a9 (z2 ho) fun o2 r2 => a9 (z1 o2) fun o1 r1 => a9 (t9 h3) fun i1 i2 => a9 (t9 h6) fun j1 j2 => a9 (i0 g3) fun g31 g32 => a9 (i0 g) fun g11 g12 => ?_
 have g31 := Nat.eq_of_beq_eq_true g31
 have g32 := Nat.eq_of_beq_eq_true g32
 rw [g31] at j1
 exact ⟨o1, E1.augA (d := j.2.1) r1 (by rw [g32]; exact i1) (by rw [g32]; exact i2) h4 (A.get _ _ g11) g2 r2 j1 j2 h7 (A.set _ _ g12) (bL g4)⟩
theorem lr (Z : Snd w d n R) {o i : Expr} {px pos : Pos} {op : Operator} {e : Expr} {S S' : Sx} {v : Fl} (M : Mt X κ) (hm : Rm X (n + (d + 1))) (hco : κ.co = false) (h : fm R κ o i op e S = some (v, S')) (ho : All S'.ob) : E1G w X S (.AugAssign (.Subscript o i px) op e pos) v S' := by
 refine i5 h fun g h => evB Z M hm h fun p h z1 => dE h fun l h2 h => evB Z M hm h fun q h z2 => mZ h fun k h4 h => e9 h fun xs h5 h => i5 h fun g2 h => e9 h fun a h6 h => evB Z M hm h fun r h z3 => e9 h fun xs2 h8 h => i5 h fun g3 h => mpE h fun c h9 h => sE (P := fun v S' => All S'.ob -> E1G w X S _ v S') (congrArg some h) (fun ho => ?_) ho
 rw [h2] at z1
 rw [h4] at z2
 exact a9 (z3 ho) fun o3 r3 => a9 (z2 o3) fun o2 r2 => a9 (z1 o2) fun o1 r1 => a9 (i0 g2) fun g21 g22 => ⟨o1, E1.augI r1 r2 (w3 h5) (dO g21) (dO g22) h6 r3 (w3 h8) (dO g3) h9 g⟩
theorem pV (A : TOk w d T) (Z : Snd w d n R) {e : Stmt} {S S' : Sx} {v : Fl} (M : Mt X κ) (hm : Rm X (n + (d + 1))) (h : oE T R κ e S = some (v, S')) (ho : All S'.ob) : E1G w X S e v S' := by
 refine okG.at (P := fun r : Fl × Sx => All r.2.ob -> E1G w X S e r.1 r.2) ?_ h ho
 clear h ho
 cases e with
 | Return r p =>
  cases r with
  | none => exact fun ho => ⟨ho, E1.retN⟩
  | some e => exact okP fun v S' h ho => evM Z M hm h fun p h z => sE (P := fun v S' => All S'.ob -> E1G w X S _ v S') (congrArg some h) (fun ho => a9 (z ho) fun o1 r1 => ⟨o1, E1.ret r1⟩) ho
 | Pass p => exact fun ho => ⟨ho, E1.pass⟩
 | Break p => exact fun ho => ⟨ho, E1.brk⟩
 | Continue p => exact fun ho => ⟨ho, E1.cont⟩
 | Expr e p => exact okP fun v S' h ho => i5 h fun g h => evM Z M hm h fun p h z => sE (P := fun v S' => All S'.ob -> E1G w X S _ v S') (congrArg some h) (fun ho => a9 (z ho) fun o1 r1 => ⟨o1, E1.drop r1 M.ni (i0 g).2⟩) ho
 | If t b1 b2 p =>
  refine okP fun v S' h ho => teB Z M hm h fun c S1 h z => ?_
  cases c
  · exact a9 (Z.ss X κ _ S1 v S' M hm h ho) fun o2 r2 => a9 (z o2) fun o1 r1 => ⟨o1, E1.ite r1 (fun q => nomatch q) fun _ => r2⟩
  · exact a9 (Z.ss X κ _ S1 v S' M hm h ho) fun o2 r2 => a9 (z o2) fun o1 r1 => ⟨o1, E1.ite r1 (fun _ => r2) fun q => nomatch q⟩
 | While t b o p =>
  cases o with
  | cons _ _ => exact True.intro
  | nil =>
   refine okP fun v S' h ho => teB Z M hm h fun c S1 h z => ?_
   cases c
   · exact sE (P := fun v S' => All S'.ob -> E1G w X S _ v S') h (fun ho => a9 (z ho) fun o1 r1 => ⟨o1, E1.while0 r1⟩) ho
   · cases h
 | For t iter b o p =>
  cases o with
  | cons _ _ => exact True.intro
  | nil =>
   refine okP fun v S' h ho => i5 h fun g h => evB Z M hm h fun p h z => e9 h fun xs h2 h => ?_
   exact a9 (Z.lp X κ _ _ xs p.2 v S' M hm h ho) fun o2 r2 => a9 (z o2) fun o1 r1 => a9 (i0 g) fun g1 g2 => ⟨o1, E1.for (M.co (yD g1)) r1 h2 r2 g2⟩
 | Assign ts e p => exact okP fun v S' h ho => oe Z M hm h ho
 | AugAssign t op e p =>
  refine okI fun r h => a9 (gnd h) fun hco h => ?_
  refine okG.at (P := fun r : Fl × Sx => All r.2.ob -> E1G w X S (.AugAssign t op e p) r.1 r.2) ?_ h
  clear h
  cases t with
  | Name x px => exact okP fun v S' h ho => lq Z M hm hco h ho
  | Attribute o x px => exact okP fun v S' h ho => lu A Z M hm hco h ho
  | Subscript o i px => exact okP fun v S' h ho => lr Z M hm hco h ho
  | _ => exact True.intro
 | _ => exact True.intro
theorem lA (Z : Snd w d n R) {o i : Expr} {pos : Pos} {v : V} {S S' : Sx} (M : Mt X κ) (hm : Rm X (n + (d + 1))) (h : fB R κ o i v S = some S') (ho : All S'.ob) : AsG w X S (.Subscript o i pos) v S' := by
 refine evB Z M hm h fun p h z1 => dE h fun l h2 h => evB Z M hm h fun q h z2 => mZ h fun k h4 h => ?_
 rw [h2] at z1
 rw [h4] at z2
 cases h5 : M4 q.2.hp l with
 | some xs =>
  rw [h5] at h
  refine i5 h fun g h => a9 (i0 g) fun g1 g2 => ?_
  rw [← Option.some.inj h] at ho ⊢
  exact a9 (z2 ho) fun o2 r2 => a9 (z1 o2) fun o1 r1 => ⟨o1, As.sub r1 r2 (w3 h5) (dO g1) (dO g2)⟩
 | none =>
  rw [h5] at h
  refine e9 h fun n h5 h => mZ h fun b h6 h => i5 h fun g h => a9 (i0 g) fun g g3 => a9 (i0 g) fun g1 g2 => ?_
  rw [← Option.some.inj h] at ho ⊢
  rw [h6]
  exact a9 (All.cons ho) fun hb ho => a9 (z2 ho) fun o2 r2 => a9 (z1 o2) fun o1 r1 => ⟨o1, As.subB r1 r2 (cZ h5) (bL g1) (dO g2) (dO g3) hb.1 hb.2⟩
theorem og (A : TOk w d T) (Z : Snd w d n R) {e : Expr} {v : V} {S S' : Sx} (M : Mt X κ) (hm : Rm X (n + (d + 1))) (h : bX T R κ e v S = some S') (ho : All S'.ob) : AsG w X S e v S' := by
 refine okG.at (P := fun S' : Sx => All S'.ob -> AsG w X S e v S') ?_ h ho
 clear h ho
 cases e with
 | Name x p =>
  refine okI fun S' h ho => i5 h fun g h => a9 (i0 g) fun g1 g2 => ?_
  rw [← Option.some.inj h] at ho ⊢
  have m := M.k (yD g1)
  exact ⟨ho, As.nm m.1 m.2.1 ((m.2.2 _).trans (dO g2))⟩
 | Tuple ts k p =>
  refine okI fun S' h ho => e9 h fun vs h1 h => i5 h fun g h => a9 (i0 g) fun g1 g2 => ?_
  rw [q8 h1]
  exact a9 (Z.als X κ _ vs S S' M hm g2 h ho) fun o1 r1 => ⟨o1, As.tup r1 (Nat.eq_of_beq_eq_true g1) g2⟩
 | Attribute o x p =>
  refine okI fun S' h ho => evB Z M hm h fun p h z1 => dE h fun l h2 h => e9 h fun i h3 h => i5 h fun g h => a9 (i0 g) fun g1 g2 => ?_
  rw [h2] at z1
  rw [← Option.some.inj h] at ho ⊢
  exact a9 (z1 ho) fun o1 r1 => ⟨o1, As.attr r1 (t9 h3).1 (t9 h3).2 (A.set _ _ g1) (bL g2)⟩
 | Subscript o i p => exact okI fun S' h ho => lA Z M hm h ho
 | _ => exact True.intro
noncomputable def dumX : Cf := { p := PySem.Challenge.pw_rg0261_01, loose := [], mean := fun _ => none, mg := fun _ => none, mb := fun _ => none, dp := 0, un := 0, gd := some [], cn := "", cs := ⟨.function, [], false, false, []⟩, a := 0, ccd := .none, cl := [], cf := [], co := none, outer := [], A₀ := { handled := none, depth := 0, frames := none, guards := none, units := 0 }, base := default, h₀ := default, L := 0 }
theorem mi {f : Fl} {v : V} (h : AH f = some v) : f = .ret v ∨ f = .next ∧ v = .none := by
 cases f with
 | ret u => exact .inl (by rw [Option.some.inj h])
 | next => exact .inr ⟨rfl, (Option.some.inj h).symm⟩
 | _ => cases h
theorem zt (A : TOk w d T) (Z : Snd w d n R) (hn : n + d < 800) {a : Addr} {vs : List V} {S S' : Sx} {v : V} (h : aT T R a vs S = some (v, S')) (ho : All S'.ob) : All S.ob ∧ S'.fr = S.fr ∧ Cc w (n + 1 + (d + 1)) (.ref a) S.hp vs v S'.hp := by
 unfold aT at h
 cases hr : T.spec a S.hp vs with
 | some r =>
  rw [hr] at h
  exact sE (P := fun v S' => All S'.ob -> All S.ob ∧ S'.fr = S.fr ∧ Cc w (n + 1 + (d + 1)) (.ref a) S.hp vs v S'.hp) h (fun ho => a9 (All.app ho) fun o1 o2 => ⟨o2, rfl, (A.spec a S.hp vs r.1 r.2.1 r.2.2 hr o1).deep (by lia)⟩) ho
 | none =>
  rw [hr] at h
  refine e9 h fun fn h1 h => i5 h fun g h => e9 h fun p h2 h => mpE h fun u hv h => ?_
  refine sE (P := fun v S' => All S'.ob -> All S.ob ∧ S'.fr = S.fr ∧ Cc w (n + 1 + (d + 1)) (.ref a) S.hp vs v S'.hp) (congrArg some h) (fun ho => ?_) ho
  obtain ⟨f1, qual, cdv, f2⟩ := A.fn a fn h1
  have mt : ∀ (X : Cf) g L', Mt (X.innerC qual fn.sc a cdv g L' (fn.cfOf vs)) ⟨fn.sc.names, fn.cfOf vs, false⟩ := fun X g L' => ⟨fun x => rfl, f1, rfl, fun _ => rfl⟩
  have hs := fun X mt hX => Z.ss X ⟨fn.sc.names, fn.cfOf vs, false⟩ fn.body ⟨fn.frOf vs, S.hp, S.as, S.ob⟩ p.1 p.2 mt hX h2 ho
  rw [show n + 1 + (d + 1) = n + (d + 1) + 1 by lia]
  refine ⟨(hs (dumX.innerC qual fn.sc a cdv default 0 (fn.cfOf vs)) (mt _ _ _) ⟨?_, ?_, rfl⟩).1, rfl, f2 (n + (d + 1)) S.hp vs u p.2.hp (Nat.eq_of_beq_eq_true g) fun X hX g L' => ⟨p.2.fr, p.1, (hs (X.innerC qual fn.sc a cdv g L' (fn.cfOf vs)) (mt X g L') (Rm.inner (cn := qual) (cs := fn.sc) (a := a) (ccd := cdv) (h₀ := g) (L := L') hX)).2, mi hv⟩⟩
  · show 0 + 1 + (n + (d + 1)) < 900; lia
  · show 0 + 3 + 3 * (n + (d + 1)) < 9000; lia
theorem yR (Z : Snd w d n R) {t : Expr} {b : List Stmt} {xs : List V} {fl : Fl} {S S' : Sx} (M : Mt X κ) (hm : Rm X (n + (d + 1))) (h : fa R κ t b xs S = some (fl, S')) (ho : All S'.ob) : All S.ob ∧ Lp w X t b xs S.st fl S'.st := by
 cases xs with
 | nil => exact sE (P := fun fl S' => All S'.ob -> All S.ob ∧ Lp w X t b [] S.st fl S'.st) h (fun ho => ⟨ho, .done⟩) ho
 | cons v vs =>
  refine e9 h fun S1 h1 h => e9 h fun p h2 h => ?_
  have z2 := Z.ss X κ b S1 p.1 p.2 M hm h2
  have z1 := Z.asg X κ t _ S S1 M hm h1
  generalize hf : p.1 = f at h z2
  cases f with
  | next => exact a9 (Z.lp X κ t b _ p.2 fl S' M hm h ho) fun o3 r3 => a9 (z2 o3) fun o2 r2 => a9 (z1 o2) fun o1 r1 => ⟨o1, .step r1 r2 (.inl rfl) r3⟩
  | cont => exact a9 (Z.lp X κ t b _ p.2 fl S' M hm h ho) fun o3 r3 => a9 (z2 o3) fun o2 r2 => a9 (z1 o2) fun o1 r1 => ⟨o1, .step r1 r2 (.inr rfl) r3⟩
  | brk => exact sE (P := fun fl S' => All S'.ob -> All S.ob ∧ Lp w X t b (v :: vs) S.st fl S'.st) h (fun ho => a9 (z2 ho) fun o2 r2 => a9 (z1 o2) fun o1 r1 => ⟨o1, .brk r1 r2⟩) ho
  | ret u => exact sE (P := fun fl S' => All S'.ob -> All S.ob ∧ Lp w X t b (v :: vs) S.st fl S'.st) h (fun ho => a9 (z2 ho) fun o2 r2 => a9 (z1 o2) fun o1 r1 => ⟨o1, .ret r1 r2⟩) ho
theorem zL (Z : Snd w d n R) {scope : Scope} {cf : List (Str × V)} {ct : Option Expr} {elt : Expr} {x : Str} {xs ys : List V} {S S' : Sx} (M : ∀ cl C m, Mt (X.comp scope cl cf C m) κ) (hm : Rm X (n + (d + 1))) (h : fc R κ ct elt x xs S = some (ys, S')) (ho : All S'.ob) :
 All S.ob ∧ ∀ cl, Cm w X scope cl cf ct elt x xs S.hp ys S'.hp := by
 have hm' : ∀ cl C m, Rm (X.comp scope cl cf C m) (n + (d + 1)) := fun _ _ _ => hm
 cases xs with
 | nil => exact sE (P := fun ys S' => All S'.ob -> All S.ob ∧ ∀ cl, Cm w X scope cl cf ct elt x [] S.hp ys S'.hp) h (fun ho => ⟨ho, fun _ => .done⟩) ho
 | cons v vs =>
  refine e9 h fun p h1 h => ?_
  have hq : All p.2.ob -> All S.ob ∧ ∀ cl C m, Tq w (X.comp scope cl cf C m) ⟨[(x, v)], S.hp⟩ ct p.1 p.2.st := fun o => by
   cases ct with
   | none => rw [← Option.some.inj h1] at o ⊢; exact ⟨o, fun _ _ _ => ⟨rfl, rfl⟩⟩
   | some c =>
    have z := fun cl C m => Z.te (X.comp scope cl cf C m) κ c ⟨[(x, v)], S.hp, S.as, S.ob⟩ p.1 p.2 (M _ _ _) (hm' _ _ _) h1 o
    exact ⟨(z [] 0 fun _ => none).1, fun cl C m => (z cl C m).2⟩
  generalize hb : p.1 = b at h hq
  cases b with
  | true =>
   refine e9 h fun q h2 h => mpE h fun r h3 h => ?_
   refine sE (P := fun ys S' => All S'.ob -> All S.ob ∧ ∀ cl, Cm w X scope cl cf ct elt x (v :: vs) S.hp ys S'.hp) (congrArg some h) (fun ho => a9 (Z.cm X scope cf κ ct elt x vs q.2 r.1 r.2 M hm h3 ho) fun o3 r3 => ?_) ho
   have z := fun cl C m => Z.ev (X.comp scope cl cf C m) κ elt p.2 q.1 q.2 (M _ _ _) (hm' _ _ _) h2 o3
   exact a9 (hq (z [] 0 fun _ => none).1) fun o1 r1 => ⟨o1, fun cl => .yes (fun C m => r1 cl C m) (fun C m => (z cl C m).2) (r3 cl)⟩
  | false => exact a9 (Z.cm X scope cf κ ct elt x vs p.2 ys S' M hm h ho) fun o3 r3 => a9 (hq o3) fun o1 r1 => ⟨o1, fun cl => .no (fun C m => r1 cl C m) (r3 cl)⟩
theorem bH {hp : List O} {f : Value} {vs : List V} {r : V × List Prop} (h : kZ hp f vs = some r) : (∃ id, f = .builtin id) ∨ ∃ T, f = .type T := by
 refine okG.at (P := fun _ => (∃ id, f = .builtin id) ∨ ∃ T, f = .type T) ?_ h
 cases f with
 | builtin id => exact okI fun _ _ => .inl ⟨id, rfl⟩
 | type T => exact okI fun _ _ => .inr ⟨T, rfl⟩
 | _ => exact True.intro
theorem lZ {k : Nat} {hp : List O} {u : V} {r : V × List O} (h : Am hp u = some r) : Cl w k (.type "bytearray") hp [u] r.1 r.2 := by
 refine okG.at (P := fun r : V × List O => Cl w k (.type "bytearray") hp [u] r.1 r.2) ?_ h
 clear h
 cases u with
 | int n =>
  refine okI fun r h => i5 h fun g h => a9 (i0 g) fun g1 g2 => ?_
  rw [← Option.some.inj h]
  exact av (dO g1) (dO g2)
 | _ => exact True.intro
theorem lY {k : Nat} {hp : List O} {u : V} {r : V × List O} (h : Ak hp u = some r) : Cl w k (.type "bytes") hp [u] r.1 r.2 := by
 refine okG.at (P := fun r : V × List O => Cl w k (.type "bytes") hp [u] r.1 r.2) ?_ h
 clear h
 cases u with
 | int n =>
  refine okI fun r h => i5 h fun g h => a9 (i0 g) fun g1 g2 => ?_
  rw [← Option.some.inj h]
  exact eF (dO g1) (dO g2)
 | ref l =>
  refine okI fun r h => e9 h fun n h1 h => i5 h fun g h => ?_
  rw [← Option.some.inj h]
  exact eG (cZ h1) (bL g)
 | _ => exact True.intro
theorem lX {k : Nat} {hp : List O} {f : Value} {vs : List V} {r : V × List O} (e : pK hp f vs = some r) : Cl w k f hp vs r.1 r.2 ∧ ∃ T, f = .type T := by
 refine okG.at (P := fun r : V × List O => Cl w k f hp vs r.1 r.2 ∧ ∃ T, f = .type T) ?_ e
 clear e
 cases f with
 | type T =>
  refine okI fun r e => ⟨e9 e fun u hu h => ?_, T, rfl⟩
  rw [B5 hu]
  refine cdE h (fun c h => ?_) fun _ h => cdE h (fun c h => ?_) fun _ h => i5 h fun c h => ?_
  · rw [eq_of_beq c]; exact lZ h
  · rw [eq_of_beq c]; exact lY h
  · rw [eq_of_beq c]
    refine e9 h fun xs h1 h => e9 h fun ps h2 h => i5 h fun g h => a9 (i0 g) fun g1 g2 => ?_
    rw [← Option.some.inj h]
    exact zG h1 h2 (bL g1) (dO g2)
 | _ => exact True.intro
theorem iF {f : Value} {a : Addr} (h : iG f = some a) : f = .ref a := okG.at (P := fun a => f = .ref a) (by cases f <;> first | exact True.intro | exact Eq.refl _) h
theorem nI (A : TOk w d T) (Z : Snd w d n R) {f : Value} {vs : List V} {S S' : Sx} {v : V} (h : U2 T R f vs S = some (v, S')) (ho : All S'.ob) : All S.ob ∧ S'.fr = S.fr ∧ Cl w (n + 1 + (d + 1)) f S.hp vs v S'.hp ∧ (keepIn (K w.params) f = true ∨ (∃ id, f = .builtin id) ∨ ∃ T, f = .type T) := by
 unfold U2 at h
 cases ha : iG f with
 | some a =>
  rw [ha] at h
  rw [iF ha]
  refine i5 h fun g h => ?_
  have hk := A.keep a g
  cases hi : T.cls a with
  | some i =>
   rw [hi] at h
   refine e9 h fun p h1 h => i5 h fun hv h => sE (P := fun v S' => All S'.ob -> All S.ob ∧ S'.fr = S.fr ∧ Cl w (n + 1 + (d + 1)) (.ref a) S.hp vs v S'.hp ∧ (keepIn (K w.params) (.ref a) = true ∨ (∃ id, Value.ref a = .builtin id) ∨ ∃ T, Value.ref a = .type T)) h (fun ho => ?_) ho
   have z := Z.fnc i _ _ p.1 p.2 h1 ho
   rw [D8 hv] at z
   rw [show n + 1 + (d + 1) = n + (d + 1) + 1 by lia]
   exact ⟨z.1, z.2.1, yJ (A.cls a i hi) z.2.2, .inl hk⟩
  | none =>
   rw [hi] at h
   exact a9 (Z.fnc a vs S v S' h ho) fun o1 z => ⟨o1, z.1, (z.2.deep (by lia)).cl, .inl hk⟩
 | none =>
  rw [ha] at h
  dsimp only at h
  cases hr : pK S.hp f vs with
  | some r =>
   rw [hr] at h
   exact sE (P := fun v S' => All S'.ob -> All S.ob ∧ S'.fr = S.fr ∧ Cl w (n + 1 + (d + 1)) f S.hp vs v S'.hp ∧ (keepIn (K w.params) f = true ∨ (∃ id, f = .builtin id) ∨ ∃ T, f = .type T)) h (fun ho => a9 (lX (w := w) (k := n + 1 + (d + 1)) hr) fun c1 c2 => ⟨ho, rfl, c1, .inr (.inr c2)⟩) ho
  | none =>
   rw [hr] at h
   exact mpE h fun p h1 h => sE (P := fun v S' => All S'.ob -> All S.ob ∧ S'.fr = S.fr ∧ Cl w (n + 1 + (d + 1)) f S.hp vs v S'.hp ∧ (keepIn (K w.params) f = true ∨ (∃ id, f = .builtin id) ∨ ∃ T, f = .type T)) (congrArg some h) (fun ho => a9 (All.app ho) fun o1 o2 => ⟨o2, rfl, kY (ps := p.2) h1 o1, .inr (bH h1)⟩) ho
theorem zF (Z : Snd w d n R) {es : List Expr} {S S' : Sx} {vs : List V} (M : Mt X κ) (hm : Rm X (n + (d + 1))) (hst : es.all i7 = true) (h : (step T R).es κ es S = some (vs, S')) (ho : All S'.ob) : EsG w X S es vs S' := by
 cases es with
 | nil => cases h; exact ⟨ho, Es.nil⟩
 | cons e es =>
  obtain ⟨p, h1, h⟩ := bnd (show (R.ev κ e S).bind _ = _ from h)
  obtain ⟨q, h2, h⟩ := mp h
  cases h
  rw [List.all_cons, Bool.and_eq_true] at hst
  obtain ⟨o2, r2⟩ := Z.es X κ es p.2 q.1 q.2 M hm hst.2 h2 ho
  obtain ⟨o1, r1⟩ := Z.ev X κ e S p.1 p.2 M hm h1 o2
  exact ⟨o1, Es.cons r1 r2 (g0 hst.1)⟩
theorem pO (Z : Snd w d n R) {bs : List Stmt} {S S' : Sx} {fl : Fl} (M : Mt X κ) (hm : Rm X (n + (d + 1))) (h : (step T R).ss κ bs S = some (fl, S')) (ho : All S'.ob) : ExG w X S bs fl S' := by
 cases bs with
 | nil => cases h; exact ⟨ho, Ex.nil⟩
 | cons b bs =>
  obtain ⟨p, h1, h⟩ := bnd (show (R.s1 κ b S).bind _ = _ from h)
  obtain ⟨f, S1⟩ := p
  cases f with
  | next =>
   obtain ⟨o2, r2⟩ := Z.ss X κ bs S1 fl S' M hm h ho
   obtain ⟨o1, r1⟩ := Z.s1 X κ b S .next S1 M hm h1 o2
   exact ⟨o1, Ex.cons r1 r2⟩
  | ret v =>
   cases h
   obtain ⟨o1, r1⟩ := Z.s1 X κ b S _ _ M hm h1 ho
   exact ⟨o1, Ex.stop r1 (by intro q; cases q)⟩
  | brk =>
   cases h
   obtain ⟨o1, r1⟩ := Z.s1 X κ b S _ _ M hm h1 ho
   exact ⟨o1, Ex.stop r1 (by intro q; cases q)⟩
  | cont =>
   cases h
   obtain ⟨o1, r1⟩ := Z.s1 X κ b S _ _ M hm h1 ho
   exact ⟨o1, Ex.stop r1 (by intro q; cases q)⟩
theorem ol (Z : Snd w d n R) {ts : List Expr} {vs : List V} {S S' : Sx} (M : Mt X κ) (hm : Rm X (n + (d + 1))) (hst : ts.all i7 = true) (h : (step T R).als κ ts vs S = some S') (ho : All S'.ob) : All S.ob ∧ Al w X S.st ((assignEach ts (eX X)).map (·.2)) vs S'.st := by
 cases ts with
 | nil =>
  cases vs with
  | nil => cases h; exact ⟨ho, Al.nil⟩
  | cons v vs => cases h
 | cons t ts =>
  cases vs with
  | nil => cases h
  | cons v vs =>
   obtain ⟨S1, h1, h⟩ := bnd (show (R.asg κ t v S).bind _ = _ from h)
   rw [List.all_cons, Bool.and_eq_true] at hst
   obtain ⟨o2, r2⟩ := Z.als X κ ts vs S1 S' M hm hst.2 h ho
   obtain ⟨o1, r1⟩ := Z.asg X κ t v S S1 M hm h1 o2
   rw [N8 hst.1, List.map_cons]
   exact ⟨o1, Al.cons r1 r2⟩
theorem snd (A : TOk w d T) : ∀ n, n + d < 800 -> Snd w d n (rn T n)
 | 0, _ => {
  ev := fun X κ e S v S' M hm h ho => nomatch h
  es := fun X κ e S v S' M hm hst h ho => nomatch h
  es0 := fun κ S v S' h => nomatch h
  te := fun X κ e S v S' M hm h ho => nomatch h
  s1 := fun X κ e S v S' M hm h ho => nomatch h
  ss := fun X κ e S v S' M hm h ho => nomatch h
  asg := fun X κ e v S S' M hm h ho => nomatch h
  als := fun X κ e v S S' M hm hst h ho => nomatch h
  lp := fun X κ t b xs S fl S' M hm h ho => nomatch h
  cm := fun X scope cf κ ct elt x xs S ys S' M hm h ho => nomatch h
  fnc := fun a vs S v S' h ho => nomatch h
  cal := fun f vs S v S' h ho => nomatch h }
 | n + 1, hn => by
  have Z := snd A n (by lia)
  exact {
   ev := fun X κ e S v S' M hm h ho => zE A Z M (hm.less (by lia)) h ho
   es := fun X κ e S v S' M hm hst h ho => zF (T := T) Z M (hm.less (by lia)) hst h ho
   es0 := fun κ S v S' h => by cases h; exact ⟨rfl, rfl⟩
   te := fun X κ e S v S' M hm h ho => pJ A Z M (hm.less (by lia)) h ho
   s1 := fun X κ e S v S' M hm h ho => pV A Z M (hm.less (by lia)) h ho
   ss := fun X κ e S v S' M hm h ho => pO (T := T) Z M (hm.less (by lia)) h ho
   asg := fun X κ e v S S' M hm h ho => og A Z M (hm.less (by lia)) h ho
   als := fun X κ e v S S' M hm hst h ho => ol (T := T) Z M (hm.less (by lia)) hst h ho
   lp := fun X κ t b xs S fl S' M hm h ho => yR Z M (hm.less (by lia)) h ho
   cm := fun X scope cf κ ct elt x xs S ys S' M hm h ho => zL Z M (hm.less (by lia)) h ho
   fnc := fun a vs S v S' h ho => zt A Z (by lia) h ho
   cal := fun f vs S v S' h ho => nI A Z h ho }
end
section
variable {w : World} {X : Cf} {G : Gam} {σ σ' σ'' : St} {s : Shared}
theorem jl : ∀ {names : List (Str × NameKind)} {k : Nat} {acc : List (Str × Addr)} {lo : Nat}, lo ≤ k -> (∀ p ∈ acc, lo ≤ p.2) -> ∀ p ∈ cellsFrom k names acc, lo ≤ p.2
 | [], k, acc, lo, h, ha => ha
 | (n, kd) :: r, k, acc, lo, h, ha => by
  unfold cellsFrom
  split
  · refine jl (Nat.le_succ_of_le h) fun p hp => ?_
    rcases mC hp with rfl | hp
    · exact h
    · exact ha p hp
  · exact jl h ha
theorem ak {cm : Str -> Option Value} : ∀ {cl : List (Str × Addr)} {cells : List (Addr × Obj)}, CellsAre cm cl cells -> (∀ p ∈ cells, ∃ n, (n, p.1) ∈ cl) ∧ ∀ p ∈ cl, ∃ o, (p.2, o) ∈ cells ∧ o.data = .cell (cm p.1)
 | _, _, .nil => ⟨(fun p hp => by cases hp), fun p hp => by cases hp⟩
 | _, _, .cons (n := n) (c := c) (o := o) e h => by
  obtain ⟨h1, h2⟩ := ak h
  refine ⟨fun p hp => ?_, fun p hp => ?_⟩
  · rcases mC hp with rfl | hp
    · exact ⟨n, .head _⟩
    · obtain ⟨m, hm⟩ := h1 p hp; exact ⟨m, .tail _ hm⟩
  · rcases mC hp with rfl | hp
    · exact ⟨o, .head _, e⟩
    · obtain ⟨o', a, b⟩ := h2 p hp; exact ⟨o', .tail _ a, b⟩
abbrev NV (P : Params) (G : Gam) (a : Str × V) (b : Str × Value) : Prop := a.1 = b.1 ∧ RV P G a.2 b.2
theorem zZ {P : Params} {kd : Str -> Option NameKind} {l : List (Str × V)} {l' : List (Str × Value)} (h : d9 (NV P G) l l') : ∀ {fr : List (Str × V)} {m : Str -> Option Value}, RF P G fr m -> RF P G ((l.filter fun p => kd p.1 == some .local).reverse ++ fr) (bindL kd l' m) := by
 induction h with
 | nil => intro fr m h; exact h
 | @cons a b as bs h _ ih =>
  intro fr m hf
  obtain ⟨x, v⟩ := a
  obtain ⟨y, u⟩ := b
  obtain ⟨e, hv⟩ := h
  dsimp only at e hv
  subst e
  unfold bindL
  rw [List.filter_cons]
  by_cases hk : kd x = some .local
  · rw [hk]
    simp only [beq_self_eq_true, if_true]
    rw [List.reverse_cons, List.append_assoc]
    refine ih fun z w' e => ?_
    have e : List.lookup z ((x, v) :: fr) = some w' := e
    by_cases q : z = x
    · subst q; rw [List.lookup_cons_self] at e; cases e; exact ⟨u, if_pos rfl, hv⟩
    · rw [List.lookup_cons, nB q] at e; rw [if_neg (show ¬ z = x from q)]; exact hf z w' e
  · have : (kd x == some .local) = false := nB hk
    simp only [this, Bool.false_eq_true, if_false, hk]
    exact ih hf
theorem Aa {P : Params} {kd : Str -> Option NameKind} {l : List (Str × V)} {l' : List (Str × Value)} (h : d9 (NV P G) l l') (hk0 : ∀ a ∈ l, kd a.1 = some .local ∨ kd a.1 = some .cell) : ∀ {fr : List (Str × V)} {m : Str -> Option Value}, RF P G fr m -> RF P G ((l.filter fun p => kd p.1 == some .cell).reverse ++ fr) (bindC kd l' m) := by
 induction h with
 | nil => intro fr m h; exact h
 | @cons a b as bs h _ ih =>
  intro fr m hf
  have ih := @ih fun a ha => hk0 a (.tail _ ha)
  have hk1 := hk0 a (.head _)
  obtain ⟨x, v⟩ := a
  obtain ⟨y, u⟩ := b
  obtain ⟨e, hv⟩ := h
  dsimp only at e hv
  subst e
  unfold bindC
  rw [List.filter_cons]
  by_cases hk : kd x = some .cell
  · rw [hk]
    simp only [beq_self_eq_true, if_true]
    rw [List.reverse_cons, List.append_assoc]
    refine ih fun z w' e => ?_
    have e : List.lookup z ((x, v) :: fr) = some w' := e
    rw [if_neg (by decide)]
    by_cases q : z = x
    · subst q; rw [List.lookup_cons_self] at e; cases e; exact ⟨u, if_pos rfl, hv⟩
    · rw [List.lookup_cons, nB q] at e; rw [if_neg (show ¬ z = x from q)]; exact hf z w' e
  · have : (kd x == some .cell) = false := nB hk
    simp only [this, Bool.false_eq_true, if_false]
    by_cases hl : kd x = some .local
    · rw [if_pos hl]; exact ih hf
    · exact absurd hk1 (fun q => q.elim hl hk)
theorem cy {β : Type} : ∀ {l : List (Str × β)} {a : Str} {b : β}, l.lookup a = some b -> (a, b) ∈ l
 | [], a, b, h => by cases h
 | (x, y) :: r, a, b, h => by
  by_cases e : a = x
  · subst e; rw [List.lookup_cons_self] at h; cases h; exact .head _
  · rw [List.lookup_cons, nB e] at h; exact .tail _ (cy h)
theorem Cc.ofC {k : Nat} {f : Addr} {name qual : Str} {par : Arguments} {body : List Stmt} {sc : Scope} {dV kV doc pm cdv ct : Value} {fn : Fn} {vs : List V} {v : V} {H H' : List O}
 (ho : (K w.params).lookup f = some ⟨.type "function", none, .func (fnOf name qual par body sc dV kV doc pm none cdv ct), #[]⟩) (hfn : fn.body = body ∧ fn.sc = sc)
 (hcd : codeIn (K w.params) cdv qual = true) (hsc : (sc.isCoroutine, sc.isGenerator, sc.kind) = (false, false, .function))
 (hbind : ∀ us : List Value, us.length = vs.length -> bindArgs (fnOf name qual par body sc dV kV doc pm none cdv ct) ⟨us, []⟩ = pure (List.zip fn.xs us))
 (hloc : (fn.xs.all fun x => sc.names.lookup x == some .local || sc.names.lookup x == some .cell) = true) (hxs : fn.xs.length = vs.length) (hnd : ((cellsFrom 0 sc.names []).map (·.1)).Nodup)
 (hb : ∀ X : Cf, Rm X (k + 1) -> ∀ g L', ∃ fr' fl, Ex w (X.innerC qual sc f cdv g L' (fn.cfOf vs)) ⟨fn.frOf vs, H⟩ body fl ⟨fr', H'⟩ ∧ (fl = .ret v ∨ fl = .next ∧ v = .none)) : Cc w (k + 1) (.ref f) H vs v H' := fun X fr G s us hd h hus R hq => by
 obtain ⟨m, obs, C, h1, h2, h3, hf, hc⟩ := id h
 obtain ⟨sc1, sc2, sc3⟩ : _ ∧ _ ∧ _ := by simpa only [Prod.mk.injEq] using hsc
 have hz := Ag (P := w.params) (G := G) (xs := fn.xs) hus
 refine Gm (K := K w.params) C.B C.F C.X C.N C.T rfl rfl C.k ho hcd (by have := hd.1; show X.dp < 1000; lia) (BindsTo.of_eq (hbind us hus.len.symm)) ?_ hnd (fun g L' b6 tk cells FG F' N' Y B' X' T' hlt => ?_) sc1 sc2 sc3
 · refine List.all_eq_true.mpr fun p hp => List.all_eq_true.mp hloc p.1 (List.of_mem_zip hp).1
 · obtain ⟨fr', fl, hb', hfv⟩ := hb X hd g L'
   obtain ⟨y1, y2⟩ := ak Y
   have big : ∀ p ∈ cells, L' < p.1 := fun p hp => by
    obtain ⟨n, hn⟩ := y1 p hp
    exact jl (lo := L' + 1) (Nat.le_refl _) (fun p hp => by cases hp) _ hn
   let G2 : Gam := ⟨cells ++ G.κ, G.ρ, G.θ⟩
   have l2 : Le G G2 := ⟨fun p hp => aR hp, ⟨[], (List.append_nil _).symm⟩, rfl⟩
   have old : ∀ p ∈ List.zip G.ρ obs ++ (G.κ ++ G.θ), p.1 < L' := hlt
   have k2 : Ok w (X.innerC qual sc f cdv g L' (fn.cfOf vs)) G2 ⟨fn.frOf vs, H⟩ { s with heap := b6, toks := tk } := by
    refine ⟨_, obs, ⟨B', F', X', fun p hp => N' p ?_, T', sc3⟩, h1, ⟨h2.nd, fun p hp hm => ?_, h2.tr, fun p hp q hq => ?_⟩, h3.imp fun _ _ h => h.mono l2, ?_, fun x v e => ?_⟩
    · rcases aM hp with q | q
      · exact aR (aL q)
      · rcases aM q with q | q
        · rcases aM q with q | q
          · exact aL q
          · exact aR (aR (aL q))
        · exact aR (aR (aR q))
    · rcases aM hp with q | q
      · obtain ⟨o, ho⟩ := C5 h1 hm
        exact absurd (old _ (aL ho)) (Nat.not_lt.mpr (Nat.le_of_lt (big p q)))
      · exact h2.kr p q hm
    · rcases aM hp with z | z
      · exact fun e => absurd (old _ (aR (aR hq))) (Nat.not_lt.mpr (Nat.le_of_lt (e ▸ big p z)))
      · exact h2.kt p z q hq
    · have z := zZ (kd := (envOfC qual sc L' f cdv).kindOf) hz (fr := []) (m := fun _ => none) (fun x v e => by cases e)
      rw [List.append_nil] at z
      have z2 := z.mono l2
      unfold Fn.frOf
      rw [hfn.2]
      exact z2
    · have z := Aa (kd := (envOfC qual sc L' f cdv).kindOf) hz (fun a ha => by
       have q := List.all_eq_true.mp hloc a.1 (List.of_mem_zip (show (a.1, a.2) ∈ _ from ha)).1
       rw [Bool.or_eq_true] at q
       exact q.imp eq_of_beq eq_of_beq) (fr := []) (m := fun _ => none) (fun x v e => by cases e)
      rw [List.append_nil] at z
      have z2 := z.mono l2
      have e : (fn.cfOf vs).lookup x = some v := e
      unfold Fn.cfOf at e
      rw [hfn.2] at e
      obtain ⟨u, hu, hr⟩ := z2 x v e
      rw [← List.filter_reverse] at e
      obtain ⟨-, e2⟩ := p5 (pr := fun y => sc.names.lookup y == some .cell) e
      have e3 := cellsFrom_some (x := x) sc.names (L' + 1) [] (.inl (eq_of_beq e2))
      obtain ⟨c, hc⟩ := Option.isSome_iff_exists.mp e3
      obtain ⟨o, ho1, ho2⟩ := y2 (x, c) (cy hc)
      exact ⟨c, o, u, hc, aL ho1, by rw [ho2, hu], hr⟩
   refine hb' G2 _ k2 _ _ fun b8 fl' a7 c0 k₁ hfl b9 => ?_
   obtain ⟨m', obs', JI, h1', h2', h3', hf', hc'⟩ := id k₁
   refine leaveK_ JI.F JI.N fun kF kN => ?_
   have ll := l2.trans c0
   have hQ : ∀ u, RV w.params b8 v u -> R (.ok (.ret u)) a7 := fun u hu => hq b8 u a7 ll ⟨m, obs', ⟨C.B, kF, C.X, kN, C.T, C.k⟩, h1', h2', h3', hf.mono ll, hc.mono ll⟩ hu b9
   rcases hfv with rfl | ⟨rfl, rfl⟩
   · obtain ⟨u, rfl, hu⟩ := hfl; exact hQ u hu
   · cases hfl; exact hQ _ rfl
end
section
noncomputable def zm : List (Str × Addr) := [(("put_whole" : Str), 69), (("varint_size" : Str), 76), (("put_varint" : Str), 83), (("gaps_of" : Str), 90), (("fitting" : Str), 97), (("put_ids" : Str), 105), (("long_first" : Str), 112), (("long_head" : Str), 119), (("number_size" : Str), 126), (("cut_number" : Str), 133), (("padded_payload" : Str), 140), (("short_head" : Str), 147), (("head_of" : Str), 154), (("number_in" : Str), 161), (("packet_size" : Str), 168), (("packet_with" : Str), 175), (("head_octets" : Str), 182), (("is_eliciting" : Str), 190), (("any_eliciting" : Str), 195), (("put_numbers" : Str), 201), (("ack_numbers" : Str), 215), (("put_ack" : Str), 222), (("put_frame" : Str), 257), (("frame_size" : Str), 264), (("crypto_room" : Str), 271), (("filled" : Str), 307), (("earliest" : Str), 314), (("ack_due" : Str), 321), (("ids_of" : Str), 328), (("places_of" : Str), 333), (("head_room" : Str), 340), (("ack_time" : Str), 347), (("wants_ack" : Str), 354), (("datagram_size" : Str), 361), (("has_ack_room" : Str), 368), (("next_ack_time" : Str), 373), (("cut_ack" : Str), 380), (("crypto_frames" : Str), 387), (("path_frames" : Str), 394), (("path_room" : Str), 399), (("app_frames" : Str), 404), (("may_carry" : Str), 411), (("may_try" : Str), 418), (("frames_beside" : Str), 423), (("frames_for" : Str), 430), (("initial_window" : Str), 514), (("add_number" : Str), 815), (("add_range" : Str), 822), (("ack_of" : Str), 829), (("kept_ranges" : Str), 987), (("_law_take" : Str), 994), (("_law_state" : Str), 999), (("_law_octets" : Str), 1006), (("_law_size" : Str), 1011), (("_law_cut" : Str), 1016), (("_law_fill" : Str), 1023), (("CryptoOut" : Str), 503), (("NewReno" : Str), 601), (("Path" : Str), 685), (("Paths" : Str), 804), (("Space" : Str), 976)]
noncomputable def GF : List (Str × Int) := [(("MOST_OCTETS" : Str), 4), (("TAG_SIZE" : Str), 16), (("LEAST_PAYLOAD" : Str), 4), (("ACK" : Str), 2), (("ACK_ECN" : Str), 3), (("LEAST_ROOM" : Str), 4), (("GREATEST_DELAY" : Str), 4611686018427387903), (("PATH_FRAME_SIZE" : Str), 9), (("INITIAL_PACKETS" : Str), 10), (("INITIAL_OCTETS" : Str), 14720), (("LEAST_PACKETS" : Str), 2), (("TIMES_RECEIVED" : Str), 3), (("KEPT_RANGES" : Str), 64), (("MOST_RANGES" : Str), 32), (("ACK_EACH" : Str), 2), (("CRYPTO" : Str), 6)]
noncomputable def GE : List (Str × Str) := [(("PATH_UNPROVEN" : Str), ("unproven" : Str)), (("PATH_TRYING" : Str), ("trying" : Str)), (("PATH_PROVEN" : Str), ("proven" : Str))]
noncomputable def GJ : List (Str × Value) := [(("len" : Str), .builtin "len"), (("max" : Str), .builtin "max"), (("min" : Str), .builtin "min"), (("abs" : Str), .builtin "abs"), (("sum" : Str), .builtin "sum"), (("range" : Str), .type "range"), (("list" : Str), .type "list"), (("tuple" : Str), .type "tuple"), (("dict" : Str), .type "dict"), (("bytes" : Str), .type "bytes"), (("bytearray" : Str), .type "bytearray")]
noncomputable def pd : List (Str × V) := [(("VARINT_SIZES" : Str), .tup [.int 1, .int 2, .int 4, .int 8]), (("ECN_PLACES" : Str), .tup [.none, .int 1, .int 0, .int 2]), (("LONG_KINDS" : Str), .lst [.str "initial", .str "zero", .str "handshake", .str "retry"]), (("NOT_ELICITING" : Str), .tup [.str "ack", .str "padding", .str "close"]), (("NUMBER_FRAMES" : Str), .dct ["ping", "reset_stream", "stop_sending", "max_data", "max_stream_data", "data_blocked", "stream_data_blocked", "retire_connection_id", "handshake_done"] [.int 1, .int 4, .int 5, .int 16, .int 17, .int 20, .int 21, .int 25, .int 30])]
def iN (x : Str) : Option V := match zm.lookup x with
 | some a => some (.val (.ref a))
 | none => match GF.lookup x with
  | some n => some (.int n)
  | none => match GE.lookup x with
   | some t => some (.str t)
   | none => pd.lookup x
def fnT : List (Addr × Fn) := [(69, ⟨["n", "size"], zX.1, pU.1⟩), (76, ⟨["n"], zW.1, pT.1⟩), (83, ⟨["n", "size"], zV.1, pS.1⟩), (90, ⟨["ranges"], J2.1, fH.1⟩), (97, ⟨["delay", "ranges", "room"], y5.1, fG.1⟩), (105, ⟨["dcid", "scid"], kR.1, gX.1⟩), (112, ⟨["kind", "low_bits"], kQ.1, gW.1⟩), (119, ⟨["kind", "version", "dcid", "scid", "token", "rest_size", "number_size"], kP.1, gV.1⟩), (126, ⟨["full", "largest_acked"], kO.1, gU.1⟩), (133, ⟨["full", "largest_acked"], kL.1, gT.1⟩), (140, ⟨["payload", "number_size"], kK.1, gS.1⟩), (147, ⟨["spin", "key_phase", "dcid", "number_size"], kJ.1, gR.1⟩), (154, ⟨["packet", "number_size", "payload"], kI.1, gQ.1⟩), (161, ⟨["packet"], kH.1, gP.1⟩), (168, ⟨["packet", "largest_acked"], kG.1, gO.1⟩), (175, ⟨["ids", "space", "number", "payload"], kD.1, gN.1⟩), (182, ⟨["ids", "places", "space"], kA.1, gM.1⟩), (190, ⟨["f"], kz.1, gL.1⟩), (195, ⟨["row"], ky.1, gK.1⟩), (201, ⟨["numbers"], x8.1, Y5.1⟩), (215, ⟨["ranges"], v6.1, Y4.1⟩), (222, ⟨["f"], kx.1, gJ.1⟩), (257, ⟨["f"], ku.1, gI.1⟩), (264, ⟨["f"], kq.1, gH.1⟩), (271, ⟨["offset", "most"], kp.1, gG.1⟩), (307, ⟨["frames", "room"], ko.1, gF.1⟩), (314, ⟨["some"], kn.1, gE.1⟩), (321, ⟨["first_unacked", "most_delay", "wants_now"], km.1, gD.1⟩), (328, ⟨["conn"], kl.1, gC.1⟩), (333, ⟨["conn"], kk.1, gB.1⟩), (340, ⟨["conn", "space"], kj.1, gA.1⟩), (347, ⟨["conn", "space"], ki.1, gz.1⟩), (354, ⟨["conn", "space", "now"], kg.1, gy.1⟩), (361, ⟨["conn"], ke.1, gx.1⟩), (368, ⟨["conn", "space"], kc.1, gw.1⟩), (373, ⟨["conn"], kb.1, gu.1⟩), (380, ⟨["ack", "room"], ka.1, gr.1⟩), (387, ⟨["out", "room"], jZ.1, gq.1⟩), (394, ⟨["conn", "room", "now"], jY.1, gp.1⟩), (399, ⟨["conn", "room"], jX.1, gm.1⟩), (404, ⟨["conn", "room", "now"], jW.1, gk.1⟩), (411, ⟨["conn", "space", "room", "size"], jV.1, gj.1⟩), (418, ⟨["conn", "space"], jU.1, gi.1⟩), (423, ⟨["conn", "space", "room", "size", "now"], jT.1, gh.1⟩), (430, ⟨["conn", "space", "room", "size", "now"], jS.1, gg.1⟩), (465, ⟨["self"], jR.1, ga.1⟩), (514, ⟨["datagram"], jQ.1, fZ.1⟩), (528, ⟨["self", "datagram"], jP.1, fY.1⟩), (535, ⟨["self", "size"], jO.1, fX.1⟩), (619, ⟨["self", "address", "is_proven"], jN.1, fW.1⟩), (633, ⟨["self"], jM.1, fV.1⟩), (647, ⟨["self", "size"], jL.1, fU.1⟩), (703, ⟨["self", "role", "address", "is_proven", "may_move"], jK.1, fS.1⟩), (710, ⟨["self", "address"], jJ.1, fR.1⟩), (717, ⟨["self", "address"], jI.1, fQ.1⟩), (724, ⟨["self", "address", "size"], jH.1, fP.1⟩), (759, ⟨["self"], jG.1, fO.1⟩), (815, ⟨["ranges", "n"], jF.1, fN.1⟩), (822, ⟨["ranges", "low", "high"], z9.1, Y3.1⟩), (829, ⟨["ranges", "most"], jE.1, fL.1⟩), (849, ⟨["self", "name"], jD.1, fK.1⟩), (863, ⟨["self", "number", "now", "has_eliciting", "mark"], l7.1, Y2.1⟩), (870, ⟨["self", "now", "exponent"], jC.1, fJ.1⟩), (987, ⟨["ranges"], jB.1, fF.1⟩), (994, ⟨["box", "many"], q6.1, cg.1⟩), (999, ⟨["datagram", "came"], p9.1, K1.1⟩), (1006, ⟨["number"], bG.1, aX.1⟩), (1011, ⟨["ranges", "delay", "marks"], u6.1, K4.1⟩), (1016, ⟨["ranges", "delay", "marks", "room"], x7.1, K3.1⟩), (1023, ⟨["box", "place"], q0.1, K2.1⟩)]
noncomputable def GC : List (Addr × List Str) := [(503, [("acked" : Str), ("data" : Str), ("due" : Str)]), (601, [("credit" : Str), ("datagram" : Str), ("in_flight" : Str), ("recovery_at" : Str), ("threshold" : Str), ("window" : Str)]), (685, [("address" : Str), ("challenges" : Str), ("deadline" : Str), ("is_free" : Str), ("received" : Str), ("sent" : Str), ("state" : Str), ("wants_more" : Str)]), (804, [("active" : Str), ("answers" : Str), ("highest" : Str), ("known" : Str), ("last_proven" : Str), ("may_move" : Str), ("role" : Str)]), (976, [("acked" : Str), ("config" : Str), ("control" : Str), ("control_frames" : Str), ("crypto_out" : Str), ("ecn" : Str), ("first_unacked" : Str), ("floor" : Str), ("has_new" : Str), ("is_complete" : Str), ("is_gone" : Str), ("largest_acked" : Str), ("largest_seen" : Str), ("largest_time" : Str), ("last_eliciting_time" : Str), ("loss_time" : Str), ("name" : Str), ("next_data" : Str), ("next_number" : Str), ("owed" : Str), ("own_cid" : Str), ("params" : Str), ("paths" : Str), ("present" : Str), ("probes" : Str), ("received" : Str), ("remote" : Str), ("sent" : Str), ("shake" : Str), ("spaces" : Str), ("streams" : Str), ("unacked" : Str), ("wants_now" : Str), ("way" : Str)])]
noncomputable def AE : List (Addr × List Str) := [(503, [("acked" : Str), ("data" : Str), ("due" : Str)]), (601, [("credit" : Str), ("datagram" : Str), ("in_flight" : Str), ("recovery_at" : Str), ("threshold" : Str), ("window" : Str)]), (685, [("address" : Str), ("challenges" : Str), ("deadline" : Str), ("is_free" : Str), ("received" : Str), ("sent" : Str), ("state" : Str), ("wants_more" : Str)]), (804, [("active" : Str), ("answers" : Str), ("highest" : Str), ("known" : Str), ("last_proven" : Str), ("may_move" : Str), ("role" : Str)]), (976, [("acked" : Str), ("config" : Str), ("control" : Str), ("control_frames" : Str), ("crypto_out" : Str), ("ecn" : Str), ("first_unacked" : Str), ("floor" : Str), ("has_new" : Str), ("is_complete" : Str), ("is_gone" : Str), ("largest_acked" : Str), ("largest_seen" : Str), ("largest_time" : Str), ("last_eliciting_time" : Str), ("loss_time" : Str), ("name" : Str), ("next_data" : Str), ("next_number" : Str), ("owed" : Str), ("own_cid" : Str), ("params" : Str), ("paths" : Str), ("present" : Str), ("probes" : Str), ("received" : Str), ("remote" : Str), ("sent" : Str), ("shake" : Str), ("spaces" : Str), ("streams" : Str), ("unacked" : Str), ("wants_now" : Str), ("way" : Str)])]
noncomputable def yH : List ((Addr × Str) × Addr) := [((601, "may_send"), 535), ((685, "room"), 633), ((685, "on_received"), 647), ((804, "path_of"), 710), ((804, "opened"), 717), ((804, "on_datagram"), 724), ((804, "wants_challenge"), 759), ((976, "on_received"), 863), ((976, "ack_frame"), 870)]
noncomputable def Jp : List (Addr × Addr) := [(503, 465), (601, 528), (685, 619), (804, 703), (976, 849)]
noncomputable def muT : List (Nat × Nat) := [(43, 21), (155, 33), (584, 20), (623, 19), (735, 103), (749, 10), (758, 58)]
def ix (a : Addr) : Bool := (zm.map (·.2)).contains a || (yH.map (·.2)).contains a
noncomputable def po : List Str := [("control_frames" : Str), ("next_data" : Str), ("present" : Str)]
def mkT (spec : Addr -> List O -> List V -> Option (V × List O × List Prop)) : Tb where
 glob := iN
 bi x := GJ.lookup x
 keep := ix
 fn a := fnT.lookup a
 spec := spec
 get C x := match GC.lookup C with | some xs => xs.contains x | none => false
 set C x := match AE.lookup C with | some xs => xs.contains x | none => false
 met C x := yH.lookup (C, x)
 cls C := Jp.lookup C
 mu l c := muT.contains (l, c)
 bare C x := Nat.beq C 976 && po.contains x
def zj (P : Params) (C : Addr) (x : Str) : Bool := plainGet (K P) C x && hasDictIn (K P) C && (match findIn (K P) (.ref C) x with | some attr => noGet (K P) attr | none => false)
theorem ng {P : Params} {C : Addr} {x : Str} (h : zj P C x = true) : H4 P C x := by
 unfold zj at h
 obtain ⟨h, h3⟩ := i0 h
 obtain ⟨h1, h2⟩ := i0 h
 split at h3
 · rename_i attr e; exact ⟨attr, h1, h2, e, h3⟩
 · cases h3
def pR (P : Params) (C : Addr) (x : Str) : Bool := findIn (K P) (.ref C) "__setattr__" == some (some (.builtin "object.__setattr__")) && plainOver (K P) C && takerIn (K P) C x == some none && hasDictIn (K P) C
theorem mh {P : Params} {C : Addr} {x : Str} (h : pR P C x = true) : X9 P C x := by
 unfold pR at h
 obtain ⟨h, h4⟩ := i0 h
 obtain ⟨h, h3⟩ := i0 h
 obtain ⟨h1, h2⟩ := i0 h
 exact ⟨beq_iff_eq.mp h1, h2, beq_iff_eq.mp h3, h4⟩
def yI (P : Params) (C : Addr) (x : Str) (f : Addr) : Bool := plainGet (K P) C x && findIn (K P) (.ref C) x == some (some (.ref f)) && isFn (K P) (.ref f) && keepIn (K P) (.ref f)
theorem mE {P : Params} {C : Addr} {x : Str} {f : Addr} (h : yI P C x f = true) : cu P C x f := by
 unfold yI at h
 obtain ⟨h, h4⟩ := i0 h
 obtain ⟨h, h3⟩ := i0 h
 obtain ⟨h1, h2⟩ := i0 h
 exact ⟨h1, beq_iff_eq.mp h2, h3, h4⟩
def zM (P : Params) (C f : Addr) : Bool := makesIn (K P) C && findIn (K P) (.ref C) "__init__" == some (some (.ref f)) && isFn (K P) (.ref f)
theorem nH {P : Params} {C f : Addr} (h : zM P C f = true) : jk P C f := by
 unfold zM at h
 obtain ⟨h, h3⟩ := i0 h
 obtain ⟨h1, h2⟩ := i0 h
 exact ⟨h1, beq_iff_eq.mp h2, h3⟩
theorem nf (P : Params) : (GC.all fun p => p.2.all fun x => zj P p.1 x) = true := by kernel_rfl
theorem mf (P : Params) : (AE.all fun p => p.2.all fun x => pR P p.1 x) = true := by kernel_rfl
theorem cr (P : Params) : (yH.all fun p => yI P p.1.1 p.1.2 p.2) = true := by kernel_rfl
theorem nG (P : Params) : (Jp.all fun p => zM P p.1 p.2) = true := by kernel_rfl
theorem lb (P : Params) : (po.all fun x => findIn (K P) (.ref 976) x == some none) = true := by kernel_rfl
theorem db (P : Params) : (zm.all fun p => nsIn (K P) mainGlobals p.1 == some (some (.ref p.2)) && keepIn (K P) (.ref p.2)) = true := by kernel_rfl
noncomputable def oZ (n : Int) : Value -> Bool
 | .int k _ => k == n
 | _ => false
noncomputable def oY (n : Str) : Value -> Bool
 | .str k _ => k == n
 | _ => false
theorem mA (P : Params) : (GF.all fun p => match nsIn (K P) mainGlobals p.1 with | some (some v) => oZ p.2 v | _ => false) = true := by kernel_rfl
theorem lP (P : Params) : (GE.all fun p => match nsIn (K P) mainGlobals p.1 with | some (some v) => oY p.2 v | _ => false) = true := by kernel_rfl
theorem nQ (P : Params) : (GJ.all fun p => nsIn (K P) mainGlobals p.1 == some none && bootBuiltins p.1 == some p.2 && p.1 != ("__name__" : Str)) = true := by kernel_rfl
theorem A8 {α β : Type} [BEq α] [LawfulBEq α] : ∀ {l : List (α × β)} {a : α} {b : β}, l.lookup a = some b -> (a, b) ∈ l
 | [], a, b, h => by cases h
 | (x, y) :: r, a, b, h => by
  by_cases e : a = x
  · subst e; rw [List.lookup_cons_self] at h; cases h; exact .head _
  · rw [List.lookup_cons, nB e] at h; exact .tail _ (A8 h)
theorem p4 {α : Type} {l : List α} {p : α -> Bool} (h : l.all p = true) {a : α} (ha : a ∈ l) : p a = true := List.all_eq_true.mp h a ha
theorem nc (P : Params) (x : Str) (v : V) (h : iN x = some v) : ∃ c, nsIn (K P) mainGlobals x = some (some c) ∧ ∀ G, RV P G v c := by
 unfold iN at h
 split at h
 · rename_i a e
   cases h
   have := p4 (db P) (A8 e)
   obtain ⟨h1, h2⟩ := i0 this
   exact ⟨_, beq_iff_eq.mp h1, fun G => rfl⟩
 · split at h
   · rename_i n e
     cases h
     have z := p4 (mA P) (A8 e)
     dsimp only at z
     split at z
     · rename_i u hu
       refine ⟨u, hu, fun G => ?_⟩
       unfold oZ at z
       split at z
       · rename_i k t; exact ⟨t, by rw [eq_of_beq z]⟩
       · cases z
     · cases z
   · split at h
     · rename_i n e
       cases h
       have z := p4 (lP P) (A8 e)
       dsimp only at z
       split at z
       · rename_i u hu
         refine ⟨u, hu, fun G => ?_⟩
         unfold oY at z
         split at z
         · rename_i k t; exact ⟨t, by rw [eq_of_beq z]⟩
         · cases z
       · cases z
     · have hm := A8 h
       unfold pd at hm
       simp only [List.mem_cons, List.not_mem_nil, or_false, Prod.mk.injEq] at hm
       rcases hm with ⟨rfl, rfl⟩ | ⟨rfl, rfl⟩ | ⟨rfl, rfl⟩ | ⟨rfl, rfl⟩ | ⟨rfl, rfl⟩
       · exact ⟨.ref 62, by kernel_rfl, fun G => ⟨62, [.int 1 262, .int 2 263, .int 4 264, .int 8 265], 0, rfl, .inr (by kernel_rfl), ⟨_, _, rfl, ⟨_, rfl⟩, _, _, rfl, ⟨_, rfl⟩, _, _, rfl, ⟨_, rfl⟩, _, _, rfl, ⟨_, rfl⟩, rfl⟩, by decide⟩⟩
       · exact ⟨.ref 835, by kernel_rfl, fun G => ⟨835, [.none, .int 1 1467, .int 0 1468, .int 2 1469], 0, rfl, .inr (by kernel_rfl), ⟨_, _, rfl, rfl, _, _, rfl, ⟨_, rfl⟩, _, _, rfl, ⟨_, rfl⟩, _, _, rfl, ⟨_, rfl⟩, rfl⟩, by decide⟩⟩
       · exact ⟨.ref 98, by kernel_rfl, fun G => ⟨98, [.str "initial" 327, .str "zero" 328, .str "handshake" 329, .str "retry" 330], 0, rfl, .inr (by kernel_rfl), ⟨_, _, rfl, ⟨_, rfl⟩, _, _, rfl, ⟨_, rfl⟩, _, _, rfl, ⟨_, rfl⟩, _, _, rfl, ⟨_, rfl⟩, rfl⟩, by decide⟩⟩
       · exact ⟨.ref 183, by kernel_rfl, fun G => ⟨183, [.str "ack" 468, .str "padding" 469, .str "close" 470], 0, rfl, .inr (by kernel_rfl), ⟨_, _, rfl, ⟨_, rfl⟩, _, _, rfl, ⟨_, rfl⟩, _, _, rfl, ⟨_, rfl⟩, rfl⟩, by decide⟩⟩
       · exact ⟨.ref 196, by kernel_rfl, fun G => ⟨196, [en P "ping" 539 (.int 1 485), en P "reset_stream" 540 (.int 4 491), en P "stop_sending" 541 (.int 5 493), en P "max_data" 542 (.int 16 501), en P "max_stream_data" 543 (.int 17 503), en P "data_blocked" 544 (.int 20 509), en P "stream_data_blocked" 545 (.int 21 511), en P "retire_connection_id" 546 (.int 25 519), en P "handshake_done" 547 (.int 30 529)], 9, rfl, .inr (by kernel_rfl), .cons ⟨_, _, rfl⟩ <| .cons ⟨_, _, rfl⟩ <| .cons ⟨_, _, rfl⟩ <| .cons ⟨_, _, rfl⟩ <| .cons ⟨_, _, rfl⟩ <| .cons ⟨_, _, rfl⟩ <| .cons ⟨_, _, rfl⟩ <| .cons ⟨_, _, rfl⟩ <| .cons ⟨_, _, rfl⟩ <| .nil, ⟨_, _, rfl, ⟨_, rfl⟩, _, _, rfl, ⟨_, rfl⟩, _, _, rfl, ⟨_, rfl⟩, _, _, rfl, ⟨_, rfl⟩, _, _, rfl, ⟨_, rfl⟩, _, _, rfl, ⟨_, rfl⟩, _, _, rfl, ⟨_, rfl⟩, _, _, rfl, ⟨_, rfl⟩, _, _, rfl, ⟨_, rfl⟩, rfl⟩, by decide +kernel, by decide +kernel⟩⟩
theorem bV {T : List (Addr × List Str)} {C : Addr} {x : Str} (h : (match T.lookup C with | some xs => xs.contains x | none => false) = true) : ∃ xs, (C, xs) ∈ T ∧ x ∈ xs := by
 split at h
 · rename_i xs e; exact ⟨xs, A8 e, List.contains_iff_mem.mp h⟩
 · cases h
def g8 (w : World) (a : Addr) (fn : Fn) : Prop := fn.sc.kind = .function ∧ ∃ qual cdv, ∀ k H vs v H', fn.xs.length = vs.length -> (∀ X, Rm X (k + 1) -> ∀ g L', ∃ fr' fl, Ex w (X.innerC qual fn.sc a cdv g L' (fn.cfOf vs)) ⟨fn.frOf vs, H⟩ fn.body fl ⟨fr', H'⟩ ∧ (fl = .ret v ∨ fl = .next ∧ v = .none)) -> Cc w (k + 1) (.ref a) H vs v H'
theorem le0 {P : List Value -> Prop} (h : P []) : ∀ us : List Value, us.length = 0 -> P us
 | [], _ => h
theorem leS {P : List Value -> Prop} {n : Nat} (k : ∀ a, ∀ r : List Value, r.length = n -> P (a :: r)) : ∀ us : List Value, us.length = n + 1 -> P us
 | a :: r, h => k a r (Nat.succ.inj h)
theorem fok {w : World} {f : Addr} {name qual : Str} {par : Arguments} {body : List Stmt} {sc : Scope} {dV kV doc pm cdv ct : Value} {xs : List Str}
 (ho : (K w.params).lookup f = some ⟨.type "function", none, .func (fnOf name qual par body sc dV kV doc pm none cdv ct), #[]⟩)
 (hcd : codeIn (K w.params) cdv qual = true := by kernel_rfl) (hsc : (sc.isCoroutine, sc.isGenerator, sc.kind) = (false, false, .function) := by kernel_rfl)
 (hbind : ∀ us : List Value, us.length = xs.length -> bindArgs (fnOf name qual par body sc dV kV doc pm none cdv ct) ⟨us, []⟩ = pure (List.zip xs us) := by repeat' (first | refine le0 (by kernel_rfl) | refine leS fun _ => ?_))
 (hloc : (xs.all fun x => sc.names.lookup x == some .local || sc.names.lookup x == some .cell) = true := by kernel_rfl) (hnd : ((cellsFrom 0 sc.names []).map (·.1)).Nodup := by decide +kernel) : g8 w f ⟨xs, body, sc⟩ :=
 ⟨(Prod.mk.inj (Prod.mk.inj hsc).2).2, _, _, fun k H vs v H' hl hb => Cc.ofC ho ⟨rfl, rfl⟩ hcd hsc (fun us h => hbind us (h.trans hl.symm)) hloc hl hnd hb⟩
theorem fo69 (w : World) : g8 w 69 ⟨["n", "size"], zX.1, pU.1⟩ := fok (fk69 _)
theorem fo76 (w : World) : g8 w 76 ⟨["n"], zW.1, pT.1⟩ := fok (fk76 _)
theorem fo83 (w : World) : g8 w 83 ⟨["n", "size"], zV.1, pS.1⟩ := fok (fk83 _)
theorem fo90 (w : World) : g8 w 90 ⟨["ranges"], J2.1, fH.1⟩ := fok (fk90 _)
theorem fo97 (w : World) : g8 w 97 ⟨["delay", "ranges", "room"], y5.1, fG.1⟩ := fok (fk97 _)
theorem HY (w : World) : g8 w 105 ⟨["dcid", "scid"], kR.1, gX.1⟩ := fok (Jl _)
theorem HX (w : World) : g8 w 112 ⟨["kind", "low_bits"], kQ.1, gW.1⟩ := fok (Jk _)
theorem HW (w : World) : g8 w 119 ⟨["kind", "version", "dcid", "scid", "token", "rest_size", "number_size"], kP.1, gV.1⟩ := fok (Jj _)
theorem HV (w : World) : g8 w 126 ⟨["full", "largest_acked"], kO.1, gU.1⟩ := fok (Ji _)
theorem HU (w : World) : g8 w 133 ⟨["full", "largest_acked"], kL.1, gT.1⟩ := fok (Jh _)
theorem HT (w : World) : g8 w 140 ⟨["payload", "number_size"], kK.1, gS.1⟩ := fok (Jg _)
theorem HR (w : World) : g8 w 147 ⟨["spin", "key_phase", "dcid", "number_size"], kJ.1, gR.1⟩ := fok (Jf _)
theorem HP (w : World) : g8 w 154 ⟨["packet", "number_size", "payload"], kI.1, gQ.1⟩ := fok (Je _)
theorem HO (w : World) : g8 w 161 ⟨["packet"], kH.1, gP.1⟩ := fok (Jd _)
theorem HN (w : World) : g8 w 168 ⟨["packet", "largest_acked"], kG.1, gO.1⟩ := fok (Jc _)
theorem HM (w : World) : g8 w 175 ⟨["ids", "space", "number", "payload"], kD.1, gN.1⟩ := fok (Jb _)
theorem HK (w : World) : g8 w 182 ⟨["ids", "places", "space"], kA.1, gM.1⟩ := fok (Ja _)
theorem HJ (w : World) : g8 w 190 ⟨["f"], kz.1, gL.1⟩ := fok (IZ _)
theorem HI (w : World) : g8 w 195 ⟨["row"], ky.1, gK.1⟩ := fok (IY _)
theorem HH (w : World) : g8 w 201 ⟨["numbers"], x8.1, Y5.1⟩ := fok (IX _)
theorem HG (w : World) : g8 w 215 ⟨["ranges"], v6.1, Y4.1⟩ := fok (IW _)
theorem HF (w : World) : g8 w 222 ⟨["f"], kx.1, gJ.1⟩ := fok (IV _)
theorem HE (w : World) : g8 w 257 ⟨["f"], ku.1, gI.1⟩ := fok (IU _)
theorem HD (w : World) : g8 w 264 ⟨["f"], kq.1, gH.1⟩ := fok (IT _)
theorem HC (w : World) : g8 w 271 ⟨["offset", "most"], kp.1, gG.1⟩ := fok (IS _)
theorem Hz (w : World) : g8 w 307 ⟨["frames", "room"], ko.1, gF.1⟩ := fok (IR _)
theorem Hy (w : World) : g8 w 314 ⟨["some"], kn.1, gE.1⟩ := fok (IQ _)
theorem Hx (w : World) : g8 w 321 ⟨["first_unacked", "most_delay", "wants_now"], km.1, gD.1⟩ := fok (IP _)
theorem Hw (w : World) : g8 w 328 ⟨["conn"], kl.1, gC.1⟩ := fok (IN _)
theorem Hv (w : World) : g8 w 333 ⟨["conn"], kk.1, gB.1⟩ := fok (IM _)
theorem Hu (w : World) : g8 w 340 ⟨["conn", "space"], kj.1, gA.1⟩ := fok (IL _)
theorem Ht (w : World) : g8 w 347 ⟨["conn", "space"], ki.1, gz.1⟩ := fok (IK _)
theorem Hs (w : World) : g8 w 354 ⟨["conn", "space", "now"], kg.1, gy.1⟩ := fok (IJ _)
theorem Hr (w : World) : g8 w 361 ⟨["conn"], ke.1, gx.1⟩ := fok (II _)
theorem Hq (w : World) : g8 w 368 ⟨["conn", "space"], kc.1, gw.1⟩ := fok (IH _)
theorem Hp (w : World) : g8 w 373 ⟨["conn"], kb.1, gu.1⟩ := fok (IG _)
theorem Ho (w : World) : g8 w 380 ⟨["ack", "room"], ka.1, gr.1⟩ := fok (IF _)
theorem Hn (w : World) : g8 w 387 ⟨["out", "room"], jZ.1, gq.1⟩ := fok (IE _)
theorem Hm (w : World) : g8 w 394 ⟨["conn", "room", "now"], jY.1, gp.1⟩ := fok (ID _)
theorem Hl (w : World) : g8 w 399 ⟨["conn", "room"], jX.1, gm.1⟩ := fok (IC _)
theorem Hk (w : World) : g8 w 404 ⟨["conn", "room", "now"], jW.1, gk.1⟩ := fok (IB _)
theorem Hj (w : World) : g8 w 411 ⟨["conn", "space", "room", "size"], jV.1, gj.1⟩ := fok (IA _)
theorem Hi (w : World) : g8 w 418 ⟨["conn", "space"], jU.1, gi.1⟩ := fok (Iz _)
theorem Hh (w : World) : g8 w 423 ⟨["conn", "space", "room", "size", "now"], jT.1, gh.1⟩ := fok (Iy _)
theorem Hg (w : World) : g8 w 430 ⟨["conn", "space", "room", "size", "now"], jS.1, gg.1⟩ := fok (Ix _)
theorem Hf (w : World) : g8 w 465 ⟨["self"], jR.1, ga.1⟩ := fok (Iw _)
theorem He (w : World) : g8 w 514 ⟨["datagram"], jQ.1, fZ.1⟩ := fok (Iu _)
theorem Hd (w : World) : g8 w 528 ⟨["self", "datagram"], jP.1, fY.1⟩ := fok (It _)
theorem Hc (w : World) : g8 w 535 ⟨["self", "size"], jO.1, fX.1⟩ := fok (Ir _)
theorem Hb (w : World) : g8 w 619 ⟨["self", "address", "is_proven"], jN.1, fW.1⟩ := fok (Iq _)
theorem Ha (w : World) : g8 w 633 ⟨["self"], jM.1, fV.1⟩ := fok (Ip _)
theorem GZ (w : World) : g8 w 647 ⟨["self", "size"], jL.1, fU.1⟩ := fok (Io _)
theorem GY (w : World) : g8 w 703 ⟨["self", "role", "address", "is_proven", "may_move"], jK.1, fS.1⟩ := fok (Im _)
theorem GX (w : World) : g8 w 710 ⟨["self", "address"], jJ.1, fR.1⟩ := fok (Il _)
theorem GW (w : World) : g8 w 717 ⟨["self", "address"], jI.1, fQ.1⟩ := fok (Ik _)
theorem GV (w : World) : g8 w 724 ⟨["self", "address", "size"], jH.1, fP.1⟩ := fok (Ij _)
theorem GU (w : World) : g8 w 759 ⟨["self"], jG.1, fO.1⟩ := fok (Ii _)
theorem GT (w : World) : g8 w 815 ⟨["ranges", "n"], jF.1, fN.1⟩ := fok (Ih _)
theorem GS (w : World) : g8 w 822 ⟨["ranges", "low", "high"], z9.1, Y3.1⟩ := fok (Ig _)
theorem GR (w : World) : g8 w 829 ⟨["ranges", "most"], jE.1, fL.1⟩ := fok (Ie _)
theorem GQ (w : World) : g8 w 849 ⟨["self", "name"], jD.1, fK.1⟩ := fok (Id _)
theorem GP (w : World) : g8 w 863 ⟨["self", "number", "now", "has_eliciting", "mark"], l7.1, Y2.1⟩ := fok (Ic _)
theorem GO (w : World) : g8 w 870 ⟨["self", "now", "exponent"], jC.1, fJ.1⟩ := fok (Ib _)
theorem GN (w : World) : g8 w 987 ⟨["ranges"], jB.1, fF.1⟩ := fok (Ia _)
theorem GM (w : World) : g8 w 994 ⟨["box", "many"], q6.1, cg.1⟩ := fok (HZ _)
theorem GL (w : World) : g8 w 999 ⟨["datagram", "came"], p9.1, K1.1⟩ := fok (pg _)
theorem zs (w : World) : g8 w 1006 ⟨["number"], bG.1, aX.1⟩ := fok (zy _)
theorem zr (w : World) : g8 w 1011 ⟨["ranges", "delay", "marks"], u6.1, K4.1⟩ := fok (zx _)
theorem zq (w : World) : g8 w 1016 ⟨["ranges", "delay", "marks", "room"], x7.1, K3.1⟩ := fok (zw _)
theorem zp (w : World) : g8 w 1023 ⟨["box", "place"], q0.1, K2.1⟩ := fok (zv _)
theorem amc {α : Type} {p : α -> Prop} {a : α} {l : List α} (h : p a) (k : ∀ x ∈ l, p x) : ∀ x ∈ a :: l, p x := List.forall_mem_cons.mpr ⟨h, k⟩
theorem zu (w : World) : ∀ p ∈ fnT, g8 w p.1 p.2 := by
 refine amc (fo69 w) (amc (fo76 w) (amc (fo83 w) (amc (fo90 w) (amc (fo97 w) (amc (HY w) (amc (HX w) (amc (HW w) (amc (HV w) (amc (HU w) (amc (HT w) (amc (HR w) (amc (HP w) (amc (HO w) (amc (HN w) (amc (HM w) (amc (HK w) (amc (HJ w) (amc (HI w) (amc (HH w) (amc (HG w) (amc (HF w) (amc (HE w) (amc (HD w) (amc (HC w) (amc (Hz w) (amc (Hy w) (amc (Hx w) (amc (Hw w) (amc (Hv w) (amc (Hu w) (amc (Ht w) (amc (Hs w) (amc (Hr w) (amc (Hq w) (amc (Hp w) (amc (Ho w) (amc (Hn w) (amc (Hm w) (amc (Hl w) (amc (Hk w) (amc (Hj w) (amc (Hi w) (amc (Hh w) (amc (Hg w) (amc (Hf w) (amc (He w) (amc (Hd w) (amc (Hc w) (amc (Hb w) (amc (Ha w) (amc (GZ w) (amc (GY w) (amc (GX w) (amc (GW w) (amc (GV w) (amc (GU w) (amc (GT w) (amc (GS w) (amc (GR w) (amc (GQ w) (amc (GP w) (amc (GO w) (amc (GN w) (amc (GM w) (amc (GL w) (amc (zs w) (amc (zr w) (amc (zq w) (amc (zp w) (fun _ h => nomatch h))))))))))))))))))))))))))))))))))))))))))))))))))))))))))))))))))))))
theorem L0 (w : World) (d : Nat) (spec : Addr -> List O -> List V -> Option (V × List O × List Prop)) (hs : ∀ a H vs v H' ps, spec a H vs = some (v, H', ps) -> (∀ p ∈ ps, p) -> Cc w (d + 1) (.ref a) H vs v H') : TOk w d (mkT spec) where
 glob := nc w.params
 bi x c h := by
  have z := p4 (nQ w.params) (A8 h)
  obtain ⟨z, z3⟩ := i0 z
  obtain ⟨z1, z2⟩ := i0 z
  exact ⟨beq_iff_eq.mp z1, beq_iff_eq.mp z2, by simpa using z3⟩
 keep a h := by
  have h : ix a = true := h
  unfold ix at h
  rcases Bool.or_eq_true_iff.mp h with h | h
  · obtain ⟨p, hp, rfl⟩ := List.mem_map.mp (List.contains_iff_mem.mp h)
    exact (i0 (p4 (db w.params) hp)).2
  · obtain ⟨p, hp, rfl⟩ := List.mem_map.mp (List.contains_iff_mem.mp h)
    exact (i0 (p4 (cr w.params) hp)).2
 fn a fn h := zu w _ (A8 h)
 spec := hs
 get C x h := by obtain ⟨xs, h1, h2⟩ := bV h; exact ng (p4 (p4 (nf w.params) h1) h2)
 set C x h := by obtain ⟨xs, h1, h2⟩ := bV h; exact mh (p4 (p4 (mf w.params) h1) h2)
 met C x f h := mE (p4 (cr w.params) (A8 h))
 cls C f h := nH (p4 (nG w.params) (A8 h))
 bare C x h := by
  obtain ⟨h1, h2⟩ := i0 h
  have h1 := Nat.eq_of_beq_eq_true h1
  subst h1
  exact beq_iff_eq.mp (p4 (lb w.params) (List.contains_iff_mem.mp h2))
end
mutual
noncomputable def l0 : V -> Bool
 | .ref _ => false
 | .tup xs => n7 xs
 | .lst xs => n7 xs
 | .dct _ xs => n7 xs
 | _ => true
noncomputable def n7 : List V -> Bool
 | [] => true
 | x :: xs => l0 x && n7 xs
end
structure Cut (G G' G'' : Gam) : Prop where
 l : Lk G G'
 k : ∀ p ∈ G'.κ, p ∈ G''.κ
 r : G''.ρ = G.ρ
theorem has.cut {P : Params} {G G' G'' : Gam} (c : Cut G G' G'') {a : Addr} {o : Obj} (h : has P G' a o) : has P G'' a o := h.elim (fun h => .inl (c.k _ h)) .inr
theorem bS.cut {P : Params} {G G' G'' : Gam} (c : Cut G G' G'') {k : Nat} {o : Obj} (h : bS P G' k o) : bS P G'' k o := by
 obtain ⟨pm, c', ct, oc, vs, t, h1, h2, h3⟩ := h; exact ⟨pm, c', ct, oc, vs, t, h1, h2.cut c, h3⟩
mutual
theorem RV.cut {P : Params} {G G' G'' : Gam} (c : Cut G G' G'') : ∀ {x : V} {v0 v : Value}, RV P G x v0 -> RV P G' x v -> RV P G'' x v
 | .ref k, _, v, g, h => by
  obtain ⟨a0, g1, g2⟩ := g
  obtain ⟨a, h1, h2⟩ := h
  exact ⟨a, by rw [c.r, g1]; have := c.l.at g1; rw [h1] at this; exact this.symm, h2⟩
 | .lam p, _, v, _, h => h.imp fun a => Exists.imp fun o => And.imp_right (And.imp (c.k _) (·.cut c))
 | .tup xs, _, v, g, h => by
  obtain ⟨_, _, _, _, _, g3, _⟩ := g
  exact h.imp fun a => Exists.imp fun us => Exists.imp fun n => And.imp_right (And.imp (·.cut c) (And.imp_left (RVs.cut c g3)))
 | .lst xs, _, v, g, h => by
  obtain ⟨_, _, _, _, _, g3, _⟩ := g
  exact h.imp fun a => Exists.imp fun us => Exists.imp fun n => And.imp_right (And.imp (·.cut c) (And.imp_left (RVs.cut c g3)))
 | .dct ks xs, _, v, g, h => by
  obtain ⟨_, _, _, _, _, _, g3, _⟩ := g
  exact h.imp fun a => Exists.imp fun us => Exists.imp fun n => And.imp_right (And.imp (·.cut c) (And.imp_right (And.imp_left (RVs.cut c g3))))
 | .rng x y z, _, v, _, h => h.imp fun a => Exists.imp fun t => Exists.imp fun t' => Exists.imp fun t'' => And.imp_right (·.cut c)
 | .none, _, v, _, h | .bool _, _, v, _, h | .int _, _, v, _, h | .str _, _, v, _, h | .byt _, _, v, _, h | .val _, _, v, _, h => h
theorem RVs.cut {P : Params} {G G' G'' : Gam} (c : Cut G G' G'') : ∀ {xs : List V} {us0 us : List Value}, RVs P G xs us0 -> RVs P G' xs us -> RVs P G'' xs us
 | [], _, us, _, h => h
 | x :: xs, _, us, g, h => by
  obtain ⟨_, _, _, g2, g3⟩ := g
  exact h.imp fun u => Exists.imp fun us' => And.imp_right (And.imp (RV.cut c g2) (RVs.cut c g3))
end
mutual
theorem RV.nr {P : Params} {G G' G'' : Gam} (c : Cut G G' G'') : ∀ {x : V} {v : Value}, l0 x = true -> RV P G' x v -> RV P G'' x v
 | .ref k, v, e, h => by cases e
 | .lam p, v, _, h => h.imp fun a => Exists.imp fun o => And.imp_right (And.imp (c.k _) (·.cut c))
 | .tup xs, v, e, h => h.imp fun a => Exists.imp fun us => Exists.imp fun n => And.imp_right (And.imp (·.cut c) (And.imp_left (RVs.nr c e)))
 | .lst xs, v, e, h => h.imp fun a => Exists.imp fun us => Exists.imp fun n => And.imp_right (And.imp (·.cut c) (And.imp_left (RVs.nr c e)))
 | .dct ks xs, v, e, h => h.imp fun a => Exists.imp fun us => Exists.imp fun n => And.imp_right (And.imp (·.cut c) (And.imp_right (And.imp_left (RVs.nr c e))))
 | .rng x y z, v, _, h => h.imp fun a => Exists.imp fun t => Exists.imp fun t' => Exists.imp fun t'' => And.imp_right (·.cut c)
 | .none, v, _, h | .bool _, v, _, h | .int _, v, _, h | .str _, v, _, h | .byt _, v, _, h | .val _, v, _, h => h
theorem RVs.nr {P : Params} {G G' G'' : Gam} (c : Cut G G' G'') : ∀ {xs : List V} {us : List Value}, n7 xs = true -> RVs P G' xs us -> RVs P G'' xs us
 | [], us, _, h => h
 | x :: xs, us, e, h => h.imp fun u => Exists.imp fun us' => And.imp_right (And.imp (RV.nr c (i0 e).1) (RVs.nr c (i0 e).2))
end
theorem d9.both {α β γ : Type} {R : α -> β -> Prop} {S T : α -> γ -> Prop} {as : List α} {bs : List β} {cs : List γ} (h : d9 R as bs) (k : d9 S as cs) (f : ∀ a b c, R a b -> S a c -> T a c) : d9 T as cs := by
 induction h generalizing cs with
 | nil => cases k; exact .nil
 | cons h _ ih => cases k with | cons k ks => exact .cons (f _ _ _ h k) (ih ks)
theorem RO.cut {P : Params} {G G' G'' : Gam} (c : Cut G G' G'') {x : O} {o0 o : Obj} (h0 : RO P G x o0) (h : RO P G' x o) : RO P G'' x o := by
 cases x with
 | list xs =>
  obtain ⟨us0, n0, -, g2, -⟩ := h0
  obtain ⟨us, n, h1, h2, h3⟩ := h
  exact ⟨us, n, h1, g2.both h2 fun _ _ _ a b => a.cut c b, h3⟩
 | inst cl d =>
  obtain ⟨a0, sl0, g1, -⟩ := h0
  obtain ⟨a, sl, h1, h2⟩ := h
  exact ⟨a, sl, by rw [c.r, g1]; have := c.l.at g1; rw [h1] at this; exact this.symm, h2⟩
 | dict es =>
  obtain ⟨us0, n0, -, g2⟩ := h0
  obtain ⟨us, n, h1, h2⟩ := h
  exact ⟨us, n, h1, g2.both h2 fun _ _ _ ⟨_, _, _, a⟩ ⟨k, u, e, b⟩ => ⟨k, u, e, a.cut c b⟩⟩
 | bya n => exact h
 | tab ks =>
  obtain ⟨_, _, _, _, g⟩ := h0
  obtain ⟨ps, h1, h2, h3, h4⟩ := h
  exact ⟨ps, h1, h2, h3, by rw [c.r]; exact g⟩
theorem RF.cut {P : Params} {G G' G'' : Gam} (c : Cut G G' G'') {fr : List (Str × V)} {m0 m : Str -> Option Value} (h0 : RF P G fr m0) (h : RF P G' fr m) : RF P G'' fr m := fun x v e => by
 obtain ⟨u0, -, g⟩ := h0 x v e
 obtain ⟨u, h1, h2⟩ := h x v e
 exact ⟨u, h1, g.cut c h2⟩
section
variable {w : World} {X : Cf} {G : Gam} {σ σ' σ'' l6 : St} {s : Shared}
theorem Ok.cut {fr : List (Str × V)} {H gar : List O} {s0 : Shared} {G' : Gam} {new : List (Addr × Obj)} (h0 : Ok w X G ⟨fr, H⟩ s0) (h : Ok w X G' ⟨fr, H ++ gar⟩ s) (l : Le G G')
 (hn : ∀ p ∈ new, (∃ i : Nat, G'.ρ[H.length + i]? = some p.1) ∧ s.heap.get? p.1 = some p.2) : Ok w X ⟨new ++ G'.κ, G.ρ, G'.θ⟩ ⟨fr, H⟩ s := by
 obtain ⟨m, obs, C, h1, h2, h3, hf, hc⟩ := h0
 obtain ⟨m', obs', C', h1', h2', h3', hf', hc'⟩ := h
 have c : Cut G G' ⟨new ++ G'.κ, G.ρ, G'.θ⟩ := ⟨l.lk, fun p hp => aR hp, rfl⟩
 obtain ⟨τ, hτ⟩ := l.r
 have hl : G.ρ.length = H.length := by rw [h1, h3.len]
 have hl' : obs'.length = H.length + gar.length := by rw [← h3'.len, List.length_append]
 have hsub : ∀ a, a ∈ G.ρ -> a ∈ G'.ρ := fun a ha => by rw [hτ]; exact aL ha
 have hz : ∀ p ∈ List.zip G.ρ (obs'.take H.length), p ∈ List.zip G'.ρ obs' := fun p hp => by
  obtain ⟨i, hi⟩ := List.mem_iff_getElem?.mp hp
  rw [List.getElem?_zip_eq_some] at hi
  refine List.mem_iff_getElem?.mpr ⟨i, ?_⟩
  rw [List.getElem?_zip_eq_some]
  refine ⟨l.at hi.1, ?_⟩
  have := hi.2
  rw [List.getElem?_take] at this
  split at this
  · exact this
  · cases this
 have hna : ∀ p ∈ new, p.1 ∈ G'.ρ ∧ p.1 ∉ G.ρ := fun p hp => by
  obtain ⟨⟨i, hi⟩, -⟩ := hn p hp
  refine ⟨List.mem_iff_getElem?.mpr ⟨_, hi⟩, fun hm => ?_⟩
  obtain ⟨j, hj⟩ := List.mem_iff_getElem?.mp hm
  have hj' := l.at hj
  have hlt : j < H.length := hl ▸ (List.getElem?_eq_some_iff.mp hj).1
  obtain ⟨q1, q2⟩ := List.getElem?_eq_some_iff.mp hj'
  obtain ⟨q3, q4⟩ := List.getElem?_eq_some_iff.mp hi
  exact List.pairwise_iff_getElem.mp h2'.nd j (H.length + i) q1 q3 (by lia) (q2.trans q4.symm)
 refine ⟨m', obs'.take H.length, ⟨C'.B, C'.F, C'.X, fun p hp => ?_, C'.T, C'.k⟩, by rw [hl, List.length_take]; lia, ⟨h2.nd, fun p hp => ?_, fun p hp hm => h2'.tr p hp (hsub _ hm), fun p hp q hq => ?_⟩, ?_, ?_, ?_⟩
 · rcases aM hp with q | q
   · exact C'.N p (aL (hz p q))
   · rcases aM q with q | q
     · rcases aM q with q | q
       · obtain ⟨hm, -⟩ := hna p q
         obtain ⟨j, hj⟩ := List.mem_iff_getElem?.mp hm
         have hjl : j < obs'.length := h1' ▸ (List.getElem?_eq_some_iff.mp hj).1
         have y := C'.N (p.1, obs'[j]) (aL (List.mem_iff_getElem?.mpr ⟨j, by rw [List.getElem?_zip_eq_some]; exact ⟨hj, List.getElem?_eq_getElem hjl⟩⟩))
         exact ⟨(hn p q).2, y.2⟩
       · exact C'.N p (aR (aL q))
     · exact C'.N p (aR (aR q))
 · rcases aM hp with q | q
   · exact (hna p q).2
   · exact fun hm => h2'.kr p q (hsub _ hm)
 · rcases aM hp with r | r
   · exact fun e => h2'.tr q hq (e ▸ (hna p r).1)
   · exact h2'.kt p r q hq
 · have := h3'.take H.length
   rw [List.take_left'] at this
   · exact h3.both this fun _ _ _ a b => a.cut c b
   · rfl
 · unfold Frm at hf hf' ⊢
   split
   · rename_i e; rw [e] at hf hf'; exact hf.cut c hf'
   · rename_i co e; rw [e] at hf hf'
     obtain ⟨-, -, w0, -, -, g⟩ := hf
     obtain ⟨y1, oC, ii, y2, y3, y4⟩ := hf'
     exact ⟨y1, oC, ii, y2, y3, g.cut c y4⟩
 · intro x v e
   obtain ⟨_, _, u0, -, -, -, g⟩ := hc x v e
   obtain ⟨cc, o, u, y1, y2, y3, y4⟩ := hc' x v e
   exact ⟨cc, o, u, y1, aR y2, y3, g.cut c y4⟩
theorem Cc.drop {k : Nat} {f : Value} {H gar : List O} {vs : List V} {v : V} (h : Cc w k f H vs v (H ++ gar)) (hv : l0 v = true) : Cc w k f H vs v H := fun X fr G s us hd ho hus R hq => by
 refine h X fr G s us hd ho hus R fun G' u s' l k hu e => ?_
 refine hq ⟨[] ++ G'.κ, G.ρ, G'.θ⟩ u s' ⟨fun p hp => aR (l.k p hp), ⟨[], (List.append_nil _).symm⟩, l.t⟩ (ho.cut (new := []) k l (fun p hp => by cases hp)) (RV.nr (show Cut G G' ⟨[] ++ G'.κ, G.ρ, G'.θ⟩ from ⟨l.lk, fun p hp => aR hp, rfl⟩) hv hu) e
theorem Cc.freeze {k i : Nat} {f : Value} {H gar : List O} {vs xs : List V} (h : Cc w k f H vs (.ref (H.length + i)) (H ++ gar)) (hg : gar[i]? = some (.list xs)) (hv : n7 xs = true) : Cc w k f H vs (.lst xs) H := fun X fr G s us hd ho hus R hq => by
 refine h X fr G s us hd ho hus R fun G' u s' l k hu e => ?_
 obtain ⟨a, ha, rfl⟩ := hu
 obtain ⟨a', ob, ha', hob, us', nn, rfl, hus', hz⟩ := k.at (l := H.length + i) (o := .list xs) (by show (H ++ gar)[H.length + i]? = _; rw [List.getElem?_append_right (Nat.le_add_right _ _), Nat.add_sub_cancel_left]; exact hg)
 obtain rfl : a = a' := by rw [ha] at ha'; exact Option.some.inj ha'
 have c : Cut G G' ⟨[(a, listOf us'.toArray nn)] ++ G'.κ, G.ρ, G'.θ⟩ := ⟨l.lk, fun p hp => aR hp, rfl⟩
 refine hq ⟨[(a, listOf us'.toArray nn)] ++ G'.κ, G.ρ, G'.θ⟩ _ s' ⟨fun p hp => aR (l.k p hp), ⟨[], (List.append_nil _).symm⟩, l.t⟩ (ho.cut k l (fun p hp => ?_)) ⟨a, us', nn, rfl, .inl (.head _), RVs.nr c hv hus'.rvs, hz⟩ e
 rw [nM hp]
 exact ⟨⟨i, ha⟩, hob⟩
noncomputable def dX (fr : List (Str × V)) (m : Str -> Option Value) : List (Str × V) := fr.map fun p => (p.1, .val ((m p.1).getD .none))
theorem H5 {fr : List (Str × V)} {m : Str -> Option Value} {x : Str} : (dX fr m).lookup x = (fr.lookup x).map fun _ => V.val ((m x).getD .none) := by
 induction fr with
 | nil => rfl
 | cons p fr ih =>
  obtain ⟨y, v⟩ := p
  unfold dX at ih ⊢
  rw [List.map_cons, List.lookup_cons, List.lookup_cons, ih]
  by_cases e : x = y
  · subst e; simp
  · rw [nB e]
theorem iX {P : Params} {G G1 : Gam} {fr : List (Str × V)} {m : Str -> Option Value} (h : RF P G fr m) : RF P G1 (dX fr m) m := fun x v e => by
 rw [H5] at e
 obtain ⟨v0, e0, rfl⟩ := mp e
 obtain ⟨u, h1, h2⟩ := h x v0 e0
 exact ⟨u, h1, by rw [h1]; rfl⟩
theorem de {P : Params} {G G1 : Gam} {fr : List (Str × V)} {m m' : Str -> Option Value} (h : RF P G fr m) (h' : RF P G1 (dX fr m) m') : RF P G fr m' := fun x v e => by
 obtain ⟨u, h1, h2⟩ := h x v e
 obtain ⟨u', g1, g2⟩ := h' x (.val ((m x).getD .none)) (by rw [H5, e]; rfl)
 refine ⟨u', g1, ?_⟩
 have : u' = (m x).getD .none := g2
 rw [this, h1]; exact h2
theorem Cc.any {k : Nat} {f : Value} {gar : List O} {vs : List V} {v : V} (h : Cc w k f [] vs v gar) (hv : l0 v = true) (hvs : n7 vs = true) (H : List O) : Cc w k f H vs v H := fun X fr G s us hd ho hus R hq => by
 obtain ⟨m, obs, C, h1, h2, h3, hf, hc⟩ := ho
 let X1 : Cf := { X with cf := [] }
 let G1 : Gam := ⟨G.κ, [], List.zip G.ρ obs ++ G.θ⟩
 have g1 : oy G1 := ⟨List.nodup_nil, fun p hp hm => (by cases hm), fun p hp hm => (by cases hm), fun p hp q hq => by
  rcases aM hq with r | r
  · exact fun e => h2.kr p hp (e ▸ (List.of_mem_zip r).1)
  · exact h2.kt p hp q r⟩
 have n1 : News X.h₀ X.L s.heap (List.zip ([] : List Addr) ([] : List Obj) ++ (G1.κ ++ G1.θ)) := fun p hp => by
  rcases aM hp with q | q
  · cases q
  · rcases aM q with q | q
    · exact C.N p (aR (aL q))
    · rcases aM q with q | q
      · exact C.N p (aL q)
      · exact C.N p (aR (aR q))
 have hus1 : d9 (RV w.params G1) vs us := (RVs.nr (show Cut ⟨[], [], []⟩ G G1 from ⟨⟨fun p hp => (by cases hp), ⟨G.ρ, rfl⟩⟩, fun p hp => hp, rfl⟩) hvs hus.rvs).all
 have zin : ∀ a ∈ G.ρ, ∃ o, (a, o) ∈ List.zip G.ρ obs := fun a ha => by
  obtain ⟨i, hi⟩ := List.mem_iff_getElem?.mp ha
  have hl : i < obs.length := h1 ▸ (List.getElem?_eq_some_iff.mp hi).1
  exact ⟨obs[i], List.mem_iff_getElem?.mpr ⟨i, by rw [List.getElem?_zip_eq_some]; exact ⟨hi, List.getElem?_eq_getElem hl⟩⟩⟩
 have go : ∀ fr1, Frm w.params X1 G1 fr1 m -> (∀ m' (G' : Gam), (∀ p ∈ G.κ, p ∈ G'.κ) -> G'.θ = G1.θ -> Frm w.params X1 G' fr1 m' -> Frm w.params X ⟨G'.κ, G.ρ, G.θ⟩ fr m') -> l5 (mdl w) (tp X) (.call f ⟨us, []⟩) R s := fun fr1 f1 f2 => by
  refine h X1 fr1 G1 s us hd ⟨m, [], ⟨C.B, C.F, C.X, n1, C.T, C.k⟩, rfl, g1, .nil, f1, fun x v e => by cases e⟩ hus1 R fun G' u s' l k hu e => ?_
  obtain ⟨m', obs', C', q1, q2, q3, qf, qc⟩ := k
  have hκ : ∀ p ∈ G.κ, p ∈ G'.κ := l.k
  have lG : Le G ⟨G'.κ, G.ρ, G.θ⟩ := ⟨hκ, ⟨[], (List.append_nil _).symm⟩, rfl⟩
  have hv1 : RV w.params ⟨G'.κ, [], G.θ⟩ v u := RV.nr (show Cut ⟨[], [], []⟩ G' ⟨G'.κ, [], G.θ⟩ from ⟨⟨fun p hp => (by cases hp), ⟨G'.ρ, rfl⟩⟩, fun p hp => hp, rfl⟩) hv hu
  have hv2 : RV w.params ⟨G'.κ, G.ρ, G.θ⟩ v u := hv1.mono2 (show Lk ⟨G'.κ, [], G.θ⟩ ⟨G'.κ, G.ρ, G.θ⟩ from ⟨fun _ h => h, ⟨G.ρ, rfl⟩⟩)
  have inT : ∀ p ∈ G1.θ, s'.heap.get? p.1 = some p.2 ∧ p.1 ≠ X.L ∧ X.h₀.get? p.1 = none := fun p hp => C'.N p (aR (aR (l.t ▸ hp)))
  refine hq ⟨G'.κ, G.ρ, G.θ⟩ u s' lG ⟨m', obs, ⟨C'.B, C'.F, C'.X, fun p hp => ?_, C'.T, C'.k⟩, h1, ⟨h2.nd, fun p hp hm => ?_, h2.tr, fun p hp q hq' => ?_⟩, h3.imp fun _ _ r => r.mono lG, f2 m' G' hκ l.t qf, hc.mono lG⟩ hv2 e
  · rcases aM hp with q | q
    · exact inT p (aL q)
    · rcases aM q with q | q
      · exact C'.N p (aR (aL q))
      · exact inT p (aR q)
  · obtain ⟨o, ho⟩ := zin p.1 hm
    exact q2.kt p hp (p.1, o) (l.t ▸ aL ho) rfl
  · exact q2.kt p hp q (l.t ▸ aR hq')
 unfold Frm at hf
 cases hco : X.co with
 | none =>
  rw [hco] at hf
  refine go (dX fr m) (by unfold Frm; rw [show X1.co = none from hco]; exact iX hf) fun m' G' hk ht q => ?_
  unfold Frm at q ⊢
  rw [show X1.co = none from hco] at q
  rw [hco]
  exact (de hf q).mono2 (show Lk G ⟨G'.κ, G.ρ, G.θ⟩ from ⟨hk, ⟨[], (List.append_nil _).symm⟩⟩)
 | some c =>
  rw [hco] at hf
  obtain ⟨y1, oC, w0, y2, y3, y4⟩ := hf
  refine go (dX fr w0) (by unfold Frm; rw [show X1.co = some c from hco]; exact ⟨y1, oC, w0, aR y2, y3, iX y4⟩) fun m' G' hk ht q => ?_
  unfold Frm at q ⊢
  rw [show X1.co = some c from hco] at q
  rw [hco]
  obtain ⟨z1, oC', ii, z2, z3, z4⟩ := q
  refine ⟨z1, oC', ii, ?_, z3, (de y4 z4).mono2 (show Lk G ⟨G'.κ, G.ρ, G.θ⟩ from ⟨hk, ⟨[], (List.append_nil _).symm⟩⟩)⟩
  rw [ht] at z2
  rcases aM z2 with r | r
  · exact absurd (List.of_mem_zip r).1 (h2.tr _ y2)
  · exact r
end
section
variable {w : World}
theorem e6 {d n : Nat} {T : Tb} (A : TOk w d T) (hn : n + d < 800) {a : Addr} {vs : List V} {v : V} {H H' : List O} {as as' : List (Nat × Nat × Bool)} {ob : List Prop} (h : (rn T n).fnc a vs ⟨[], H, as, []⟩ = some (v, ⟨[], H', as', ob⟩)) (ho : All ob) : Cc w (n + (d + 1)) (.ref a) H vs v H' :=
 ((snd A n hn).fnc a vs _ v _ h ho).2.2
abbrev Tz : Tb := mkT fun _ _ _ => none
theorem x_c {d n : Nat} {T : Tb} (A : TOk w d T) (hn : n + d < 800) {a : Addr} {vs : List V} {v : V} {H H' : List O} (h : (rn T n).fnc a vs ⟨[], H, [], []⟩ = some (v, ⟨[], H', [], []⟩)) : Cc w (n + (d + 1)) (.ref a) H vs v H' := e6 A hn h fun p q => nomatch q
theorem d7 {d : Nat} : TOk w d Tz := L0 w d _ fun _ _ _ _ _ _ h => by cases h
theorem All.nil : All [] := fun p hp => by cases hp
theorem All.mk {a : Prop} {b : List Prop} (ha : a) (hb : All b) : All (a :: b) := fun p hp => by
 rcases mC hp with rfl | hp
 · exact ha
 · exact hb p hp
def Oc (x : Int) : Prop := 0 ≤ x.fmod 256 ∧ x.fmod 256 < 256
theorem oc (x : Int) : Oc x := ⟨Int.fmod_nonneg_of_pos _ (by decide), Int.fmod_lt_of_pos _ (by decide)⟩
theorem cL {n : Int} {k : Nat} (h0 : 0 ≤ n) (h1 : n < 2 ^ k) : (!(n.fdiv (2 ^ k) == 0)) = false := by
 have : n.fdiv (2 ^ k) = 0 := by
  rw [Int.fdiv_eq_ediv_of_nonneg _ (Int.le_of_lt (Int.pow_pos (by decide)))]
  exact Int.ediv_eq_zero_of_lt h0 h1
 rw [this]; rfl
theorem pw1 {n : Int} {H : List O} (h0 : 0 ≤ n) (h1 : n < 2 ^ 8) : Cc w 31 (.ref 69) H [.int n, .int 1] (.byt 1) H :=
 (e6 (n := 30) (d7 (d := 0)) (by decide) (H := []) (H' := [.bya 1]) (as := [(21,7,false),(21,16,false)]) (as' := []) (ob := [Oc n, (!(n.fdiv (2 ^ 8) == 0)) = false, decide (n < 0) = false]) (by kernel_rfl)
  (.mk (oc _) (.mk (cL h0 h1) (.mk (by simpa using h0) .nil)))).any rfl rfl H
theorem pw2 {n : Int} {H : List O} (h0 : 0 ≤ n) (h1 : n < 2 ^ 16) : Cc w 31 (.ref 69) H [.int n, .int 2] (.byt 2) H :=
 (e6 (n := 30) (d7 (d := 0)) (by decide) (H := []) (H' := [.bya 2]) (as := [(21,7,false),(21,16,false)]) (as' := []) (ob := [Oc (n.fdiv 256), Oc n, (!(n.fdiv (2 ^ 16) == 0)) = false, decide (n < 0) = false]) (by kernel_rfl)
  (.mk (oc _) (.mk (oc _) (.mk (cL h0 h1) (.mk (by simpa using h0) .nil))))).any rfl rfl H
theorem pw4 {n : Int} {H : List O} (h0 : 0 ≤ n) (h1 : n < 2 ^ 32) : Cc w 31 (.ref 69) H [.int n, .int 4] (.byt 4) H :=
 (e6 (n := 30) (d7 (d := 0)) (by decide) (H := []) (H' := [.bya 4]) (as := [(21,7,false),(21,16,false)]) (as' := []) (ob := [Oc (((n.fdiv 256).fdiv 256).fdiv 256), Oc ((n.fdiv 256).fdiv 256), Oc (n.fdiv 256), Oc n, (!(n.fdiv (2 ^ 32) == 0)) = false, decide (n < 0) = false]) (by kernel_rfl)
  (.mk (oc _) (.mk (oc _) (.mk (oc _) (.mk (oc _) (.mk (cL h0 h1) (.mk (by simpa using h0) .nil))))))).any rfl rfl H
theorem pw8 {n : Int} {H : List O} (h0 : 0 ≤ n) (h1 : n < 2 ^ 64) : Cc w 31 (.ref 69) H [.int n, .int 8] (.byt 8) H :=
 (e6 (n := 30) (d7 (d := 0)) (by decide) (H := []) (H' := [.bya 8]) (as := [(21,7,false),(21,16,false)]) (as' := []) (ob := [Oc (((((((n.fdiv 256).fdiv 256).fdiv 256).fdiv 256).fdiv 256).fdiv 256).fdiv 256), Oc ((((((n.fdiv 256).fdiv 256).fdiv 256).fdiv 256).fdiv 256).fdiv 256), Oc (((((n.fdiv 256).fdiv 256).fdiv 256).fdiv 256).fdiv 256), Oc ((((n.fdiv 256).fdiv 256).fdiv 256).fdiv 256), Oc (((n.fdiv 256).fdiv 256).fdiv 256), Oc ((n.fdiv 256).fdiv 256), Oc (n.fdiv 256), Oc n, (!(n.fdiv (2 ^ 64) == 0)) = false, decide (n < 0) = false]) (by kernel_rfl)
  (.mk (oc _) (.mk (oc _) (.mk (oc _) (.mk (oc _) (.mk (oc _) (.mk (oc _) (.mk (oc _) (.mk (oc _) (.mk (cL h0 h1) (.mk (by simpa using h0) .nil))))))))))).any rfl rfl H
noncomputable def oct (n : Int) : Nat := if n < 64 then 1 else if n < 16384 then 2 else if n < 2 ^ 30 then 4 else 8
theorem A5 {n : Int} {H : List O} (h0 : 0 ≤ n) (h1 : n < 2 ^ 62) : Cc w 31 (.ref 76) H [.int n] (.int (oct n)) H := by
 refine Cc.any (gar := []) ?_ rfl rfl H
 have d0 : decide ((0 : Int) ≤ n) = true := dT h0
 unfold oct
 by_cases a1 : n < 64
 · rw [if_pos a1]
   exact e6 (n := 30) (d7 (d := 0)) (by decide) (as := [(30,11,true),(30,11,true)]) (as' := []) (ob := [decide (n < 64) = true, decide ((0 : Int) ≤ n) = true]) (by kernel_rfl) (.mk (dT a1) (.mk d0 .nil))
 · rw [if_neg a1]
   by_cases a2 : n < 16384
   · rw [if_pos a2]
     exact e6 (n := 30) (d7 (d := 0)) (by decide) (as := [(30,11,true),(30,11,false),(30,11,true),(30,11,true)]) (as' := []) (ob := [decide (n < 16384) = true, decide ((0 : Int) ≤ n) = true, decide (n < 64) = false, decide ((0 : Int) ≤ n) = true]) (by kernel_rfl) (.mk (dT a2) (.mk d0 (.mk (dF a1) (.mk d0 .nil))))
   · rw [if_neg a2]
     by_cases a3 : n < 2 ^ 30
     · rw [if_pos a3]
       exact e6 (n := 30) (d7 (d := 0)) (by decide) (as := [(30,11,true),(30,11,false),(30,11,true),(30,11,false),(30,11,true),(30,11,true)]) (as' := []) (ob := [decide (n < 2 ^ 30) = true, decide ((0 : Int) ≤ n) = true, decide (n < 16384) = false, decide ((0 : Int) ≤ n) = true, decide (n < 64) = false, decide ((0 : Int) ≤ n) = true]) (by kernel_rfl) (.mk (dT a3) (.mk d0 (.mk (dF a2) (.mk d0 (.mk (dF a1) (.mk d0 .nil))))))
     · rw [if_neg a3]
       exact e6 (n := 30) (d7 (d := 0)) (by decide) (as := [(30,11,true),(30,11,false),(30,11,true),(30,11,false),(30,11,true),(30,11,false),(30,11,true),(30,11,true)]) (as' := []) (ob := [decide (n < 2 ^ 62) = true, decide ((0 : Int) ≤ n) = true, decide (n < 2 ^ 30) = false, decide ((0 : Int) ≤ n) = true, decide (n < 16384) = false, decide ((0 : Int) ≤ n) = true, decide (n < 64) = false, decide ((0 : Int) ≤ n) = true]) (by kernel_rfl) (.mk (dT h1) (.mk d0 (.mk (dF a3) (.mk d0 (.mk (dF a2) (.mk d0 (.mk (dF a1) (.mk d0 .nil))))))))
end
section
variable {w : World}
theorem E3 {x y : Int} {k : Nat} (hx : 0 ≤ x) (hy : 0 ≤ y) (hx' : x < 2 ^ k) (hy' : y < 2 ^ k) : 0 ≤ Builtin.bitOr x y ∧ Builtin.bitOr x y < 2 ^ k := by
 obtain ⟨a, rfl⟩ := Int.eq_ofNat_of_zero_le hx
 obtain ⟨b, rfl⟩ := Int.eq_ofNat_of_zero_le hy
 have h1 : a < 2 ^ k := by exact_mod_cast hx'
 have h2 : b < 2 ^ k := by exact_mod_cast hy'
 have e : Builtin.bitOr (a : Int) (b : Int) = ((a ||| b : Nat) : Int) := by
  have n1 : Builtin.bitNot (a : Int) < 0 := by unfold Builtin.bitNot; lia
  have n2 : Builtin.bitNot (b : Int) < 0 := by unfold Builtin.bitNot; lia
  have nn : ∀ x : Int, Builtin.bitNot (Builtin.bitNot x) = x := fun x => by unfold Builtin.bitNot; lia
  have e1 : Builtin.bitAnd (Builtin.bitNot (a : Int)) (Builtin.bitNot (b : Int)) = Builtin.bitNot ((a ||| b : Nat) : Int) := by
   unfold Builtin.bitAnd
   rw [dF (by lia), dF (by lia)]
   dsimp only
   rw [nn, nn, Int.toNat_natCast, Int.toNat_natCast]
  unfold Builtin.bitOr
  rw [e1, nn]
 rw [e]
 exact ⟨Int.natCast_nonneg _, by exact_mod_cast Nat.or_lt_two_pow h1 h2⟩
def spV (c : Nat) : Addr -> List O -> List V -> Option (V × List O × List Prop) := fun f H vs => match one vs with
 | some a => (j5 a).bind fun n => bif f == 76 then some (.int c, H, [0 ≤ n, n < 2 ^ 62, oct n = c]) else none
 | none => (two vs).bind fun p => (j5 p.1).bind fun n => (j5 p.2).bind fun s => bif f == 69 && s == c then some (.byt c, H, [0 ≤ n, n < 2 ^ (8 * c)]) else none
theorem pP {c : Nat} (hc : c = 1 ∨ c = 2 ∨ c = 4 ∨ c = 8) : ∀ a H vs v H' ps, spV c a H vs = some (v, H', ps) -> (∀ p ∈ ps, p) -> Cc w 31 (.ref a) H vs v H' := by
 intro a H vs v H' ps h hp
 unfold spV at h
 cases q : one vs with
 | some x =>
  rw [q] at h
  refine e9 h fun n h1 h => i5 h fun g h => tE (P := fun v H' ps => (∀ p ∈ ps, p) -> Cc w 31 (.ref a) H vs v H') h (fun hp => ?_) hp
  rw [eq_of_beq g, B5 q, g9 h1]
  have h1 := hp _ (.head _)
  have h2 := hp _ (.tail _ (.head _))
  have h3 := hp _ (.tail _ (.tail _ (.head _)))
  have z := A5 (w := w) (H := H) h1 h2
  rw [h3] at z
  exact z
 | none =>
  rw [q] at h
  refine e9 h fun p q h => e9 h fun n h1 h => e9 h fun s h2 h => i5 h fun g h => tE (P := fun v H' ps => (∀ p ∈ ps, p) -> Cc w 31 (.ref a) H vs v H') h (fun hp => ?_) hp
  rw [J7 q, g9 h1, g9 h2, eq_of_beq (i0 g).1, eq_of_beq (i0 g).2]
  have h1 := hp _ (.head _)
  have h2 := hp _ (.tail _ (.head _))
  rcases hc with rfl | rfl | rfl | rfl
  · exact pw1 h1 h2
  · exact pw2 h1 h2
  · exact pw4 h1 h2
  · exact pw8 h1 h2
theorem bZ {c : Nat} (hc : c = 1 ∨ c = 2 ∨ c = 4 ∨ c = 8) : TOk w 30 (mkT (spV c)) := L0 w 30 _ (pP hc)
theorem U6 {n : Int} {H : List O} (h0 : 0 ≤ n) (h1 : n < 2 ^ 62) : Cc w 61 (.ref 83) H [.int n, .none] (.byt (oct n)) H := by
 refine Cc.any (gar := []) ?_ rfl rfl H
 by_cases a1 : n < 64
 · have e : oct n = 1 := by unfold oct; rw [if_pos a1]
   rw [e]
   exact e6 (n := 30) (bZ (c := 1) (by lia)) (by decide) (as := []) (as' := []) (ob := [0 ≤ Builtin.bitOr 0 n, Builtin.bitOr 0 n < 2 ^ 8, 0 ≤ n, n < 2 ^ 62, oct n = 1]) (by kernel_rfl) (by
    obtain ⟨q1, q2⟩ := E3 (x := 0) (y := n) (k := 8) (by decide) h0 (by decide) (by lia)
    exact .mk q1 (.mk q2 (.mk h0 (.mk h1 (.mk e .nil)))))
 · by_cases a2 : n < 16384
   · have e : oct n = 2 := by unfold oct; rw [if_neg a1, if_pos a2]
     rw [e]
     exact e6 (n := 30) (bZ (c := 2) (by lia)) (by decide) (as := []) (as' := []) (ob := [0 ≤ Builtin.bitOr (2 ^ 14) n, Builtin.bitOr (2 ^ 14) n < 2 ^ 16, 0 ≤ n, n < 2 ^ 62, oct n = 2]) (by kernel_rfl) (by
      obtain ⟨q1, q2⟩ := E3 (x := 2 ^ 14) (y := n) (k := 16) (by decide) h0 (by decide) (by lia)
      exact .mk q1 (.mk q2 (.mk h0 (.mk h1 (.mk e .nil)))))
   · by_cases a3 : n < 2 ^ 30
     · have e : oct n = 4 := by unfold oct; rw [if_neg a1, if_neg a2, if_pos a3]
       rw [e]
       exact e6 (n := 30) (bZ (c := 4) (by lia)) (by decide) (as := []) (as' := []) (ob := [0 ≤ Builtin.bitOr (2 * 2 ^ 30) n, Builtin.bitOr (2 * 2 ^ 30) n < 2 ^ 32, 0 ≤ n, n < 2 ^ 62, oct n = 4]) (by kernel_rfl) (by
        obtain ⟨q1, q2⟩ := E3 (x := 2 * 2 ^ 30) (y := n) (k := 32) (by decide) h0 (by decide) (by lia)
        exact .mk q1 (.mk q2 (.mk h0 (.mk h1 (.mk e .nil)))))
     · have e : oct n = 8 := by unfold oct; rw [if_neg a1, if_neg a2, if_neg a3]
       rw [e]
       exact e6 (n := 30) (bZ (c := 8) (by lia)) (by decide) (as := []) (as' := []) (ob := [0 ≤ Builtin.bitOr (3 * 2 ^ 62) n, Builtin.bitOr (3 * 2 ^ 62) n < 2 ^ 64, 0 ≤ n, n < 2 ^ 62, oct n = 8]) (by kernel_rfl) (by
        obtain ⟨q1, q2⟩ := E3 (x := 3 * 2 ^ 62) (y := n) (k := 64) (by decide) h0 (by decide) (by lia)
        exact .mk q1 (.mk q2 (.mk h0 (.mk h1 (.mk e .nil)))))
end
noncomputable def hK : List Stmt -> Expr
 | [.Return (some e) _] => e
 | _ => .Constant .none 0 default
noncomputable def Cd : Expr -> Expr
 | .Call (.Attribute o _ _) _ _ _ => o
 | e => e
noncomputable def pArg : Expr -> Expr
 | .Call _ (e :: _) _ _ => e
 | e => e
noncomputable def U8 : Expr -> Pos
 | .Call _ _ _ p => p
 | .ListComp _ _ _ p => p
 | _ => default
noncomputable def pAt : Expr -> Pos
 | .Call (.Attribute _ _ p) _ _ _ => p
 | _ => default
noncomputable def U9 : Expr -> Expr
 | .ListComp e _ _ _ => e
 | e => e
noncomputable def D4 : Expr -> Expr
 | .ListComp _ [⟨_, i, _, _⟩] _ _ => i
 | e => e
noncomputable def ba : Expr -> Expr
 | .ListComp _ [⟨t, _, _, _⟩] _ _ => t
 | e => e
noncomputable def pIf : Expr -> Expr
 | .ListComp _ [⟨_, _, [c], _⟩] _ _ => c
 | e => e
noncomputable def pSc : Expr -> Scope
 | .ListComp _ _ s _ => s
 | _ => default
noncomputable def pNm : Expr -> Pos
 | .Name _ p => p
 | _ => default
noncomputable def D1 : Stmt -> Pos
 | .Return _ p => p
 | .For _ _ _ _ p => p
 | _ => default
noncomputable def p7 : Stmt -> Expr
 | .For t _ _ _ _ => t
 | _ => .Constant .none 0 default
noncomputable def r6 : Stmt -> Expr
 | .For _ i _ _ _ => i
 | _ => .Constant .none 0 default
noncomputable def j9 : Stmt -> List Stmt
 | .For _ _ b _ _ => b
 | _ => []
noncomputable def nS (l : List Stmt) (i : Nat) : Stmt := l.getD i (.Pass default)
section
variable {w : World} {X : Cf} {κ : Kt} {T : Tb} {d n : Nat}
theorem A6 (A : TOk w d T) {a : Addr} {fn : Fn} {k : Nat} {vs : List V} {v : V} {H H' : List O} (hf : T.fn a = some fn) (hl : fn.xs.length = vs.length)
 (hb : ∀ X : Cf, Mt X ⟨fn.sc.names, fn.cfOf vs, false⟩ -> X.co = none -> X.cs = fn.sc -> Rm X k -> ∃ fr' fl, Ex w X ⟨fn.frOf vs, H⟩ fn.body fl ⟨fr', H'⟩ ∧ (fl = .ret v ∨ fl = .next ∧ v = .none)) : Cc w (k + 1) (.ref a) H vs v H' := by
 obtain ⟨f1, qual, cdv, f2⟩ := A.fn a fn hf
 refine f2 k H vs v H' hl fun X hX g L' => ?_
 exact hb _ ⟨fun x => rfl, f1, rfl, fun _ => rfl⟩ rfl rfl (Rm.inner (cn := qual) (cs := fn.sc) (a := a) (ccd := cdv) (h₀ := g) (L := L') hX)
theorem y8 (A : TOk w d T) (hn : n + d < 800) (M : Mt X κ) (hm : Rm X (n + (d + 1))) {e : Expr} {S S' : Sx} {v : V} (h : (rn T n).ev κ e S = some (v, S')) (ho : All S'.ob) : Ev w X S.st e v S'.st := ((snd A n hn).ev X κ e S v S' M hm h ho).2
theorem p8 (A : TOk w d T) (hn : n + d < 800) (M : Mt X κ) (hm : Rm X (n + (d + 1))) {e : Stmt} {S S' : Sx} {v : Fl} (h : (rn T n).s1 κ e S = some (v, S')) (ho : All S'.ob) : E1 w X S.st e v S'.st := ((snd A n hn).s1 X κ e S v S' M hm h ho).2
theorem U3 (A : TOk w d T) (hn : n + d < 800) (M : Mt X κ) (hm : Rm X (n + (d + 1))) {e : List Stmt} {S S' : Sx} {v : Fl} (h : (rn T n).ss κ e S = some (v, S')) (ho : All S'.ob) : Ex w X S.st e v S'.st := ((snd A n hn).ss X κ e S v S' M hm h ho).2
theorem gZ (A : TOk w d T) (hn : n + d < 800) (M : Mt X κ) (hm : Rm X (n + (d + 1))) {e : Expr} {S S' : Sx} {v : Bool} (h : (rn T n).te κ e S = some (v, S')) (ho : All S'.ob) : Te w X S.st e v S'.st := ((snd A n hn).te X κ e S v S' M hm h ho).2
theorem ci (A : TOk w d T) (hn : n + d < 800) (M : Mt X κ) (hm : Rm X (n + (d + 1))) {e : Expr} {S S' : Sx} {v : V} (h : (rn T n).asg κ e v S = some S') (ho : All S'.ob) : As w X S.st e v S'.st := ((snd A n hn).asg X κ e v S S' M hm h ho).2
theorem ic : ∀ (ns : List Int), n7 [.lst (ns.map .int)] = true := fun ns => by
 have : ∀ ns : List Int, n7 (ns.map .int) = true := fun ns => by
  induction ns with
  | nil => rfl
  | cons n ns ih => exact ih
 show (n7 (ns.map .int) && true) = true
 rw [this]; rfl
def spN : Addr -> List O -> List V -> Option (V × List O × List Prop) := fun f H vs => (two vs).bind fun p => (j5 p.1).bind fun n => bif M0 p.2 && f == 83 then some (.byt (oct n), H, [0 ≤ n, n < 2 ^ 62]) else none
theorem pQ : ∀ a H vs v H' ps, spN a H vs = some (v, H', ps) -> (∀ p ∈ ps, p) -> Cc w 61 (.ref a) H vs v H' := by
 intro a H vs v H' ps h hp
 refine e9 h fun p q h => e9 h fun n h1 h => i5 h fun g h => tE (P := fun v H' ps => (∀ p ∈ ps, p) -> Cc w 61 (.ref a) H vs v H') h (fun hp => ?_) hp
 rw [J7 q, g9 h1, D8 (i0 g).1, eq_of_beq (i0 g).2]
 exact U6 (hp _ (.head _)) (hp _ (.tail _ (.head _)))
theorem ca : TOk w 60 (mkT spN) := L0 w 60 _ pQ
def pnL : Expr := pArg (hK x8.1)
theorem mr : x8.1 = [.Return (some (.Call (.Attribute (Cd (hK x8.1)) "join" (pAt (hK x8.1))) [.ListComp (U9 pnL) [⟨.Name "number" (pNm (ba pnL)), D4 pnL, [], 0⟩] (pSc pnL) (U8 pnL)] [] (U8 (hK x8.1)))) (D1 (nS x8.1 0))] := by kernel_rfl
def k7 (ns : List Int) : List Nat := ns.map oct
theorem cp (X : Cf) (hm : Rm X 81) (M : ∀ cl C m, Mt (X.comp (pSc pnL) cl [] C m) (inner ⟨Y5.1.names, [], false⟩ (pSc pnL))) : ∀ (ns : List Int), (∀ n ∈ ns, 0 ≤ n ∧ n < 2 ^ 62) -> ∀ cl, Cm w X (pSc pnL) cl [] none (U9 pnL) "number" (ns.map .int) [] (ns.map fun n => .byt (oct n)) []
 | [], _, cl => .done
 | n :: ns, h, cl => by
  obtain ⟨h1, h2⟩ := h n (.head _)
  refine .yes (σ₁ := ⟨[("number", .int n)], []⟩) (σ₂ := ⟨[("number", .int n)], []⟩) (fun C m => ⟨rfl, rfl⟩) (fun C m => ?_) (cp X hm M ns (fun x hx => h x (.tail _ hx)) cl)
  exact y8 (n := 20) (S := ⟨[("number", .int n)], [], [], []⟩) (S' := ⟨[("number", .int n)], [], [], [0 ≤ n, n < 2 ^ 62]⟩) ca (by decide) (M cl C m) hm (by kernel_rfl) (.mk h1 (.mk h2 .nil))
theorem hV (ns : List Int) : e8 ((ns.map fun n => V.byt (oct n)).map V.sizeB) = some (k7 ns) := by
 induction ns with
 | nil => rfl
 | cons n ns ih =>
  rw [List.map_cons, List.map_cons, show (V.byt (oct n)).sizeB = some (oct n) from rfl]
  unfold e8
  rw [ih]
  rfl
theorem O5 {ns : List Int} {H : List O} (h : ∀ n ∈ ns, 0 ≤ n ∧ n < 2 ^ 62) (h1 : ns.length ≠ 1) (hz : (k7 ns).sum ≤ 1000) (hl : ns.length ≤ 1000) : Cc w 82 (.ref 201) H [.lst (ns.map .int)] (.byt (k7 ns).sum) H := by
 refine Cc.any (gar := []) ?_ rfl (ic ns) H
 refine A6 ca (fn := ⟨["numbers"], x8.1, Y5.1⟩) (k := 81) (by kernel_rfl) rfl fun X M hco hcs hm => ?_
 refine ⟨[("numbers", .lst (ns.map .int))], .ret (.byt (k7 ns).sum), ?_, .inl rfl⟩
 show Ex w X ⟨[("numbers", .lst (ns.map .int))], []⟩ x8.1 _ _
 rw [mr]
 have hk : y7 (pSc pnL) "number" = true := by kernel_rfl
 have hx : (k7 ns).sum = (k7 ns).sum := rfl
 have hM := D9 (scope := pSc pnL) M rfl (y7.all hk).2.1
 have ro : Ev w X ⟨[("numbers", .lst (ns.map .int))], []⟩ (Cd (hK x8.1)) (.byt 0) ⟨[("numbers", .lst (ns.map .int))], []⟩ :=
  y8 (n := 20) (S := ⟨[("numbers", .lst (ns.map .int))], [], [], []⟩) (S' := ⟨[("numbers", .lst (ns.map .int))], [], [], []⟩) ca (by decide) M hm (by kernel_rfl) .nil
 have ri : Ev w X ⟨[("numbers", .lst (ns.map .int))], []⟩ (D4 pnL) (.lst (ns.map .int)) ⟨[("numbers", .lst (ns.map .int))], []⟩ :=
  y8 (n := 20) (S := ⟨[("numbers", .lst (ns.map .int))], [], [], []⟩) (S' := ⟨[("numbers", .lst (ns.map .int))], [], [], []⟩) ca (by decide) M hm (by kernel_rfl) .nil
 have hi : u9 (.lst (ns.map V.int)) = some (ns.map .int) := by
  rfl
 have rc : Ev w X ⟨[("numbers", .lst (ns.map .int))], []⟩ (.ListComp (U9 pnL) [⟨.Name "number" (pNm (ba pnL)), D4 pnL, [], 0⟩] (pSc pnL) (U8 pnL)) (.lst (ns.map fun n => .byt (oct n))) ⟨[("numbers", .lst (ns.map .int))], []⟩ :=
  Ev.comp (ct := none) (cf := []) hco ri hi (.inl ⟨_, rfl⟩) (fun cl => cp X hm hM ns h cl) (by kernel_rfl) hk (by rw [M.cf]; kernel_rfl) fun x v e => by cases e
 have hst : [Expr.ListComp (U9 pnL) [⟨.Name "number" (pNm (ba pnL)), D4 pnL, [], 0⟩] (pSc pnL) (U8 pnL)].all i7 = true := rfl
 have hT : ∀ G s u, Ok w X G ⟨[("numbers", .lst (ns.map .int))], []⟩ s -> RV w.params G (.byt 0) u -> s.TypeIs u "bytes" ∧ ∀ b, u = .ref b -> ∃ o, s.heap.get? b = some o ∧ o.dict = none := fun G s u k r => by
  obtain ⟨b, t, rfl, -⟩ := r
  exact ⟨PySem.W.typeIs_bytes _ _ _, fun b' e => by cases e⟩
 have hsz := hV ns
 refine Ex.one (E1.ret (Ev.bmeth (k := 1) ro hT H8 (Es.cons rc .nil (g0 rfl)) (iA (ns := k7 ns) rfl hsz (by rw [List.length_map]; exact h1) (by show _ ≤ 100000; lia)) (hm.less (by lia)) W6 dv hst (by kernel_rfl) rfl (by kernel_rfl)))
end
def X8 (fr : List (Str × V)) : List (Str × V) -> Prop
 | [] => True
 | p :: r => fr.lookup p.1 = some p.2 ∧ X8 fr r
theorem X8.look {fr : List (Str × V)} : ∀ {fr0 : List (Str × V)}, X8 fr fr0 -> ∀ x v, fr0.lookup x = some v -> fr.lookup x = some v
 | [], _, x, v, e => by cases e
 | (y, u) :: r, h, x, v, e => by
  by_cases q : x = y
  · subst q; rw [List.lookup_cons_self] at e; cases e; exact h.1
  · rw [List.lookup_cons, nB q] at e; exact X8.look h.2 x v e
section
variable {w : World} {X : Cf} {G : Gam} {σ σ' σ'' : St} {s : Shared} {κ : Kt} {T : Tb} {d n : Nat}
theorem RF.sub {P : Params} {G : Gam} {fr fr0 : List (Str × V)} {m : Str -> Option Value} (h : RF P G fr m) (k : X8 fr fr0) : RF P G fr0 m := fun x v e => h x v (k.look x v e)
theorem Ok.sub {fr fr0 : List (Str × V)} {hp : List O} (h : Ok w X G ⟨fr, hp⟩ s) (k : X8 fr fr0) : Ok w X G ⟨fr0, hp⟩ s := by
 obtain ⟨m, obs, C, h1, h2, h3, hf, hc⟩ := h
 refine ⟨m, obs, C, h1, h2, h3, ?_, hc⟩
 unfold Frm at hf ⊢
 split
 · rename_i e; rw [e] at hf; exact hf.sub k
 · rename_i c e; rw [e] at hf
   obtain ⟨y1, oC, w0, y2, y3, y4⟩ := hf
   exact ⟨y1, oC, w0, y2, y3, y4.sub k⟩
theorem Ex.sub {bs : List Stmt} {fl : Fl} {fr fr0 : List (Str × V)} {hp : List O} (h : Ex w X σ bs fl ⟨fr, hp⟩) (k : X8 fr fr0) : Ex w X σ bs fl ⟨fr0, hp⟩ := fun G s ho Q E hq => h G s ho Q E fun G' f s' l o r e => hq G' f s' l (o.sub k) r e
theorem E1.sub {b : Stmt} {fl : Fl} {fr fr0 : List (Str × V)} {hp : List O} (h : E1 w X σ b fl ⟨fr, hp⟩) (k : X8 fr fr0) : E1 w X σ b fl ⟨fr0, hp⟩ := fun G s ho Q E hq => h G s ho Q E fun G' f s' l o r e => hq G' f s' l (o.sub k) r e
noncomputable def pr (p : Int × Int) : V := .tup [.int p.1, .int p.2]
def Rv (rs : List (Int × Int)) : V := .lst (rs.map pr)
theorem ib : ∀ (rs : List (Int × Int)), n7 (rs.map pr) = true
 | [] => rfl
 | _ :: rs => ib rs
theorem I5 (rs : List (Int × Int)) : l0 (Rv rs) = true := ib rs
noncomputable def m9 : Int -> List (Int × Int) -> List Int
 | _, [] => []
 | lo, (l, h) :: r => (lo - h - 2) :: (h - l) :: m9 l r
theorem w2 : ∀ (lo : Int) (rs : List (Int × Int)), (m9 lo rs).length = 2 * rs.length
 | _, [] => rfl
 | lo, (l, h) :: r => by show (m9 l r).length + 1 + 1 = _; rw [w2 l r, List.length_cons]; lia
noncomputable def j7 : Int -> List (Int × Int) -> Int
 | lo, [] => lo
 | _, (l, _) :: r => j7 l r
abbrev anK : Kt := ⟨Y4.1.names, [], false⟩
def anF (lo hi hi0 lo0 : Int) (rest : List (Int × Int)) : List (Str × V) := [("low", .int lo), ("more", .ref 0), ("found", .lst [.int (hi0 - lo0)]), ("high", .int hi), ("ranges", Rv ((lo0, hi0) :: rest))]
abbrev v7 : Stmt := nS v6.1 2
theorem dB (M : Mt X anK) (hm : Rm X 21) (hi hi0 lo0 : Int) (all : List (Int × Int)) : ∀ (rest : List (Int × Int)) (lo : Int) (xs : List V), xs.length + 2 * rest.length ≤ 1000 →
 Lp w X (p7 v7) (j9 v7) (rest.map pr) ⟨anF lo hi hi0 lo0 all, [.list xs]⟩ .next ⟨anF (j7 lo rest) hi hi0 lo0 all, [.list (xs ++ (m9 lo rest).map .int)]⟩
 | [], lo, xs, _ => by
  rw [show xs ++ (m9 lo []).map V.int = xs from List.append_nil _]
  exact .done
 | (l, h) :: rest, lo, xs, hz => by
  rw [List.length_cons] at hz
  have hA : As w X ⟨anF lo hi hi0 lo0 all, [.list xs]⟩ (p7 v7) (pr (l, h)) ⟨("next_high", .int h) :: ("next_low", .int l) :: anF lo hi hi0 lo0 all, [.list xs]⟩ :=
   ci (n := 20) (S := ⟨anF lo hi hi0 lo0 all, [.list xs], [], []⟩) (S' := ⟨("next_high", .int h) :: ("next_low", .int l) :: anF lo hi hi0 lo0 all, [.list xs], [], []⟩) (d7 (d := 0)) (by decide) M hm (by kernel_rfl) .nil
  have hB : Ex w X ⟨("next_high", .int h) :: ("next_low", .int l) :: anF lo hi hi0 lo0 all, [.list xs]⟩ (j9 v7) .next ⟨("low", .int l) :: ("next_high", .int h) :: ("next_low", .int l) :: anF lo hi hi0 lo0 all, [.list (xs ++ [.int (lo - h - 2), .int (h - l)])]⟩ :=
   U3 (n := 20) (S := ⟨("next_high", .int h) :: ("next_low", .int l) :: anF lo hi hi0 lo0 all, [.list xs], [], []⟩) (S' := ⟨("low", .int l) :: ("next_high", .int h) :: ("next_low", .int l) :: anF lo hi hi0 lo0 all, [.list (xs ++ [.int (lo - h - 2), .int (h - l)])], [], [xs.length + 2 ≤ big]⟩) (d7 (d := 0)) (by decide) M hm (by kernel_rfl) (.mk (by show _ ≤ 100000; lia) .nil)
  have hB' : Ex w X _ (j9 v7) .next ⟨anF l hi hi0 lo0 all, [.list (xs ++ [.int (lo - h - 2), .int (h - l)])]⟩ := hB.sub (by refine ⟨?_, ?_, ?_, ?_, ?_, trivial⟩ <;> kernel_rfl)
  refine .step hA hB' (.inl rfl) ?_
  have := dB M hm hi hi0 lo0 all rest l (xs ++ [.int (lo - h - 2), .int (h - l)]) (by rw [List.length_append]; show _ + 2 + _ ≤ _; lia)
  rw [List.append_assoc] at this
  exact this
def j4 (lo hi : Int) (rest : List (Int × Int)) : List Int := (((rest.length + 1 : Nat) : Int) - 1) :: (hi - lo) :: m9 lo rest
theorem oj : v6.1 = [nS v6.1 0, nS v6.1 1, .For (p7 v7) (r6 v7) (j9 v7) [] (D1 v7), nS v6.1 3] := by kernel_rfl
theorem P1 {lo hi : Int} {rest : List (Int × Int)} {H : List O} (hz : rest.length ≤ 300) : Cc w 22 (.ref 215) H [Rv ((lo, hi) :: rest)] (.tup [.lst [.int hi], .lst ((j4 lo hi rest).map .int)]) H := by
 refine Cc.any (gar := [.list ((m9 lo rest).map .int)]) ?_ (by show (true && (n7 ((j4 lo hi rest).map .int) && true)) = true; rw [show n7 ((j4 lo hi rest).map V.int) = true from (i0 (ic (j4 lo hi rest))).1]; rfl) (by show (l0 (Rv _) && true) = true; rw [I5]; rfl) H
 refine A6 (d7 (d := 0)) (fn := ⟨["ranges"], v6.1, Y4.1⟩) (k := 21) (by kernel_rfl) rfl fun X M hco hcs hm => ?_
 refine ⟨anF (j7 lo rest) hi hi lo rest, .ret _, ?_, .inl rfl⟩
 show Ex w X ⟨[("ranges", Rv ((lo, hi) :: rest))], []⟩ v6.1 _ _
 rw [oj]
 have h0 : E1 w X ⟨[("ranges", Rv ((lo, hi) :: rest))], []⟩ (nS v6.1 0) .next ⟨[("high", .int hi), ("low", .int lo), ("ranges", Rv ((lo, hi) :: rest))], []⟩ :=
  p8 (n := 20) (S := ⟨[("ranges", Rv ((lo, hi) :: rest))], [], [], []⟩) (S' := ⟨[("high", .int hi), ("low", .int lo), ("ranges", Rv ((lo, hi) :: rest))], [], [], []⟩) (d7 (d := 0)) (by decide) M hm (by kernel_rfl) .nil
 have h1 : E1 w X ⟨[("high", .int hi), ("low", .int lo), ("ranges", Rv ((lo, hi) :: rest))], []⟩ (nS v6.1 1) .next ⟨anF lo hi hi lo rest, [.list []]⟩ :=
  E1.sub (p8 (n := 20) (S := ⟨[("high", .int hi), ("low", .int lo), ("ranges", Rv ((lo, hi) :: rest))], [], [], []⟩) (S' := ⟨[("found", .lst [.int (hi - lo)]), ("more", .ref 0), ("high", .int hi), ("low", .int lo), ("ranges", Rv ((lo, hi) :: rest))], [.list []], [], []⟩) (d7 (d := 0)) (by decide) M hm (by kernel_rfl) .nil) (by refine ⟨?_, ?_, ?_, ?_, ?_, trivial⟩ <;> kernel_rfl)
 have hi2 : Ev w X ⟨anF lo hi hi lo rest, [.list []]⟩ (r6 v7) (.lst (rest.map pr)) ⟨anF lo hi hi lo rest, [.list []]⟩ :=
  y8 (n := 20) (S := ⟨anF lo hi hi lo rest, [.list []], [], []⟩) (S' := ⟨anF lo hi hi lo rest, [.list []], [], []⟩) (d7 (d := 0)) (by decide) M hm (by kernel_rfl) .nil
 have h2 : E1 w X ⟨anF lo hi hi lo rest, [.list []]⟩ (.For (p7 v7) (r6 v7) (j9 v7) [] (D1 v7)) .next ⟨anF (j7 lo rest) hi hi lo rest, [.list ((m9 lo rest).map .int)]⟩ :=
  E1.for hco hi2 rfl (dB M hm hi hi lo rest rest lo [] (by show 0 + _ ≤ _; lia)) (by kernel_rfl)
 have h3 : E1 w X ⟨anF (j7 lo rest) hi hi lo rest, [.list ((m9 lo rest).map .int)]⟩ (nS v6.1 3) (.ret (.tup [.lst [.int hi], .lst ((j4 lo hi rest).map .int)])) ⟨anF (j7 lo rest) hi hi lo rest, [.list ((m9 lo rest).map .int)]⟩ := by
  have hl : (rest.map pr).length = rest.length := List.length_map ..
  have z := p8 (w := w) (n := 20) (e := nS v6.1 3) (v := .ret (.tup [.lst [.int hi], .lst (.int (((rest.map pr).length + 1 : Nat) - 1) :: .int (hi - lo) :: (m9 lo rest).map .int)])) (S := ⟨anF (j7 lo rest) hi hi lo rest, [.list ((m9 lo rest).map .int)], [], []⟩) (S' := ⟨anF (j7 lo rest) hi hi lo rest, [.list ((m9 lo rest).map .int)], [], [2 + ((m9 lo rest).map V.int).length ≤ big, 1 + 1 ≤ big]⟩) (d7 (d := 0)) (by decide) M hm (by kernel_rfl) (.mk (by rw [List.length_map, w2]; show _ ≤ 100000; lia) (.mk (by decide) .nil))
  rw [hl] at z
  exact z
 exact .cons h0 (.cons h1 (.cons h2 (.stop h3 (by intro e; cases e))))
end
section
variable {w : World}
noncomputable def spA (l : List (Addr × List V × V)) : Addr -> List O -> List V -> Option (V × List O × List Prop) := fun f H vs => (l.find? fun e => Nat.beq e.1 f).map fun e => (e.2.2, H, [vs = e.2.1])
theorem fC {d : Nat} {l : List (Addr × List V × V)} (hl : ∀ e ∈ l, ∀ H, Cc w (d + 1) (.ref e.1) H e.2.1 e.2.2 H) : TOk w d (mkT (spA l)) := L0 w d _ fun a H vs v H' ps h hp => by
 unfold spA at h
 obtain ⟨e, he, h⟩ := mp h
 cases h
 have h1 := hp _ (.head _)
 subst h1
 have h2 := List.find?_some he
 have h3 : e.1 = a := Nat.eq_of_beq_eq_true h2
 rw [← h3]
 exact hl e (List.mem_of_find?_eq_some he) H
theorem pf {P : Addr × List V × V -> Prop} {a : Addr × List V × V} (h : P a) : ∀ e ∈ [a], P e := fun e he => by rw [nM he]; exact h
theorem GK {P : Addr × List V × V -> Prop} {a : Addr × List V × V} {l : List (Addr × List V × V)} (h : P a) (hl : ∀ e ∈ l, P e) : ∀ e ∈ a :: l, P e := fun e he => by
 rcases mC he with rfl | he
 · exact h
 · exact hl e he
noncomputable def W2 : Option (Int × Int × Int) -> V
 | none => .none
 | some (a, b, c) => .tup [.int a, .int b, .int c]
noncomputable def A3 : Option (Int × Int × Int) -> List Int
 | none => []
 | some (a, b, c) => [a, b, c]
def e5 (delay : Int) (rs : List (Int × Int)) (e : Option (Int × Int × Int)) : V := .tup [.str "ack", .int delay, Rv rs, W2 e]
def k0 (delay lo hi : Int) (rest : List (Int × Int)) (e : Option (Int × Int × Int)) : List Int := (match e with | none => 2 | some _ => 3) :: hi :: delay :: (j4 lo hi rest ++ A3 e)
def Vn (n : Int) : Prop := 0 ≤ n ∧ n < 2 ^ 62
theorem hY (n : Int) : oct n ≤ 8 := by unfold oct; split <;> (try split) <;> (try split) <;> lia
theorem cq : ∀ (ns : List Int), (k7 ns).sum ≤ 8 * ns.length
 | [] => by decide
 | n :: ns => by
  show oct n + (k7 ns).sum ≤ 8 * (ns.length + 1)
  have := cq ns
  have := hY n
  lia
theorem eM (delay lo hi : Int) (rest : List (Int × Int)) (e : Option (Int × Int × Int)) : (k0 delay lo hi rest e).length = 5 + 2 * rest.length + (A3 e).length := by
 unfold k0 j4
 simp only [List.length_cons, List.length_append, w2]
 lia
theorem ny (e : Option (Int × Int × Int)) : (A3 e).length ≤ 3 := by cases e <;> simp [A3]
theorem dG {delay lo hi : Int} {rest : List (Int × Int)} {e : Option (Int × Int × Int)} {H : List O} (hz : rest.length ≤ 50) (hv : ∀ n ∈ k0 delay lo hi rest e, Vn n) : Cc w 112 (.ref 222) H [e5 delay ((lo, hi) :: rest) e] (.byt (k7 (k0 delay lo hi rest e)).sum) H := by
 have hlen := eM delay lo hi rest e
 have hel := ny e
 have c1 : ∀ H, Cc w 82 (.ref 201) H [.lst ((k0 delay lo hi rest e).map .int)] (.byt (k7 (k0 delay lo hi rest e)).sum) H := fun H => O5 hv (by lia) (by have := cq (k0 delay lo hi rest e); lia) (by lia)
 have c2 : ∀ H, Cc w 82 (.ref 215) H [Rv ((lo, hi) :: rest)] (.tup [.lst [.int hi], .lst ((j4 lo hi rest).map .int)]) H := fun H => (P1 (by lia)).deep (by lia)
 have A := fC (w := w) (d := 81) (l := [(201, [.lst ((k0 delay lo hi rest e).map .int)], .byt (k7 (k0 delay lo hi rest e)).sum), (215, [Rv ((lo, hi) :: rest)], .tup [.lst [.int hi], .lst ((j4 lo hi rest).map .int)])]) (GK c1 (pf c2))
 refine Cc.any (gar := []) ?_ rfl (by show (l0 (e5 _ _ _) && true) = true; show ((true && (true && (l0 (Rv _) && (l0 (W2 e) && true)))) && true) = true; rw [I5]; cases e <;> rfl) H
 have la : ((j4 lo hi rest).map V.int).length ≤ 200 := by rw [List.length_map]; unfold j4; simp only [List.length_cons, w2]; lia
 cases e with
 | none =>
  refine e6 (n := 30) A (by decide) (as := []) (as' := []) (ob := [[.lst ([V.int 2] ++ [V.int hi] ++ [V.int delay] ++ (j4 lo hi rest).map V.int ++ [])] = [V.lst ((k0 delay lo hi rest none).map V.int)], ([V.int 2] ++ [V.int hi] ++ [V.int delay] ++ (j4 lo hi rest).map V.int).length + 0 ≤ big, 3 + ((j4 lo hi rest).map V.int).length ≤ big, 2 + 1 ≤ big, 1 + 1 ≤ big, [Rv ((lo, hi) :: rest)] = [Rv ((lo, hi) :: rest)]]) (by kernel_rfl) ?_
  refine .mk ?_ (.mk ?_ (.mk ?_ (.mk (by decide) (.mk (by decide) (.mk rfl .nil)))))
  · simp [k0, A3]
  · show _ ≤ 100000; simp only [List.length_append, List.length_singleton]; lia
  · show _ ≤ 100000; lia
 | some t =>
  obtain ⟨a, b, c⟩ := t
  refine e6 (n := 30) A (by decide) (as := []) (as' := []) (ob := [[.lst ([V.int 3] ++ [V.int hi] ++ [V.int delay] ++ (j4 lo hi rest).map V.int ++ [.int a, .int b, .int c])] = [V.lst ((k0 delay lo hi rest (some (a, b, c))).map V.int)], ([V.int 3] ++ [V.int hi] ++ [V.int delay] ++ (j4 lo hi rest).map V.int).length + 3 ≤ big, 3 + ((j4 lo hi rest).map V.int).length ≤ big, 2 + 1 ≤ big, 1 + 1 ≤ big, [Rv ((lo, hi) :: rest)] = [Rv ((lo, hi) :: rest)]]) (by kernel_rfl) ?_
  refine .mk ?_ (.mk ?_ (.mk ?_ (.mk (by decide) (.mk (by decide) (.mk rfl .nil)))))
  · simp [k0, A3]
  · show _ ≤ 100000; simp only [List.length_append, List.length_singleton]; lia
  · show _ ≤ 100000; lia
theorem m6 {delay lo hi : Int} {rest : List (Int × Int)} {e : Option (Int × Int × Int)} {H : List O} (hz : rest.length ≤ 50) (hv : ∀ n ∈ k0 delay lo hi rest e, Vn n) : Cc w 142 (.ref 264) H [e5 delay ((lo, hi) :: rest) e] (.int (k7 (k0 delay lo hi rest e)).sum) H := by
 have A := fC (w := w) (d := 111) (l := [(222, [e5 delay ((lo, hi) :: rest) e], .byt (k7 (k0 delay lo hi rest e)).sum)]) (pf fun H => dG hz hv)
 refine Cc.any (gar := []) ?_ rfl (by show (l0 (e5 _ _ _) && true) = true; show ((true && (true && (l0 (Rv _) && (l0 (W2 e) && true)))) && true) = true; rw [I5]; cases e <;> rfl) H
 exact e6 (n := 30) A (by decide) (as := []) (as' := []) (ob := [[e5 delay ((lo, hi) :: rest) e] = [e5 delay ((lo, hi) :: rest) e]]) (by kernel_rfl) (.mk rfl .nil)
end
noncomputable def spD (nm : Str) (e : Nat) (rc ls lt fu : V) (un : Int) (wn hn : Bool) : List (Str × V) := [("name", .str nm), ("next_number", .int 0), ("sent", .dct [] []), ("largest_acked", .none), ("acked", .lst []), ("last_eliciting_time", .none), ("loss_time", .none), ("received", rc), ("largest_seen", ls), ("largest_time", lt), ("floor", .int 0), ("first_unacked", fu), ("unacked", .int un), ("wants_now", .bool wn), ("has_new", .bool hn), ("ecn", .ref e), ("is_gone", .bool false)]
def j6 (nm : Str) (e : Nat) : List (Str × V) := spD nm e (.lst []) .none .none .none 0 false false
noncomputable def ap2 (a b : List (Str × V)) : List (Str × V) := a ++ b
noncomputable def zz3 : O := .list [.int 0, .int 0, .int 0]
def Jn (dg : Int) : List (Str × V) := ap2 (j6 "state" 4) [("shake", .ref 6), ("streams", .ref 9), ("remote", .ref 12), ("spaces", .dct ["handshake", "application"] [.ref 15, .ref 18]), ("crypto_out", .dct ["handshake", "application"] [.ref 21, .ref 23]), ("probes", .dct ["handshake", "application"] [.int 0, .int 0]), ("owed", .lst []), ("own_cid", .byt 3), ("way", .str "home"), ("paths", .ref 25), ("control", .ref 29), ("config", .dct ["datagram", "initial"] [.int dg, .int 1200]), ("params", .dct ["ack_delay_exponent", "max_ack_delay"] [.int 3, .int 25])]
noncomputable def AQ (pv : Bool) (rc : Int) : List (Str × V) := [("address", .str "home"), ("state", .str (bif pv then "proven" else "unproven")), ("is_free", .bool pv), ("received", .int rc), ("sent", .int 0), ("challenges", .lst []), ("deadline", .none), ("wants_more", .bool false)]
def H0 (bx : List V) (dg : Int) : List O := [.tab [(714, 0), (713, 0), (712, 0)], .list bx, .dict (Jn dg), .inst 976 2, zz3, .dict (ap2 (j6 "shake" 7) [("is_complete", .bool false)]), .inst 976 5, zz3, .dict (ap2 (j6 "streams" 10) [("control_frames", .lam 0), ("next_data", .lam 1)]), .inst 976 8, zz3, .dict (ap2 (j6 "remote" 13) [("present", .lam 2)]), .inst 976 11, zz3]
noncomputable def crD : O := .dict [("data", .byt 0), ("due", .lst []), ("acked", .lst [])]
def H1 (pv : Bool) (rc : Int) : List O := [crD, .inst 503 20, crD, .inst 503 22, .dict [("role", .str "server"), ("may_move", .bool true), ("known", .lst [.ref 27]), ("active", .ref 27), ("last_proven", bif pv then .ref 27 else .none), ("highest", .int (-1)), ("answers", .lst [])], .inst 804 24, .dict (AQ pv rc), .inst 685 26, .dict [("datagram", .int 1200), ("window", .int 12000), ("threshold", .none), ("recovery_at", .none), ("in_flight", .int 0), ("credit", .int 0)], .inst 601 28]
def HS (bx : List V) (dg : Int) (pv : Bool) (rc : Int) (hs : List (Str × V)) (e1 : O) (ap : List (Str × V)) (e2 : O) : List O := H0 bx dg ++ ([.dict hs, .inst 976 14, e1, .dict ap, .inst 976 17, e2] ++ H1 pv rc)
def w9 (k : Nat) : Pos := match dK[k]? with | some (.Lambda _ _ _ p) => p | _ => default
abbrev lsK : Kt := ⟨K1.1.names, [], false⟩
def HA (bx : List V) : List O := [.tab [], .list bx, .dict (ap2 (j6 "state" 4) [("shake", .ref 6), ("streams", .ref 9), ("remote", .ref 12)]), .inst 976 2, zz3, .dict (ap2 (j6 "shake" 7) [("is_complete", .bool false)]), .inst 976 5, zz3, .dict (j6 "streams" 10), .inst 976 8, zz3, .dict (j6 "remote" 13), .inst 976 11, zz3]
def HB (bx : List V) : List O := [.tab [(714, 0), (713, 0), (712, 0)], .list bx, .dict (ap2 (j6 "state" 4) [("shake", .ref 6), ("streams", .ref 9), ("remote", .ref 12)]), .inst 976 2, zz3, .dict (ap2 (j6 "shake" 7) [("is_complete", .bool false)]), .inst 976 5, zz3, .dict (ap2 (j6 "streams" 10) [("control_frames", .lam 0), ("next_data", .lam 1)]), .inst 976 8, zz3, .dict (ap2 (j6 "remote" 13) [("present", .lam 2)]), .inst 976 11, zz3]
noncomputable def lsF (dg : Int) (cm : V) : List (Str × V) := [("remote", .ref 12), ("streams", .ref 9), ("shake", .ref 6), ("conn", .ref 3), ("came", cm), ("datagram", .int dg)]
def lsT : List Expr × Pos × Nat × Pos × Pos := match nS p9.1 2 with
 | .Assign [.Tuple ts _ tp] (.Tuple _ k p) pos => (ts, tp, k, p, pos)
 | _ => ([], default, 0, default, default)
theorem yQ : nS p9.1 2 = .Assign [.Tuple lsT.1 0 lsT.2.1] (.Tuple [.Lambda (L8 0) (z6 0) (w8 0) (w9 0), .Lambda (L8 1) (z6 1) (w8 1) (w9 1), .Lambda (L8 2) (z6 2) (w8 2) (w9 2)] lsT.2.2.1 lsT.2.2.2.1) lsT.2.2.2.2 := by kernel_rfl
theorem mQ : p9.1 = nS p9.1 0 :: nS p9.1 1 :: nS p9.1 2 :: p9.1.drop 3 := by kernel_rfl
section
variable {w : World} {X : Cf} {σ : St}
theorem bl (k : Nat) (hk : dK[k]? = some (.Lambda (L8 k) (z6 k) (w8 k) (w9 k))) (hd : ∀ env, defaultsOf (L8 k) env = ([], [])) (hc : ∀ cells, clo cells (w8 k).names [] = some []) {fr : List (Str × V)} {H : List O} {ks : List (Nat × Nat)} (hco : X.co = none) (hcn : X.cn = "_law_state") (hcc : X.ccd = .ref 998) (hp : ((w9 k).line, (w9 k).col) ∉ ks) :
 Ev w X ⟨fr, .tab ks :: H⟩ (.Lambda (L8 k) (z6 k) (w8 k) (w9 k)) (.lam k) ⟨fr, .tab (((w9 k).line, (w9 k).col) :: ks) :: H⟩ :=
 Ev.lam hk hco hcn hcc hd (fun env => C1 (hc _)) hp
theorem mP (hco : X.co = none) (hcn : X.cn = "_law_state") (hcc : X.ccd = .ref 998) (M : Mt X lsK) (hm : Rm X 61) (dg : Int) (cm : V) (bx : List V) : E1 w X ⟨lsF dg cm, HA bx⟩ (nS p9.1 2) .next ⟨lsF dg cm, HB bx⟩ := by
 rw [yQ]
 have a0 := bl (w := w) (X := X) 0 (by kernel_rfl) (fun env => by kernel_rfl) (fun _ => by kernel_rfl) (fr := lsF dg cm) (H := (HA bx).drop 1) (ks := []) hco hcn hcc (by intro h; cases h)
 have a1 := bl (w := w) (X := X) 1 (by kernel_rfl) (fun env => by kernel_rfl) (fun _ => by kernel_rfl) (fr := lsF dg cm) (H := (HA bx).drop 1) (ks := [(712, 0)]) hco hcn hcc (by decide +kernel)
 have a2 := bl (w := w) (X := X) 2 (by kernel_rfl) (fun env => by kernel_rfl) (fun _ => by kernel_rfl) (fr := lsF dg cm) (H := (HA bx).drop 1) (ks := [(713, 0), (712, 0)]) hco hcn hcc (by decide +kernel)
 have e := Es.cons a0 (Es.cons a1 (Es.cons a2 Es.nil (g0 rfl)) (g0 rfl)) (g0 rfl)
 have hA : As w X ⟨lsF dg cm, .tab [(714, 0), (713, 0), (712, 0)] :: (HA bx).drop 1⟩ (.Tuple lsT.1 0 lsT.2.1) (.tup [.lam 0, .lam 1, .lam 2]) ⟨lsF dg cm, HB bx⟩ :=
  ci (n := 60) (S := ⟨lsF dg cm, .tab [(714, 0), (713, 0), (712, 0)] :: (HA bx).drop 1, [], []⟩) (S' := ⟨lsF dg cm, HB bx, [], []⟩) (d7 (d := 0)) (by decide) M hm (by kernel_rfl) .nil
 exact E1.assignT (Ev.mkTuple e (by decide)) hA rfl (J3 M (by kernel_rfl))
theorem V4 {k : Nat} {vs : List V} {v : V} {H H' : List O} (hl : vs.length = 2)
 (hb : ∀ X : Cf, Mt X lsK -> X.co = none -> X.cn = "_law_state" -> X.ccd = .ref 998 -> Rm X k -> ∃ fr', Ex w X ⟨(List.zip [("datagram" : Str), "came"] vs).reverse, H⟩ p9.1 (.ret v) ⟨fr', H'⟩) : Cc w (k + 1) (.ref 999) H vs v H' := by
 match vs, hl with
 | [v0, v1], _ =>
  refine Cc.ofC (fn := ⟨["datagram", "came"], p9.1, K1.1⟩) (pg _) ⟨rfl, rfl⟩ (by kernel_rfl) (by kernel_rfl) (fun us h => by
   have h : us.length = 2 := h
   match us, h with
   | [u0, u1], _ => kernel_rfl) (by kernel_rfl) rfl (by decide +kernel) fun X hX g L' => ?_
  obtain ⟨fr', z⟩ := hb (X.innerC "_law_state" K1.1 999 (.ref 998) g L' []) ⟨fun x => rfl, by kernel_rfl, rfl, fun _ => rfl⟩ rfl rfl rfl (Rm.inner (cn := "_law_state") (cs := K1.1) (a := 999) (ccd := .ref 998) (h₀ := g) (L := L') hX)
  exact ⟨fr', _, z, .inl rfl⟩
theorem D6 {dg : Int} {cm : V} {bx : List V} {pv : Bool} {rc : Int} (hr : ∀ X : Cf, Mt X lsK -> Rm X 61 -> ∃ fr', Ex w X ⟨lsF dg cm, HB bx⟩ (p9.1.drop 3) (.ret (.ref 3)) ⟨fr', HS bx dg pv rc (j6 "handshake" 16) zz3 (j6 "application" 19) zz3⟩) :
 Cc w 62 (.ref 999) [.tab [], .list bx] [.int dg, cm] (.ref 3) (HS bx dg pv rc (j6 "handshake" 16) zz3 (j6 "application" 19) zz3) := by
 refine V4 rfl fun X M hco hcn hcc hm => ?_
 obtain ⟨fr', h3⟩ := hr X M hm
 refine ⟨fr', ?_⟩
 rw [mQ]
 have h0 : E1 w X ⟨[("came", cm), ("datagram", .int dg)], [.tab [], .list bx]⟩ (nS p9.1 0) .next ⟨lsF dg cm, [.tab [], .list bx, .dict (j6 "state" 4), .inst 976 2, zz3, .dict (j6 "shake" 7), .inst 976 5, zz3, .dict (j6 "streams" 10), .inst 976 8, zz3, .dict (j6 "remote" 13), .inst 976 11, zz3]⟩ :=
  p8 (n := 60) (S := ⟨[("came", cm), ("datagram", .int dg)], [.tab [], .list bx], [], []⟩) (S' := ⟨lsF dg cm, [.tab [], .list bx, .dict (j6 "state" 4), .inst 976 2, zz3, .dict (j6 "shake" 7), .inst 976 5, zz3, .dict (j6 "streams" 10), .inst 976 8, zz3, .dict (j6 "remote" 13), .inst 976 11, zz3], [], []⟩) (d7 (d := 0)) (by decide) M hm (by kernel_rfl) .nil
 have h1 : E1 w X ⟨lsF dg cm, [.tab [], .list bx, .dict (j6 "state" 4), .inst 976 2, zz3, .dict (j6 "shake" 7), .inst 976 5, zz3, .dict (j6 "streams" 10), .inst 976 8, zz3, .dict (j6 "remote" 13), .inst 976 11, zz3]⟩ (nS p9.1 1) .next ⟨lsF dg cm, HA bx⟩ :=
  p8 (n := 60) (S := ⟨lsF dg cm, [.tab [], .list bx, .dict (j6 "state" 4), .inst 976 2, zz3, .dict (j6 "shake" 7), .inst 976 5, zz3, .dict (j6 "streams" 10), .inst 976 8, zz3, .dict (j6 "remote" 13), .inst 976 11, zz3], [], []⟩) (S' := ⟨lsF dg cm, HA bx, [], []⟩) (d7 (d := 0)) (by decide) M hm (by kernel_rfl) .nil
 exact .cons h0 (.cons h1 (.cons (mP hco hcn hcc M hm dg cm bx) h3))
theorem L6 {dg : Int} {bx : List V} : Cc w 62 (.ref 999) [.tab [], .list bx] [.int dg, .none] (.ref 3) (HS bx dg true 0 (j6 "handshake" 16) zz3 (j6 "application" 19) zz3) :=
 D6 fun X M hm => ⟨_, U3 (n := 60) (S := ⟨lsF dg .none, HB bx, [], []⟩) (S' := ⟨("names", .tup [.str "handshake", .str "application"]) :: lsF dg .none, HS bx dg true 0 (j6 "handshake" 16) zz3 (j6 "application" 19) zz3, [], []⟩) (d7 (d := 0)) (by decide) M hm (by kernel_rfl) .nil⟩
theorem L5 {dg c : Int} {bx : List V} : Cc w 62 (.ref 999) [.tab [], .list bx] [.int dg, .int c] (.ref 3) (HS bx dg false (0 + c) (j6 "handshake" 16) zz3 (j6 "application" 19) zz3) :=
 D6 fun X M hm => ⟨_, U3 (n := 60) (S := ⟨lsF dg (.int c), HB bx, [], []⟩) (S' := ⟨("names", .tup [.str "handshake", .str "application"]) :: lsF dg (.int c), HS bx dg false (0 + c) (j6 "handshake" 16) zz3 (j6 "application" 19) zz3, [], []⟩) (d7 (d := 0)) (by decide) M hm (by kernel_rfl) .nil⟩
noncomputable def spG (w : World) (d : Nat) (l : List (Addr × (List O -> List V -> V × List O))) : Addr -> List O -> List V -> Option (V × List O × List Prop) := fun f H vs => (l.find? fun e => Nat.beq e.1 f).map fun e => ((e.2 H vs).1, (e.2 H vs).2, [Cc w (d + 1) (.ref f) H vs (e.2 H vs).1 (e.2 H vs).2])
theorem d8 {d : Nat} {l : List (Addr × (List O -> List V -> V × List O))} : TOk w d (mkT (spG w d l)) := L0 w d _ fun a H vs v H' ps h hp => by
 unfold spG at h
 obtain ⟨e, he, h⟩ := mp h
 cases h
 exact hp _ (.head _)
end
noncomputable def kE : Expr -> List Expr
 | .BinOp l _ r _ => [l, r]
 | .Call f es _ _ => f :: es
 | .Subscript v i _ => [v, i]
 | .Compare l _ rs _ => l :: rs
 | .BoolOp _ es _ => es
 | .Tuple es _ _ => es
 | .List es _ => es
 | .Attribute o _ _ => [o]
 | .IfExp t a b _ => [t, a, b]
 | .UnaryOp _ e _ => [e]
 | .ListComp e [⟨t, i, cs, _⟩] _ _ => e :: t :: i :: cs
 | .Slice a b _ _ => a.toList ++ b.toList
 | _ => []
noncomputable def kS : Stmt -> List Expr
 | .Return (some e) _ => [e]
 | .If t _ _ _ => [t]
 | .While t _ _ _ => [t]
 | .For t i _ _ _ => [t, i]
 | .Assign ts e _ => ts ++ [e]
 | .AugAssign t _ e _ => [t, e]
 | .Expr e _ => [e]
 | _ => []
noncomputable def kB : Stmt -> List Stmt
 | .If _ b _ _ => b
 | .For _ _ b _ _ => b
 | .While _ b _ _ => b
 | _ => []
noncomputable def sP : Stmt -> Pos
 | .Return _ p => p
 | .If _ _ _ p => p
 | .For _ _ _ _ p => p
 | .Assign _ _ p => p
 | .AugAssign _ _ _ p => p
 | .Expr _ p => p
 | .While _ _ _ p => p
 | _ => default
def eN (e : Expr) (i : Nat) : Expr := (kE e).getD i (.Constant .none 0 default)
def sN (s : Stmt) (i : Nat) : Expr := (kS s).getD i (.Constant .none 0 default)
section
variable {w : World} {X : Cf} {σ σ' σ'' : St} {κ : Kt}
theorem Ev.bin2 {op : Operator} {l r : Expr} {a b c : V} {ps : List Prop} {pos : Pos} (hl : Ev w X σ l a σ') (hr : Ev w X σ' r b σ'') (e : R3 σ''.hp op a b = some (c, ps)) (hp : All ps) : Ev w X σ (.BinOp l op r pos) c σ'' :=
 Ev.bin hl hr fun G s u v h hu hv => ay e hp h hu hv
theorem Ev.nmT (M : Mt X κ) {x : Str} {p : Pos} {c : V} {fr : List (Str × V)} {hp : List O} (h : ig Tz κ x fr = some c) : Ev w X ⟨fr, hp⟩ (.Name x p) c ⟨fr, hp⟩ := Z4 (S := ⟨fr, hp, [], []⟩) (d7 (w := w) (d := 0)) M h
noncomputable def tkR (xs : List Int) (c : Int) : Int := if c + 1 ≤ xs.length then (if xs.getD c.toNat 0 < 0 then - xs.getD c.toNat 0 else xs.getD c.toNat 0) else 7 * (c + 1) + (c + 1).fdiv 4
def tk (xs : List Int) (c m : Int) : Int := (tkR xs c).fmod m
noncomputable def bxV (xs : List Int) (c : Int) : List V := [.lst (xs.map .int), .int c]
abbrev tkI : Stmt := nS q6.1 1
abbrev tkE : Expr := sN (nS (kB tkI) 0) 0
abbrev tkC : Expr := eN tkE 0
theorem lT : q6.1 = [nS q6.1 0, .If (sN tkI 0) [.Return (some (.BinOp (.Call (.Name "abs" (eN tkC 0).pos) [.Subscript (eN (eN tkC 1) 0) (eN (eN tkC 1) 1) (eN tkC 1).pos] [] tkC.pos) .Mod (eN tkE 1) tkE.pos)) (sP (nS (kB tkI) 0))] [] (sP tkI), .Return (some (.BinOp (eN (sN (nS q6.1 2) 0) 0) .Mod (eN (sN (nS q6.1 2) 0) 1) (sN (nS q6.1 2) 0).pos)) (sP (nS q6.1 2))] := by kernel_rfl
noncomputable def tkF (m : Int) : List (Str × V) := [("many", .int m), ("box", .ref 1)]
theorem ij {hp : List O} {a m : Int} (hm : 0 < m) : R3 hp .Mod (.int a) (.int m) = some (.int (a.fmod m), []) := by
 have e : (m == 0) = false := nB (by lia)
 have k : ((j5 (V.int a)).bind fun x => (j5 (V.int m)).bind fun y => nU .Mod x y) = some (a.fmod m) := by show (bif m == 0 then none else some _) = _; rw [e]; rfl
 unfold R3; rw [k]
theorem w7 {o0 : O} {rest : List O} {xs : List Int} {c m : Int} (hc : 0 ≤ c) (hc2 : c < 900000) (hm : 0 < m) : Cc w 32 (.ref 994) (o0 :: .list (bxV xs c) :: rest) [.ref 1, .int m] (.int (tk xs c m)) (o0 :: .list (bxV xs (c + 1)) :: rest) := by
 refine A6 (d7 (d := 0)) (fn := ⟨["box", "many"], q6.1, cg.1⟩) (k := 31) (by kernel_rfl) rfl fun X M hco hcs hm2 => ?_
 refine ⟨tkF m, .ret (.int (tk xs c m)), ?_, .inl rfl⟩
 show Ex w X ⟨tkF m, o0 :: .list (bxV xs c) :: rest⟩ q6.1 _ _
 rw [lT]
 have h0 : E1 w X ⟨tkF m, o0 :: .list (bxV xs c) :: rest⟩ (nS q6.1 0) .next ⟨tkF m, o0 :: .list (bxV xs (c + 1)) :: rest⟩ :=
  p8 (n := 30) (S := ⟨tkF m, o0 :: .list (bxV xs c) :: rest, [], []⟩) (S' := ⟨tkF m, o0 :: .list (bxV xs (c + 1)) :: rest, [], []⟩) (d7 (d := 0)) (by decide) M hm2 (by kernel_rfl) .nil
 have ht : ∀ b, decide (c + 1 ≤ ((xs.map V.int).length : Nat)) = b -> Te w X ⟨tkF m, o0 :: .list (bxV xs (c + 1)) :: rest⟩ (sN tkI 0) b ⟨tkF m, o0 :: .list (bxV xs (c + 1)) :: rest⟩ := fun b hb =>
  gZ (n := 30) (S := ⟨tkF m, o0 :: .list (bxV xs (c + 1)) :: rest, [(705, 7, b)], []⟩) (S' := ⟨tkF m, o0 :: .list (bxV xs (c + 1)) :: rest, [], [decide (c + 1 ≤ ((xs.map V.int).length : Nat)) = b]⟩) (d7 (d := 0)) (by decide) M hm2 (by kernel_rfl) (.mk hb .nil)
 refine .cons h0 ?_
 by_cases hq : c + 1 ≤ (xs.length : Int)
 · have ea : Ev w X ⟨tkF m, o0 :: .list (bxV xs (c + 1)) :: rest⟩ (eN (eN tkC 1) 0) (.lst (xs.map .int)) ⟨tkF m, o0 :: .list (bxV xs (c + 1)) :: rest⟩ :=
    y8 (n := 30) (S := ⟨tkF m, o0 :: .list (bxV xs (c + 1)) :: rest, [], []⟩) (S' := ⟨tkF m, o0 :: .list (bxV xs (c + 1)) :: rest, [], []⟩) (d7 (d := 0)) (by decide) M hm2 (by kernel_rfl) .nil
   have eb : Ev w X ⟨tkF m, o0 :: .list (bxV xs (c + 1)) :: rest⟩ (eN (eN tkC 1) 1) (.int (c + 1 - 1)) ⟨tkF m, o0 :: .list (bxV xs (c + 1)) :: rest⟩ :=
    y8 (n := 30) (S := ⟨tkF m, o0 :: .list (bxV xs (c + 1)) :: rest, [], []⟩) (S' := ⟨tkF m, o0 :: .list (bxV xs (c + 1)) :: rest, [], []⟩) (d7 (d := 0)) (by decide) M hm2 (by kernel_rfl) .nil
   have em : Ev w X ⟨tkF m, o0 :: .list (bxV xs (c + 1)) :: rest⟩ (eN tkE 1) (.int m) ⟨tkF m, o0 :: .list (bxV xs (c + 1)) :: rest⟩ :=
    y8 (n := 30) (S := ⟨tkF m, o0 :: .list (bxV xs (c + 1)) :: rest, [], []⟩) (S' := ⟨tkF m, o0 :: .list (bxV xs (c + 1)) :: rest, [], []⟩) (d7 (d := 0)) (by decide) M hm2 (by kernel_rfl) .nil
   have ei : Ev w X ⟨tkF m, o0 :: .list (bxV xs (c + 1)) :: rest⟩ (.Subscript (eN (eN tkC 1) 0) (eN (eN tkC 1) 1) (eN tkC 1).pos) (.int (xs.getD c.toNat 0)) ⟨tkF m, o0 :: .list (bxV xs (c + 1)) :: rest⟩ := by
    refine Ev.item ea eb ?_ (by kernel_rfl)
    show (bif decide (0 ≤ c + 1 - 1) && decide (c + 1 - 1 < 1000000) then (xs.map V.int)[(c + 1 - 1).toNat]? else none) = _
    rw [show c + 1 - 1 = c by lia, dT hc, dT (show c < 1000000 by lia)]
    show (xs.map V.int)[c.toNat]? = _
    rw [List.getElem?_map, List.getD_eq_getElem?_getD, List.getElem?_eq_getElem (show c.toNat < xs.length by lia)]
    rfl
   have ec := Ev.callN (w := w) (k := 1) (X := X) (Ev.nmT M (x := "abs") (p := (eN tkC 0).pos) (c := .val (.builtin "abs")) (fr := tkF m) (hp := o0 :: .list (bxV xs (c + 1)) :: rest) (by kernel_rfl)) (Es.cons ei .nil (g0 rfl)) (pos := tkC.pos) pt (hm2.less (by decide)) (.inr (.inl ⟨_, rfl⟩)) rfl
   have e := Ev.bin2 (pos := tkE.pos) ec em (ij hm) .nil
   have ev : (if xs.getD c.toNat 0 < 0 then - xs.getD c.toNat 0 else xs.getD c.toNat 0).fmod m = tk xs c m := by unfold tk tkR; rw [if_pos hq]
   rw [ev] at e
   exact .stop (E1.ite (ht true (dT (by rw [List.length_map]; exact hq))) (fun _ => .stop (E1.ret e) (by intro q; cases q)) (fun q => by cases q)) (by intro q; cases q)
 · refine .cons (E1.ite (ht false (dF (by rw [List.length_map]; exact hq))) (fun q => by cases q) (fun _ => .nil)) (.stop (E1.ret ?_) (by intro q; cases q))
   have ea : Ev w X ⟨tkF m, o0 :: .list (bxV xs (c + 1)) :: rest⟩ (eN (sN (nS q6.1 2) 0) 0) (.int (7 * (c + 1) + (c + 1).fdiv 4)) ⟨tkF m, o0 :: .list (bxV xs (c + 1)) :: rest⟩ :=
    y8 (n := 30) (S := ⟨tkF m, o0 :: .list (bxV xs (c + 1)) :: rest, [], []⟩) (S' := ⟨tkF m, o0 :: .list (bxV xs (c + 1)) :: rest, [], []⟩) (d7 (d := 0)) (by decide) M hm2 (by kernel_rfl) .nil
   have em : Ev w X ⟨tkF m, o0 :: .list (bxV xs (c + 1)) :: rest⟩ (eN (sN (nS q6.1 2) 0) 1) (.int m) ⟨tkF m, o0 :: .list (bxV xs (c + 1)) :: rest⟩ :=
    y8 (n := 30) (S := ⟨tkF m, o0 :: .list (bxV xs (c + 1)) :: rest, [], []⟩) (S' := ⟨tkF m, o0 :: .list (bxV xs (c + 1)) :: rest, [], []⟩) (d7 (d := 0)) (by decide) M hm2 (by kernel_rfl) .nil
   have e := Ev.bin2 (pos := (sN (nS q6.1 2) 0).pos) ea em (ij hm) .nil
   have ev : (7 * (c + 1) + (c + 1).fdiv 4).fmod m = tk xs c m := by unfold tk tkR; rw [if_neg hq]
   rw [ev] at e
   exact e
theorem y6 {xs : List Int} {c m : Int} (hm : 0 < m) : 0 ≤ tk xs c m ∧ tk xs c m < m := ⟨Int.fmod_nonneg_of_pos _ hm, Int.fmod_lt_of_pos _ hm⟩
end
section
variable {w : World} {X : Cf} {σ σ' σ'' : St} {κ : Kt}
abbrev arK : Kt := ⟨Y3.1.names, [], false⟩
abbrev n5 : Stmt := nS z9.1 1
def arF (lo hi : Int) (rs : List (Int × Int)) (b : Bool) : List (Str × V) := [("is_in", .bool b), ("found", .ref 0), ("high", .int hi), ("low", .int lo), ("ranges", Rv rs)]
def arG (lo hi l h : Int) (rs : List (Int × Int)) (b : Bool) : List (Str × V) := ("one", pr (l, h)) :: arF lo hi rs b
theorem oi : z9.1 = [nS z9.1 0, .For (.Name "one" (p7 n5).pos) (r6 n5) (j9 n5) [] (D1 n5), nS z9.1 2] := by kernel_rfl
theorem bO (M : Mt X arK) (hm : Rm X 31) {lo hi l h : Int} {rs : List (Int × Int)} {b : Bool} {xs : List V} : As w X ⟨arF lo hi rs b, [.list xs]⟩ (.Name "one" (p7 n5).pos) (pr (l, h)) ⟨arG lo hi l h rs b, [.list xs]⟩ :=
 ci (n := 30) (S := ⟨arF lo hi rs b, [.list xs], [], []⟩) (S' := ⟨arG lo hi l h rs b, [.list xs], [], []⟩) (d7 (d := 0)) (by decide) M hm (by kernel_rfl) .nil
theorem dy (M : Mt X arK) (hm : Rm X 31) {lo hi : Int} {all : List (Int × Int)} : ∀ (rs : List (Int × Int)) (xs : List V), (∀ p ∈ rs, p.2 < lo - 1 ∧ p.1 ≤ hi + 1) -> xs.length + rs.length < 1000 →
 Lp w X (.Name "one" (p7 n5).pos) (j9 n5) (rs.map pr) ⟨arF lo hi all true, [.list xs]⟩ .next ⟨arF lo hi all true, [.list (xs ++ rs.map pr)]⟩
 | [], xs, _, _ => by rw [List.map_nil, List.append_nil]; exact .done
 | (l, h) :: rs, xs, hp, hz => by
  rw [List.length_cons] at hz
  obtain ⟨p1, p2⟩ := hp _ (.head _)
  have hB : Ex w X ⟨arG lo hi l h all true, [.list xs]⟩ (j9 n5) .next ⟨arG lo hi l h all true, [.list (xs ++ [pr (l, h)])]⟩ :=
   U3 (n := 30) (S := ⟨arG lo hi l h all true, [.list xs], [(586, 11, false), (588, 13, true)], []⟩) (S' := ⟨arG lo hi l h all true, [.list (xs ++ [pr (l, h)])], [], [xs.length < big, decide (h < lo - 1) = true, decide (hi + 1 < l) = false]⟩) (d7 (d := 0)) (by decide) M hm (by kernel_rfl) (.mk (by show _ < 100000; lia) (.mk (dT p1) (.mk (dF (by lia)) .nil)))
  have hB' := hB.sub (fr0 := arF lo hi all true) (by refine ⟨?_, ?_, ?_, ?_, ?_, trivial⟩ <;> kernel_rfl)
  refine .step (bO M hm) hB' (.inl rfl) ?_
  have := dy M hm (all := all) rs (xs ++ [pr (l, h)]) (fun p q => hp p (.tail _ q)) (by rw [List.length_append]; show _ + 1 + _ < _; lia)
  rw [List.append_assoc] at this
  exact this
theorem lB (M : Mt X arK) (hm : Rm X 31) {lo hi : Int} {all : List (Int × Int)} {l h : Int} {rs : List (Int × Int)} (hp : ∀ p ∈ (l, h) :: rs, p.2 < lo - 1 ∧ p.1 ≤ hi + 1) (hz : rs.length < 900) :
 Lp w X (.Name "one" (p7 n5).pos) (j9 n5) (((l, h) :: rs).map pr) ⟨arF lo hi all false, [.list []]⟩ .next ⟨arF lo hi all true, [.list (((lo, hi) :: (l, h) :: rs).map pr)]⟩ := by
 obtain ⟨p1, p2⟩ := hp _ (.head _)
 have hB : Ex w X ⟨arG lo hi l h all false, [.list []]⟩ (j9 n5) .next ⟨("is_in", .bool true) :: arG lo hi l h all false, [.list [pr (lo, hi), pr (l, h)]]⟩ :=
  U3 (n := 30) (S := ⟨arG lo hi l h all false, [.list []], [(586, 11, false), (588, 13, true)], []⟩) (S' := ⟨("is_in", .bool true) :: arG lo hi l h all false, [.list [pr (lo, hi), pr (l, h)]], [], [1 < big, 0 < big, decide (h < lo - 1) = true, decide (hi + 1 < l) = false]⟩) (d7 (d := 0)) (by decide) M hm (by kernel_rfl) (.mk (by decide) (.mk (by decide) (.mk (dT p1) (.mk (dF (by lia)) .nil))))
 have hB' := hB.sub (fr0 := arF lo hi all true) (by refine ⟨?_, ?_, ?_, ?_, ?_, trivial⟩ <;> kernel_rfl)
 exact .step (bO M hm) hB' (.inl rfl) (dy M hm rs [pr (lo, hi), pr (l, h)] (fun p q => hp p (.tail _ q)) (by show 2 + _ < _; lia))
theorem dz (M : Mt X arK) (hm : Rm X 31) {n l h : Int} {all rs : List (Int × Int)} (h1 : l ≤ n) (h2 : h = n - 1) (fl : Fl) (σ' : St)
 (hL : Lp w X (.Name "one" (p7 n5).pos) (j9 n5) (rs.map pr) ⟨arF l n all false, [.list []]⟩ fl σ') :
 Lp w X (.Name "one" (p7 n5).pos) (j9 n5) (((l, h) :: rs).map pr) ⟨arF n n all false, [.list []]⟩ fl σ' := by
 have hB : Ex w X ⟨arG n n l h all false, [.list []]⟩ (j9 n5) .next ⟨("low", .int (if l < n then l else n)) :: ("high", .int (if h > n then h else n)) :: arG n n l h all false, [.list []]⟩ :=
  U3 (n := 30) (S := ⟨arG n n l h all false, [.list []], [(586, 11, false), (588, 13, false)], []⟩) (S' := ⟨("low", .int (if l < n then l else n)) :: ("high", .int (if h > n then h else n)) :: arG n n l h all false, [.list []], [], [decide (h < n - 1) = false, decide (n + 1 < l) = false]⟩) (d7 (d := 0)) (by decide) M hm (by kernel_rfl) (.mk (dF (by lia)) (.mk (dF (by lia)) .nil))
 rw [show (if l < n then l else n) = l by split <;> lia, show (if h > n then h else n) = n by split <;> lia] at hB
 exact .step (bO M hm) (hB.sub (fr0 := arF l n all false) (by refine ⟨?_, ?_, ?_, ?_, ?_, trivial⟩ <;> kernel_rfl)) (.inl rfl) hL
theorem dA {n : Int} {rs rs' : List (Int × Int)} {lo : Int} {b : Bool} {ys : List V} {v : V} (hz : rs.length < 900)
 (hr : v = (bif b then V.ref 0 else .lst (ys ++ [pr (lo, n)])))
 (hl : ∀ X : Cf, Mt X arK -> Rm X 31 -> Lp w X (.Name "one" (p7 n5).pos) (j9 n5) (rs.map pr) ⟨arF n n rs false, [.list []]⟩ .next ⟨arF lo n rs b, [.list ys]⟩) (hy : ys.length < 1000) :
 Cc w 32 (.ref 822) [] [Rv rs, .int n, .int n] v [.list ys] := by
 refine A6 (d7 (d := 0)) (fn := ⟨["ranges", "low", "high"], z9.1, Y3.1⟩) (k := 31) (by kernel_rfl) rfl fun X M hco hcs hm => ?_
 refine ⟨arF lo n rs b, .ret v, ?_, .inl rfl⟩
 show Ex w X ⟨[("high", .int n), ("low", .int n), ("ranges", Rv rs)], []⟩ z9.1 _ _
 rw [oi]
 have h0 : E1 w X ⟨[("high", .int n), ("low", .int n), ("ranges", Rv rs)], []⟩ (nS z9.1 0) .next ⟨arF n n rs false, [.list []]⟩ :=
  E1.sub (p8 (n := 30) (S := ⟨[("high", .int n), ("low", .int n), ("ranges", Rv rs)], [], [], []⟩) (S' := ⟨[("found", .ref 0), ("is_in", .bool false), ("high", .int n), ("low", .int n), ("ranges", Rv rs)], [.list []], [], []⟩) (d7 (d := 0)) (by decide) M hm (by kernel_rfl) .nil) (by refine ⟨?_, ?_, ?_, ?_, ?_, trivial⟩ <;> kernel_rfl)
 have hi : Ev w X ⟨arF n n rs false, [.list []]⟩ (r6 n5) (.lst (rs.map pr)) ⟨arF n n rs false, [.list []]⟩ :=
  y8 (n := 30) (S := ⟨arF n n rs false, [.list []], [], []⟩) (S' := ⟨arF n n rs false, [.list []], [], []⟩) (d7 (d := 0)) (by decide) M hm (by kernel_rfl) .nil
 have h1 := E1.for (w := w) (pos := D1 n5) hco hi rfl (hl X M hm) (by kernel_rfl)
 have h2 : E1 w X ⟨arF lo n rs b, [.list ys]⟩ (nS z9.1 2) (.ret v) ⟨arF lo n rs b, [.list ys]⟩ := by
  have e := hr
  cases b with
  | true =>
   subst e
   exact p8 (n := 30) (S := ⟨arF lo n rs true, [.list ys], [], []⟩) (S' := ⟨arF lo n rs true, [.list ys], [], []⟩) (d7 (d := 0)) (by decide) M hm (by kernel_rfl) .nil
  | false =>
   subst e
   exact p8 (n := 30) (S := ⟨arF lo n rs false, [.list ys], [], []⟩) (S' := ⟨arF lo n rs false, [.list ys], [], [ys.length + 1 ≤ big]⟩) (d7 (d := 0)) (by decide) M hm (by kernel_rfl) (.mk (by show _ ≤ 100000; lia) .nil)
 exact .cons h0 (.cons h1 (.stop h2 (by intro q; cases q)))
def C3 : List (Int × Int) -> Prop
 | [] => True
 | (l, h) :: r => l ≤ h ∧ (∀ p ∈ r, p.2 < l - 1 ∧ p.1 ≤ p.2) ∧ C3 r
noncomputable def k8 (rs : List (Int × Int)) (n : Int) : List (Int × Int) := match rs with
 | [] => [(n, n)]
 | (l, h) :: r => if h = n - 1 then (l, n) :: r else (n, n) :: (l, h) :: r
def I3 (rs : List (Int × Int)) (n : Int) : Prop := ∀ p ∈ rs, p.2 < n
theorem C3.all {rs : List (Int × Int)} (h : C3 rs) : ∀ p ∈ rs, p.1 ≤ p.2 := by
 induction rs with
 | nil => intro p hp; cases hp
 | cons a r ih =>
  obtain ⟨l, hh⟩ := a
  intro p hp
  rcases mC hp with rfl | hp
  · exact h.1
  · exact (h.2.1 p hp).2
theorem aK {rs : List (Int × Int)} {n : Int} {H : List O} (hd : C3 rs) (ha : I3 rs n) (hz : rs.length < 900) : Cc w 32 (.ref 822) H [Rv rs, .int n, .int n] (Rv (k8 rs n)) H := by
 refine Cc.any (gar := []) ?_ (I5 _) (by show (l0 (Rv _) && true) = true; rw [I5]; rfl) H
 match rs, hd, ha, hz with
 | [], _, _, _ =>
  have z := dA (w := w) (n := n) (rs := []) (rs' := []) (lo := n) (b := false) (ys := []) (v := .lst ([] ++ [pr (n, n)])) (by decide) rfl (fun X M hm => .done) (by decide)
  exact Cc.drop (gar := [.list []]) z rfl
 | (l, h) :: r, hd, ha, hz =>
  have hh := ha _ (.head _)
  rw [List.length_cons] at hz
  by_cases e : h = n - 1
  · have ea : k8 ((l, h) :: r) n = (l, n) :: r := by show (if h = n - 1 then (l, n) :: r else (n, n) :: (l, h) :: r) = _; rw [if_pos e]
    rw [ea]
    have hl : l ≤ n := by have := hd.1; lia
    match r, hd, ha, hz, ea with
    | [], hd, ha, hz, ea =>
     have z := dA (w := w) (n := n) (rs := [(l, h)]) (rs' := []) (lo := l) (b := false) (ys := []) (v := .lst ([] ++ [pr (l, n)])) (by show 1 < 900; decide) rfl (fun X M hm => dz M hm hl e _ _ .done) (by decide)
     exact Cc.drop (gar := [.list []]) z rfl
    | (l2, h2) :: r2, hd, ha, hz, ea =>
     rw [List.length_cons] at hz
     have hp : ∀ p ∈ (l2, h2) :: r2, p.2 < l - 1 ∧ p.1 ≤ n + 1 := fun p hp => ⟨(hd.2.1 p hp).1, by have := hd.2.1 p hp; have := ha p (.tail _ hp); lia⟩
     have z := dA (w := w) (n := n) (rs := (l, h) :: (l2, h2) :: r2) (rs' := []) (lo := l) (b := true) (ys := ((l, n) :: (l2, h2) :: r2).map pr) (v := .ref 0) (by rw [List.length_cons, List.length_cons]; lia) rfl (fun X M hm => dz M hm hl e _ _ (lB M hm hp (by lia))) (by rw [List.length_map, List.length_cons, List.length_cons]; lia)
     exact Cc.freeze (H := []) (gar := [.list (((l, n) :: (l2, h2) :: r2).map pr)]) (i := 0) z rfl (ib _)
  · have ea : k8 ((l, h) :: r) n = (n, n) :: (l, h) :: r := by show (if h = n - 1 then (l, n) :: r else (n, n) :: (l, h) :: r) = _; rw [if_neg e]
    rw [ea]
    have hh : h < n := hh
    have hp : ∀ p ∈ (l, h) :: r, p.2 < n - 1 ∧ p.1 ≤ n + 1 := fun p hp => by
     have a1 := hd.all p hp
     have a2 := ha p hp
     rcases mC hp with rfl | q
     · dsimp only at a1 a2 ⊢; lia
     · have := hd.2.1 p q; have := hd.1; lia
    have z := dA (w := w) (n := n) (rs := (l, h) :: r) (rs' := []) (lo := n) (b := true) (ys := ((n, n) :: (l, h) :: r).map pr) (v := .ref 0) (by rw [List.length_cons]; lia) rfl (fun X M hm => lB M hm hp (by lia)) (by rw [List.length_map, List.length_cons, List.length_cons]; lia)
    exact Cc.freeze (H := []) (gar := [.list (((n, n) :: (l, h) :: r).map pr)]) (i := 0) z rfl (ib _)
theorem E5 {rs : List (Int × Int)} {n : Int} {H : List O} (hd : C3 rs) (ha : I3 rs n) (hz : rs.length < 900) : Cc w 62 (.ref 815) H [Rv rs, .int n] (Rv (k8 rs n)) H := by
 refine Cc.any (gar := []) ?_ (I5 _) (by show (l0 (Rv _) && true) = true; rw [I5]; rfl) H
 exact e6 (n := 30) (d8 (w := w) (d := 31) (l := [(822, fun H vs => (Rv (k8 rs n), H))])) (by decide) (as := []) (as' := []) (ob := [Cc w 32 (.ref 822) [] [Rv rs, .int n, .int n] (Rv (k8 rs n)) []]) (by kernel_rfl) (.mk (aK hd ha hz) .nil)
theorem eL {rs : List (Int × Int)} {n : Int} (hd : C3 rs) (ha : I3 rs n) : C3 (k8 rs n) ∧ I3 (k8 rs n) (n + 1) := by
 match rs, hd, ha with
 | [], _, _ => exact ⟨⟨Int.le_refl _, (fun p hp => by cases hp), trivial⟩, fun p hp => by rw [nM hp]; dsimp only; lia⟩
 | (l, h) :: r, hd, ha =>
  have hh : h < n := ha _ (.head _)
  have hl := hd.1
  unfold k8
  dsimp only
  split
  · rename_i e
    refine ⟨⟨by lia, hd.2.1, hd.2.2⟩, fun p hp => ?_⟩
    rcases mC hp with rfl | hp
    · dsimp only; lia
    · have := ha p (.tail _ hp); lia
  · rename_i e
    refine ⟨⟨Int.le_refl _, fun p hp => ?_, hd⟩, fun p hp => ?_⟩
    · rcases mC hp with rfl | hp
      · dsimp only; lia
      · have := hd.2.1 p hp; lia
    · rcases mC hp with rfl | hp
      · dsimp only; lia
      · have := ha p hp; lia
theorem aN {rs : List (Int × Int)} {n : Int} : (k8 rs n).length ≤ rs.length + 1 := by
 unfold k8
 split
 · exact Nat.le_refl 1
 · split <;> simp
end
section
variable {w : World} {X : Cf} {σ σ' σ'' : St} {κ : Kt}
theorem x9 (M : Mt X κ) (hm : Rm X 61) {e : Stmt} {fl : Fl} {fr fr' : List (Str × V)} {hp hp' : List O} {as as' : List (Nat × Nat × Bool)} {ob : List Prop} (h : (rn Tz 60).s1 κ e ⟨fr, hp, as, []⟩ = some (fl, ⟨fr', hp', as', ob⟩)) (ho : All ob) : E1 w X ⟨fr, hp⟩ e fl ⟨fr', hp'⟩ := p8 (d7 (d := 0)) (by decide) M hm h ho
theorem pC (M : Mt X κ) (hm : Rm X 61) {e : List Stmt} {fl : Fl} {fr fr' : List (Str × V)} {hp hp' : List O} {as as' : List (Nat × Nat × Bool)} {ob : List Prop} (h : (rn Tz 60).ss κ e ⟨fr, hp, as, []⟩ = some (fl, ⟨fr', hp', as', ob⟩)) (ho : All ob) : Ex w X ⟨fr, hp⟩ e fl ⟨fr', hp'⟩ := U3 (d7 (d := 0)) (by decide) M hm h ho
theorem pB (M : Mt X κ) (hm : Rm X 61) {e : Expr} {b : Bool} {fr fr' : List (Str × V)} {hp hp' : List O} {as as' : List (Nat × Nat × Bool)} {ob : List Prop} (h : (rn Tz 60).te κ e ⟨fr, hp, as, []⟩ = some (b, ⟨fr', hp', as', ob⟩)) (ho : All ob) : Te w X ⟨fr, hp⟩ e b ⟨fr', hp'⟩ := gZ (d7 (d := 0)) (by decide) M hm h ho
theorem eO (M : Mt X κ) (hm : Rm X 61) {e : Expr} {v : V} {fr fr' : List (Str × V)} {hp hp' : List O} {as as' : List (Nat × Nat × Bool)} {ob : List Prop} (h : (rn Tz 60).ev κ e ⟨fr, hp, as, []⟩ = some (v, ⟨fr', hp', as', ob⟩)) (ho : All ob) : Ev w X ⟨fr, hp⟩ e v ⟨fr', hp'⟩ := y8 (d7 (d := 0)) (by decide) M hm h ho
theorem Ah (M : Mt X κ) (hm : Rm X 61) {e : Expr} {v : V} {fr fr' : List (Str × V)} {hp hp' : List O} {as as' : List (Nat × Nat × Bool)} {ob : List Prop} (h : (rn Tz 60).asg κ e v ⟨fr, hp, as, []⟩ = some ⟨fr', hp', as', ob⟩) (ho : All ob) : As w X ⟨fr, hp⟩ e v ⟨fr', hp'⟩ := ci (d7 (d := 0)) (by decide) M hm h ho
theorem B4 (M : Mt X κ) (hm : Rm X 61) {e : Expr} {v : V} {fr fr' : List (Str × V)} {hp hp' : List O} (h : (rn Tz 60).ev κ e ⟨fr, hp, [], []⟩ = some (v, ⟨fr', hp', [], []⟩)) : Ev w X ⟨fr, hp⟩ e v ⟨fr', hp'⟩ := eO M hm h .nil
theorem X5 (M : Mt X κ) (hm : Rm X 61) {e : Expr} {v : V} {fr fr' : List (Str × V)} {hp hp' : List O} (h : (rn Tz 60).asg κ e v ⟨fr, hp, [], []⟩ = some ⟨fr', hp', [], []⟩) : As w X ⟨fr, hp⟩ e v ⟨fr', hp'⟩ := Ah M hm h .nil
theorem k9 (M : Mt X κ) (hm : Rm X 61) {e : Stmt} {fl : Fl} {fr fr' : List (Str × V)} {hp hp' : List O} (h : (rn Tz 60).s1 κ e ⟨fr, hp, [], []⟩ = some (fl, ⟨fr', hp', [], []⟩)) : E1 w X ⟨fr, hp⟩ e fl ⟨fr', hp'⟩ := x9 M hm h .nil
theorem y_ss (M : Mt X κ) (hm : Rm X 61) {e : List Stmt} {fl : Fl} {fr fr' : List (Str × V)} {hp hp' : List O} (h : (rn Tz 60).ss κ e ⟨fr, hp, [], []⟩ = some (fl, ⟨fr', hp', [], []⟩)) : Ex w X ⟨fr, hp⟩ e fl ⟨fr', hp'⟩ := pC M hm h .nil
theorem X4 (M : Mt X κ) (hm : Rm X 61) {e : Expr} {b : Bool} {fr fr' : List (Str × V)} {hp hp' : List O} (h : (rn Tz 60).te κ e ⟨fr, hp, [], []⟩ = some (b, ⟨fr', hp', [], []⟩)) : Te w X ⟨fr, hp⟩ e b ⟨fr', hp'⟩ := pB M hm h .nil
structure Ap where
 rs : List (Int × Int)
 ls : Option Int
 lt : Option Int
 fu : Option Int
 un : Int
 wn : Bool
 hn : Bool
 m0 : Int
 m1 : Int
 m2 : Int
noncomputable def oV : Option Int -> V
 | none => .none
 | some n => .int n
def Ap.D (a : Ap) : List (Str × V) := spD "application" 19 (Rv a.rs) (oV a.ls) (oV a.lt) (oV a.fu) a.un a.wn a.hn
noncomputable def Ap.E (a : Ap) : O := .list [.int a.m0, .int a.m1, .int a.m2]
def Ap.H (a : Ap) (bx : List V) (dg : Int) (pv : Bool) (rc : Int) (hs : List (Str × V)) (e1 : O) (tl : List O) : List O := HS bx dg pv rc hs e1 a.D a.E ++ tl
noncomputable def iO (ls : Option Int) (n : Int) : Bool := match ls with
 | none => false
 | some s => !(n == s + 1)
def onR (a : Ap) (n now : Int) (asks : Bool) (mk : Int) : Ap where
 rs := k8 a.rs n
 ls := some n
 lt := some now
 fu := bif asks then some (a.fu.getD now) else a.fu
 un := bif asks then a.un + 1 else a.un
 wn := bif asks then (iO a.ls n || decide (a.un + 1 ≥ 2) || (mk == 3) || a.wn) else a.wn
 hn := true
 m0 := if mk = 2 then a.m0 + 1 else a.m0
 m1 := if mk = 1 then a.m1 + 1 else a.m1
 m2 := if mk = 3 then a.m2 + 1 else a.m2
abbrev orK : Kt := ⟨Y2.1.names, [], false⟩
noncomputable def orF (n now : Int) (asks : Bool) (mk : Int) : List (Str × V) := [("mark", .int mk), ("has_eliciting", .bool asks), ("now", .int now), ("number", .int n), ("self", .ref 18)]
def orG (g : Bool) (n now : Int) (asks : Bool) (mk : Int) : List (Str × V) := ("is_gap", .bool g) :: orF n now asks mk
variable {bx : List V} {dg : Int} {pv : Bool} {rc : Int} {hs : List (Str × V)} {e1 : O} {tl : List O}
theorem or_0 (M : Mt X orK) (hm : Rm X 61) (a : Ap) (n now : Int) (asks : Bool) (mk : Int) : E1 w X ⟨orF n now asks mk, a.H bx dg pv rc hs e1 tl⟩ (nS l7.1 0) .next ⟨orG (iO a.ls n) n now asks mk, a.H bx dg pv rc hs e1 tl⟩ := by
 obtain ⟨rs, ls, lt, fu, un, wn, hn, m0, m1, m2⟩ := a
 cases ls with
 | none => exact k9 M hm (by kernel_rfl)
 | some s => exact k9 M hm (by kernel_rfl)
theorem Ch (M : Mt X orK) (hm : Rm X 92) (a : Ap) (n now : Int) (asks g : Bool) (mk : Int) (hd : C3 a.rs) (ha : I3 a.rs n) (hz0 : a.rs.length < 900) : E1 w X ⟨orG g n now asks mk, a.H bx dg pv rc hs e1 tl⟩ (nS l7.1 1) .next ⟨("ranges", Rv (k8 a.rs n)) :: orG g n now asks mk, a.H bx dg pv rc hs e1 tl⟩ :=
 p8 (n := 30) (S := ⟨orG g n now asks mk, a.H bx dg pv rc hs e1 tl, [], []⟩) (S' := ⟨("ranges", Rv (k8 a.rs n)) :: orG g n now asks mk, a.H bx dg pv rc hs e1 tl, [], [Cc w 62 (.ref 815) (a.H bx dg pv rc hs e1 tl) [Rv a.rs, .int n] (Rv (k8 a.rs n)) (a.H bx dg pv rc hs e1 tl)]⟩) (d8 (w := w) (d := 61) (l := [(815, fun H vs => (Rv (k8 a.rs n), H))])) (by decide) M hm (by kernel_rfl) (.mk (E5 hd ha hz0) .nil)
theorem Cg (M : Mt X orK) (hm : Rm X 61) (a : Ap) (n now : Int) (asks g : Bool) (mk : Int) (hz : (k8 a.rs n).length ≤ 40) : E1 w X ⟨("ranges", Rv (k8 a.rs n)) :: orG g n now asks mk, a.H bx dg pv rc hs e1 tl⟩ (nS l7.1 2) .next ⟨("ranges", Rv (k8 a.rs n)) :: orG g n now asks mk, Ap.H { a with rs := k8 a.rs n } bx dg pv rc hs e1 tl⟩ := by
 have hl : (((k8 a.rs n).map pr).length : Int) ≤ 64 := by rw [List.length_map]; lia
 exact x9 M hm (as := [(699, 7, true)]) (as' := []) (ob := [decide ((((k8 a.rs n).map pr).length : Int) ≤ 64) = true]) (by kernel_rfl) (.mk (dT hl) .nil)
theorem Ce (M : Mt X orK) (hm : Rm X 61) (a : Ap) (n now : Int) (asks g : Bool) (mk : Int) (hz : (k8 a.rs n).length ≤ 40) : E1 w X ⟨("ranges", Rv (k8 a.rs n)) :: orG g n now asks mk, Ap.H { a with rs := k8 a.rs n } bx dg pv rc hs e1 tl⟩ (nS l7.1 3) .next ⟨orG g n now asks mk, Ap.H { a with rs := k8 a.rs n } bx dg pv rc hs e1 tl⟩ := by
 have hl : ¬ (64 : Int) < (((k8 a.rs n).map pr).length : Int) := by rw [List.length_map]; lia
 refine E1.sub (x9 (fr' := ("ranges", Rv (k8 a.rs n)) :: orG g n now asks mk) M hm (as := [(633, 11, false)]) (as' := []) (ob := [decide ((64 : Int) < (((k8 a.rs n).map pr).length : Int)) = false]) (by kernel_rfl) (.mk (dF hl) .nil)) ?_
 refine ⟨?_, ?_, ?_, ?_, ?_, ?_, trivial⟩ <;> kernel_rfl
noncomputable def Ap.mark (a : Ap) (mk : Int) : Ap := { a with m0 := if mk = 2 then a.m0 + 1 else a.m0, m1 := if mk = 1 then a.m1 + 1 else a.m1, m2 := if mk = 3 then a.m2 + 1 else a.m2 }
theorem or_4 (M : Mt X orK) (hm : Rm X 61) (a : Ap) (n now : Int) (asks g : Bool) (mk : Int) (hk : mk = 0 ∨ mk = 1 ∨ mk = 2 ∨ mk = 3) : E1 w X ⟨orG g n now asks mk, a.H bx dg pv rc hs e1 tl⟩ (nS l7.1 4) .next ⟨orG g n now asks mk, (a.mark mk).H bx dg pv rc hs e1 tl⟩ := by
 obtain ⟨rs, ls, lt, fu, un, wn, hn, m0, m1, m2⟩ := a
 rcases hk with rfl | rfl | rfl | rfl
 · exact k9 M hm (by kernel_rfl)
 · exact k9 M hm (by kernel_rfl)
 · exact k9 M hm (by kernel_rfl)
 · exact k9 M hm (by kernel_rfl)
theorem or_5 (M : Mt X orK) (hm : Rm X 61) (a : Ap) (n now : Int) (asks g : Bool) (mk : Int) (hs' : ∀ s, a.ls = some s -> s < n) : E1 w X ⟨orG g n now asks mk, a.H bx dg pv rc hs e1 tl⟩ (nS l7.1 5) .next ⟨orG g n now asks mk, Ap.H { a with ls := some n, lt := some now } bx dg pv rc hs e1 tl⟩ := by
 obtain ⟨rs, ls, lt, fu, un, wn, hn, m0, m1, m2⟩ := a
 cases ls with
 | none => exact k9 M hm (by kernel_rfl)
 | some s => exact x9 M hm (as := [(637, 40, true)]) (as' := []) (ob := [decide (s < n) = true]) (by kernel_rfl) (.mk (dT (hs' s rfl)) .nil)
theorem or_6 (M : Mt X orK) (hm : Rm X 61) (a : Ap) (n now : Int) (asks g : Bool) (mk : Int) : E1 w X ⟨orG g n now asks mk, a.H bx dg pv rc hs e1 tl⟩ (nS l7.1 6) .next ⟨orG g n now asks mk, Ap.H { a with hn := true } bx dg pv rc hs e1 tl⟩ :=
 k9 M hm (by kernel_rfl)
abbrev or7 : Stmt := nS l7.1 7
abbrev Z2 : Stmt := nS (kB or7) 2
theorem qg : nS l7.1 7 = .If (sN or7 0) [nS (kB or7) 0, nS (kB or7) 1, .If (sN Z2 0) (kB Z2) [] (sP Z2)] [] (sP or7) := by kernel_rfl
theorem or_7 (M : Mt X orK) (hm : Rm X 61) (a : Ap) (n now : Int) (asks g : Bool) (mk : Int) : E1 w X ⟨orG g n now asks mk, a.H bx dg pv rc hs e1 tl⟩ (nS l7.1 7) .next ⟨orG g n now asks mk, Ap.H { a with fu := bif asks then some (a.fu.getD now) else a.fu, un := bif asks then a.un + 1 else a.un, wn := bif asks then (g || decide (a.un + 1 ≥ 2) || (mk == 3) || a.wn) else a.wn } bx dg pv rc hs e1 tl⟩ := by
 rw [qg]
 cases asks with
 | false => exact E1.ite (X4 (b := false) (fr' := orG g n now false mk) (hp' := a.H bx dg pv rc hs e1 tl) M hm (by kernel_rfl)) (fun q => by cases q) (fun _ => .nil)
 | true =>
  refine E1.ite (X4 (b := true) (fr' := orG g n now true mk) (hp' := a.H bx dg pv rc hs e1 tl) M hm (by kernel_rfl)) (fun _ => ?_) (fun q => by cases q)
  have h0 : E1 w X ⟨orG g n now true mk, a.H bx dg pv rc hs e1 tl⟩ (nS (kB or7) 0) .next ⟨orG g n now true mk, Ap.H { a with un := a.un + 1 } bx dg pv rc hs e1 tl⟩ := k9 M hm (by kernel_rfl)
  have h1 : E1 w X ⟨orG g n now true mk, Ap.H { a with un := a.un + 1 } bx dg pv rc hs e1 tl⟩ (nS (kB or7) 1) .next ⟨orG g n now true mk, Ap.H { a with un := a.un + 1, fu := some (a.fu.getD now) } bx dg pv rc hs e1 tl⟩ := by
   obtain ⟨rs, ls, lt, fu, un, wn, hn, m0, m1, m2⟩ := a
   cases fu with
   | none => exact k9 M hm (by kernel_rfl)
   | some s => exact k9 M hm (by kernel_rfl)
  refine .cons h0 (.cons h1 (Ex.one ?_))
  have hw : Ex w X ⟨orG g n now true mk, Ap.H { a with un := a.un + 1, fu := some (a.fu.getD now) } bx dg pv rc hs e1 tl⟩ (kB Z2) .next ⟨orG g n now true mk, Ap.H { a with un := a.un + 1, fu := some (a.fu.getD now), wn := true } bx dg pv rc hs e1 tl⟩ :=
   y_ss M hm (by kernel_rfl)
  have ht : ∀ (c : Bool) (as : List (Nat × Nat × Bool)) (ob : List Prop), (rn Tz 60).te orK (sN Z2 0) ⟨orG g n now true mk, Ap.H { a with un := a.un + 1, fu := some (a.fu.getD now) } bx dg pv rc hs e1 tl, as, []⟩ = some (c, ⟨orG g n now true mk, Ap.H { a with un := a.un + 1, fu := some (a.fu.getD now) } bx dg pv rc hs e1 tl, [], ob⟩) -> All ob -> (g || decide (a.un + 1 ≥ 2) || (mk == 3)) = c →
   E1 w X ⟨orG g n now true mk, Ap.H { a with un := a.un + 1, fu := some (a.fu.getD now) } bx dg pv rc hs e1 tl⟩ (.If (sN Z2 0) (kB Z2) [] (sP Z2)) .next ⟨orG g n now true mk, Ap.H { a with fu := bif true then some (a.fu.getD now) else a.fu, un := bif true then a.un + 1 else a.un, wn := bif true then (g || decide (a.un + 1 ≥ 2) || (mk == 3) || a.wn) else a.wn } bx dg pv rc hs e1 tl⟩ := fun c as ob h ho e => by
   have z := pB (w := w) M hm h ho
   rw [e]
   cases c with
   | true => exact E1.ite z (fun _ => hw) (fun q => by cases q)
   | false => exact E1.ite z (fun q => by cases q) (fun _ => .nil)
  cases g with
  | true => exact ht true [] [] (by kernel_rfl) .nil rfl
  | false =>
   by_cases q : a.un + 1 ≥ 2
   · exact ht true [(643, 25, true)] [decide (a.un + 1 ≥ 2) = true] (by kernel_rfl) (.mk (dT q) .nil) (by rw [dT q]; rfl)
   · by_cases r : mk = 3
     · exact ht true [(643, 25, false), (643, 84, true)] [(mk == 3) = true, decide (a.un + 1 ≥ 2) = false] (by kernel_rfl) (.mk (beq_iff_eq.mpr r) (.mk (dF q) .nil)) (by rw [dF q, beq_iff_eq.mpr r]; rfl)
     · exact ht false [(643, 25, false), (643, 84, false)] [(mk == 3) = false, decide (a.un + 1 ≥ 2) = false] (by kernel_rfl) (.mk (nB r) (.mk (dF q) .nil)) (by rw [dF q, nB r]; rfl)
theorem mw : l7.1 = [nS l7.1 0, nS l7.1 1, nS l7.1 2, nS l7.1 3, nS l7.1 4, nS l7.1 5, nS l7.1 6, nS l7.1 7] := by kernel_rfl
theorem O6 {a : Ap} {n now : Int} {asks : Bool} {mk : Int} (hd : C3 a.rs) (ha : I3 a.rs n) (hz : a.rs.length < 30) (hk : mk = 0 ∨ mk = 1 ∨ mk = 2 ∨ mk = 3) (hl : ∀ s, a.ls = some s -> s < n) :
 Cc w 93 (.ref 863) (a.H bx dg pv rc hs e1 tl) [.ref 18, .int n, .int now, .bool asks, .int mk] .none ((onR a n now asks mk).H bx dg pv rc hs e1 tl) := by
 refine A6 (d7 (d := 0)) (fn := ⟨["self", "number", "now", "has_eliciting", "mark"], l7.1, Y2.1⟩) (k := 92) (by kernel_rfl) rfl fun X M hco hcs hm => ?_
 refine ⟨orG (iO a.ls n) n now asks mk, .next, ?_, .inr ⟨rfl, rfl⟩⟩
 show Ex w X ⟨orF n now asks mk, a.H bx dg pv rc hs e1 tl⟩ l7.1 _ _
 have hm1 : Rm X 61 := hm.less (by decide)
 have hz' : (k8 a.rs n).length ≤ 40 := Nat.le_trans aN (by lia)
 rw [mw]
 refine .cons (or_0 M hm1 a n now asks mk) (.cons (Ch M hm a n now asks _ mk hd ha (by lia)) (.cons (Cg M hm1 a n now asks _ mk hz') (.cons (Ce M hm1 a n now asks _ mk hz') (.cons (or_4 M hm1 _ n now asks _ mk hk) (.cons (or_5 M hm1 _ n now asks _ mk ?_) (.cons (or_6 M hm1 _ n now asks _ mk) (.cons (or_7 M hm1 _ n now asks _ mk) ?_)))))))
 · intro s e; exact hl s e
 · exact .nil
end
section
variable {w : World} {X : Cf} {σ σ' σ'' : St} {κ : Kt}
variable {dg : Int} {pv : Bool} {rc : Int} {hs : List (Str × V)} {e1 : O} {tl : List O}
theorem t7 {a : Ap} {xs : List Int} {c m : Int} (hc : 0 ≤ c) (hc2 : c < 900000) (hm : 0 < m) : Cc w 32 (.ref 994) (a.H (bxV xs c) dg pv rc hs e1 tl) [.ref 1, .int m] (.int (tk xs c m)) (a.H (bxV xs (c + 1)) dg pv rc hs e1 tl) := w7 hc hc2 hm
abbrev lfK : Kt := ⟨K2.1.names, [], false⟩
abbrev G5 : Stmt := nS q0.1 1
abbrev lfB : List Stmt := j9 G5
def lfF (rs : List (Int × Int)) (fu : Option Int) (un : Int) (wn : Bool) (n now : Int) : List (Str × V) := [("at_once", .bool wn), ("first", oV fu), ("asked", .int un), ("marks", .ref 30), ("ranges", Rv rs), ("now", .int now), ("number", .int n), ("place", .ref 18), ("box", .ref 1)]
def lfG (st kd : Int) (rs : List (Int × Int)) (fu : Option Int) (un : Int) (wn : Bool) (n now : Int) : List (Str × V) := ("step", .int st) :: ("kind", .int kd) :: lfF rs fu un wn n now
def lfI (asks : Bool) (mk st : Int) (rs : List (Int × Int)) (fu : Option Int) (un : Int) (wn : Bool) (n now : Int) : List (Str × V) := ("asks", .bool asks) :: ("mark", .int mk) :: ("step", .int st) :: lfF rs fu un wn n now
def lfJ (g asks : Bool) (mk : Int) (rs : List (Int × Int)) (fu : Option Int) (un : Int) (wn : Bool) (n now : Int) : List (Str × V) := ("is_gap", .bool g) :: ("asks", .bool asks) :: ("mark", .int mk) :: lfF rs fu un wn n now
noncomputable def stO (k : Int) : Int := if k = 0 then 2 else if k = 1 then 1 else if k = 2 then 3 else 70
noncomputable def mkO (k : Int) : Int := if k = 0 then 0 else if k = 1 then 0 else if k = 2 then 2 else if k = 3 then 1 else 3
theorem cs4 {k : Int} (h : 0 ≤ k ∧ k < 4) : k = 0 ∨ k = 1 ∨ k = 2 ∨ k = 3 := by lia
theorem cs5 {k : Int} (h : 0 ≤ k ∧ k < 5) : k = 0 ∨ k = 1 ∨ k = 2 ∨ k = 3 ∨ k = 4 := by lia
def tkS (a : Ap) (xs : List Int) (c k1 k2 : Int) (dg : Int) (pv : Bool) (rc : Int) (hs : List (Str × V)) (e1 : O) (tl : List O) : List O -> List V -> V × List O := fun _ vs => match vs with
 | [_, .int 4] => (.int k1, a.H (bxV xs (c + 1)) dg pv rc hs e1 tl)
 | _ => (.int k2, a.H (bxV xs (c + 1 + 1)) dg pv rc hs e1 tl)
theorem Ga (M : Mt X lfK) (hm : Rm X 62) (a : Ap) (xs : List Int) (c : Int) (hc : 0 ≤ c) (hc2 : c < 800000) (v : V) (rs : List (Int × Int)) (fu : Option Int) (un : Int) (wn : Bool) (n now : Int) :
 E1 w X ⟨("turn", v) :: lfF rs fu un wn n now, a.H (bxV xs c) dg pv rc hs e1 tl⟩ (nS lfB 0) .next ⟨lfG (stO (tk xs c 4)) (tk xs (c + 1) 5) rs fu un wn n (now + 40), a.H (bxV xs (c + 1 + 1)) dg pv rc hs e1 tl⟩ := by
 have key : ∀ k1, tk xs c 4 = k1 -> (rn (mkT (spG w 31 [(994, tkS a xs c k1 (tk xs (c + 1) 5) dg pv rc hs e1 tl)])) 30).s1 lfK (nS lfB 0) ⟨("turn", v) :: lfF rs fu un wn n now, a.H (bxV xs c) dg pv rc hs e1 tl, [], []⟩ = some (.next, ⟨("step", .int (stO k1)) :: ("kind", .int (tk xs (c + 1) 5)) :: ("now", .int (now + 40)) :: ("turn", v) :: lfF rs fu un wn n now, a.H (bxV xs (c + 1 + 1)) dg pv rc hs e1 tl, [], [Cc w 32 (.ref 994) (a.H (bxV xs (c + 1)) dg pv rc hs e1 tl) [.ref 1, .int 5] (.int (tk xs (c + 1) 5)) (a.H (bxV xs (c + 1 + 1)) dg pv rc hs e1 tl), Cc w 32 (.ref 994) (a.H (bxV xs c) dg pv rc hs e1 tl) [.ref 1, .int 4] (.int k1) (a.H (bxV xs (c + 1)) dg pv rc hs e1 tl)]⟩) →
  E1 w X ⟨("turn", v) :: lfF rs fu un wn n now, a.H (bxV xs c) dg pv rc hs e1 tl⟩ (nS lfB 0) .next ⟨lfG (stO k1) (tk xs (c + 1) 5) rs fu un wn n (now + 40), a.H (bxV xs (c + 1 + 1)) dg pv rc hs e1 tl⟩ := fun k1 hk h =>
  E1.sub (p8 (d8 (w := w) (d := 31)) (by decide) M (hm.less (by decide)) h (.mk (t7 (by lia) (by lia) (by decide)) (.mk (hk ▸ t7 hc (by lia) (by decide)) .nil))) (by refine ⟨?_, ?_, ?_, ?_, ?_, ?_, ?_, ?_, ?_, ?_, ?_, trivial⟩ <;> kernel_rfl)
 rcases cs4 (y6 (xs := xs) (c := c) (m := 4) (by decide)) with e | e | e | e <;> (rw [e]; exact key _ e (by kernel_rfl))
theorem FZ (M : Mt X lfK) (hm : Rm X 62) (hp : List O) (st kd : Int) (hk : 0 ≤ kd ∧ kd < 5) (rs : List (Int × Int)) (fu : Option Int) (un : Int) (wn : Bool) (n now : Int) :
 E1 w X ⟨lfG st kd rs fu un wn n now, hp⟩ (nS lfB 1) .next ⟨lfI (decide (0 < kd)) (mkO kd) st rs fu un wn (n + st) now, hp⟩ := by
 have key : ∀ kd, (rn Tz 60).s1 lfK (nS lfB 1) ⟨lfG st kd rs fu un wn n now, hp, [], []⟩ = some (.next, ⟨("number", .int (n + st)) :: ("asks", .bool (decide (0 < kd))) :: ("mark", .int (mkO kd)) :: lfG st kd rs fu un wn n now, hp, [], []⟩) →
  E1 w X ⟨lfG st kd rs fu un wn n now, hp⟩ (nS lfB 1) .next ⟨lfI (decide (0 < kd)) (mkO kd) st rs fu un wn (n + st) now, hp⟩ := fun kd h =>
  E1.sub (x9 M (hm.less (by decide)) h .nil) (by refine ⟨?_, ?_, ?_, ?_, ?_, ?_, ?_, ?_, ?_, ?_, ?_, ?_, trivial⟩ <;> kernel_rfl)
 rcases cs5 hk with rfl | rfl | rfl | rfl | rfl <;> exact key _ (by kernel_rfl)
theorem FY (M : Mt X lfK) (hm : Rm X 123) (a a' : Ap) (bx : List V) (asks : Bool) (mk st : Int) (rs : List (Int × Int)) (fu : Option Int) (un : Int) (wn : Bool) (n now : Int) (h : Cc w 93 (.ref 863) (a.H bx dg pv rc hs e1 tl) [.ref 18, .int n, .int now, .bool asks, .int mk] .none (a'.H bx dg pv rc hs e1 tl)) :
 E1 w X ⟨lfI asks mk st rs fu un wn n now, a.H bx dg pv rc hs e1 tl⟩ (nS lfB 2) .next ⟨lfI asks mk st rs fu un wn n now, a'.H bx dg pv rc hs e1 tl⟩ :=
 p8 (n := 30) (S := ⟨lfI asks mk st rs fu un wn n now, a.H bx dg pv rc hs e1 tl, [], []⟩) (S' := ⟨lfI asks mk st rs fu un wn n now, a'.H bx dg pv rc hs e1 tl, [], [Cc w 93 (.ref 863) (a.H bx dg pv rc hs e1 tl) [.ref 18, .int n, .int now, .bool asks, .int mk] .none (a'.H bx dg pv rc hs e1 tl)]⟩) (d8 (w := w) (d := 92) (l := [(863, fun _ _ => (.none, a'.H bx dg pv rc hs e1 tl))])) (by decide) M hm (by kernel_rfl) (.mk h .nil)
theorem FX (M : Mt X lfK) (hm : Rm X 61) (hp : List O) (asks : Bool) (mk st : Int) (rs : List (Int × Int)) (fu : Option Int) (un : Int) (wn : Bool) (n now : Int) (hs : st = 1 ∨ 1 < st) (hh : ∀ l h r, rs = (l, h) :: r -> h = n - st) (hz : rs.length < 900) :
 ∃ σ1, E1 w X ⟨lfI asks mk st rs fu un wn n now, hp⟩ (nS lfB 3) .next σ1 ∧ E1 w X σ1 (nS lfB 4) .next ⟨lfJ (decide (1 < st) && !rs.isEmpty) asks mk (k8 rs n) fu un wn n now, hp⟩ := by
 have fin : ∀ (g : Bool) (rs' : List (Int × Int)), E1 w X ⟨lfI asks mk st rs fu un wn n now, hp⟩ (nS lfB 3) .next ⟨("is_gap", .bool g) :: lfI asks mk st rs fu un wn n now, hp⟩ -> E1 w X ⟨("is_gap", .bool g) :: lfI asks mk st rs fu un wn n now, hp⟩ (nS lfB 4) .next ⟨("ranges", Rv rs') :: ("is_gap", .bool g) :: lfI asks mk st rs fu un wn n now, hp⟩ -> (decide (1 < st) && !rs.isEmpty) = g -> k8 rs n = rs' -> ∃ σ1, E1 w X ⟨lfI asks mk st rs fu un wn n now, hp⟩ (nS lfB 3) .next σ1 ∧ E1 w X σ1 (nS lfB 4) .next ⟨lfJ (decide (1 < st) && !rs.isEmpty) asks mk (k8 rs n) fu un wn n now, hp⟩ := fun g rs' h k e1 e2 => by
  rw [e1, e2]
  exact ⟨_, h, k.sub (by refine ⟨?_, ?_, ?_, ?_, ?_, ?_, ?_, ?_, ?_, ?_, ?_, ?_, trivial⟩ <;> kernel_rfl)⟩
 match rs, hh, hz with
 | [], _, _ =>
  have e4 : E1 w X ⟨("is_gap", .bool false) :: lfI asks mk st [] fu un wn n now, hp⟩ (nS lfB 4) .next ⟨("ranges", Rv [(n, n)]) :: ("is_gap", .bool false) :: lfI asks mk st [] fu un wn n now, hp⟩ := x9 M hm (as := []) (as' := []) (ob := [1 + 0 ≤ big]) (by kernel_rfl) (.mk (by decide) .nil)
  rcases hs with rfl | h1
  · exact fin false [(n, n)] (k9 M hm (by kernel_rfl)) e4 rfl rfl
  · exact fin false [(n, n)] (x9 M hm (as := [(740, 17, true)]) (as' := []) (ob := [decide (1 < st) = true]) (by kernel_rfl) (.mk (dT h1) .nil)) e4 (by simp) rfl
 | (l, h) :: r, hh, hz =>
  have e := hh l h r rfl
  rw [List.length_cons] at hz
  rcases hs with rfl | h1
  · refine fin false ((l, n) :: r) (k9 M hm (by kernel_rfl)) (x9 M hm (as := []) (as' := []) (ob := [1 + (r.map pr).length ≤ big]) (by kernel_rfl) (.mk (by rw [List.length_map]; show _ ≤ 100000; lia) .nil)) rfl ?_
    show (if h = n - 1 then (l, n) :: r else (n, n) :: (l, h) :: r) = _
    rw [if_pos e]
  · refine fin true ((n, n) :: (l, h) :: r) (x9 M hm (as := [(740, 17, true)]) (as' := []) (ob := [decide (1 < st) = true]) (by kernel_rfl) (.mk (dT h1) .nil)) (x9 M hm (as := []) (as' := []) (ob := [1 + (((l, h) :: r).map pr).length ≤ big]) (by kernel_rfl) (.mk (by rw [List.length_map, List.length_cons]; show _ ≤ 100000; lia) .nil)) (by rw [dT h1]; rfl) ?_
    show (if h = n - 1 then (l, n) :: r else (n, n) :: (l, h) :: r) = _
    rw [if_neg (by lia)]
noncomputable def mkL (m0 m1 m2 mk : Int) : O := .list [.int (if mk = 2 then m0 + 1 else m0), .int (if mk = 1 then m1 + 1 else m1), .int (if mk = 3 then m2 + 1 else m2)]
theorem FW (M : Mt X lfK) (hm : Rm X 61) (a : Ap) (bx : List V) (g asks : Bool) (m0 m1 m2 mk : Int) (hk : mk = 0 ∨ mk = 1 ∨ mk = 2 ∨ mk = 3) (rs : List (Int × Int)) (fu : Option Int) (un : Int) (wn : Bool) (n now : Int) :
 E1 w X ⟨lfJ g asks mk rs fu un wn n now, a.H bx dg pv rc hs e1 (.list [.int m0, .int m1, .int m2] :: tl)⟩ (nS lfB 5) .next ⟨lfJ g asks mk rs fu un wn n now, a.H bx dg pv rc hs e1 (mkL m0 m1 m2 mk :: tl)⟩ := by
 rcases hk with rfl | rfl | rfl | rfl
 · exact k9 M hm (by kernel_rfl)
 · exact E1.sub (k9 (fr' := ("spot", .int 1) :: lfJ g asks 1 rs fu un wn n now) M hm (by kernel_rfl)) (by refine ⟨?_, ?_, ?_, ?_, ?_, ?_, ?_, ?_, ?_, ?_, ?_, ?_, trivial⟩ <;> kernel_rfl)
 · exact E1.sub (k9 (fr' := ("spot", .int 0) :: lfJ g asks 2 rs fu un wn n now) M hm (by kernel_rfl)) (by refine ⟨?_, ?_, ?_, ?_, ?_, ?_, ?_, ?_, ?_, ?_, ?_, ?_, trivial⟩ <;> kernel_rfl)
 · exact E1.sub (k9 (fr' := ("spot", .int 2) :: lfJ g asks 3 rs fu un wn n now) M hm (by kernel_rfl)) (by refine ⟨?_, ?_, ?_, ?_, ?_, ?_, ?_, ?_, ?_, ?_, ?_, ?_, trivial⟩ <;> kernel_rfl)
abbrev lf6 : Stmt := nS lfB 6
theorem yW : nS lfB 6 = .If (sN lf6 0) [nS (kB lf6) 0, nS (kB lf6) 1] [] (sP lf6) := by kernel_rfl
theorem FV (M : Mt X lfK) (hm : Rm X 61) (hp : List O) (g asks : Bool) (mk : Int) (rs : List (Int × Int)) (fu : Option Int) (un : Int) (wn : Bool) (n now : Int) :
 E1 w X ⟨lfJ g asks mk rs fu un wn n now, hp⟩ (nS lfB 6) .next ⟨lfF rs (bif asks then some (fu.getD now) else fu) (bif asks then un + 1 else un) (bif asks then (g || decide (un + 1 ≥ 2) || (mk == 3) || wn) else wn) n now, hp⟩ := by
 rw [yW]
 cases asks with
 | false => exact E1.sub (E1.ite (X4 (b := false) (fr' := lfJ g false mk rs fu un wn n now) (hp' := hp) M hm (by kernel_rfl)) (fun q => by cases q) (fun _ => .nil)) (by refine ⟨?_, ?_, ?_, ?_, ?_, ?_, ?_, ?_, ?_, trivial⟩ <;> kernel_rfl)
 | true =>
  refine E1.ite (X4 (b := true) (fr' := lfJ g true mk rs fu un wn n now) (hp' := hp) M hm (by kernel_rfl)) (fun _ => ?_) (fun q => by cases q)
  have h0 : E1 w X ⟨lfJ g true mk rs fu un wn n now, hp⟩ (nS (kB lf6) 0) .next ⟨lfJ g true mk rs (some (fu.getD now)) (un + 1) wn n now, hp⟩ := by
   cases fu with
   | none => exact E1.sub (k9 (fr' := ("first", .int now) :: ("asked", .int (un + 1)) :: lfJ g true mk rs none un wn n now) M hm (by kernel_rfl)) (by refine ⟨?_, ?_, ?_, ?_, ?_, ?_, ?_, ?_, ?_, ?_, ?_, ?_, trivial⟩ <;> kernel_rfl)
   | some s => exact E1.sub (k9 (fr' := ("first", .int s) :: ("asked", .int (un + 1)) :: lfJ g true mk rs (some s) un wn n now) M hm (by kernel_rfl)) (by refine ⟨?_, ?_, ?_, ?_, ?_, ?_, ?_, ?_, ?_, ?_, ?_, ?_, trivial⟩ <;> kernel_rfl)
  have ht : ∀ (c : Bool) (as : List (Nat × Nat × Bool)) (ob : List Prop), (rn Tz 60).s1 lfK (nS (kB lf6) 1) ⟨lfJ g true mk rs (some (fu.getD now)) (un + 1) wn n now, hp, as, []⟩ = some (.next, ⟨("at_once", .bool c) :: lfJ g true mk rs (some (fu.getD now)) (un + 1) wn n now, hp, [], ob⟩) -> All ob -> (g || decide (un + 1 ≥ 2) || (mk == 3) || wn) = c →
   E1 w X ⟨lfJ g true mk rs (some (fu.getD now)) (un + 1) wn n now, hp⟩ (nS (kB lf6) 1) .next ⟨lfF rs (bif true then some (fu.getD now) else fu) (bif true then un + 1 else un) (bif true then (g || decide (un + 1 ≥ 2) || (mk == 3) || wn) else wn) n now, hp⟩ := fun c as ob h ho e => by
   rw [e]
   exact E1.sub (x9 M hm h ho) (by refine ⟨?_, ?_, ?_, ?_, ?_, ?_, ?_, ?_, ?_, trivial⟩ <;> kernel_rfl)
  refine .cons h0 (Ex.one ?_)
  cases wn with
  | true => exact ht true [] [] (by kernel_rfl) .nil (by rw [Bool.or_true])
  | false =>
   cases g with
   | true => exact ht true [] [] (by kernel_rfl) .nil rfl
   | false =>
    by_cases q : 1 < un + 1
    · exact ht true [(746, 43, true)] [decide (1 < un + 1) = true] (by kernel_rfl) (.mk (dT q) .nil) (by rw [dT (show un + 1 ≥ 2 by lia)]; rfl)
    · exact ht (mk == 3) [(746, 43, false)] [decide (1 < un + 1) = false] (by kernel_rfl) (.mk (dF q) .nil) (by rw [dF (show ¬ un + 1 ≥ 2 by lia)]; simp)
end
section
variable {w : World} {X : Cf} {σ σ' σ'' : St} {κ : Kt}
variable {dg : Int} {pv : Bool} {rc : Int} {hs : List (Str × V)} {e1 : O} {tl : List O}
structure Iv (k : Nat) (a : Ap) (n : Int) : Prop where
 d : C3 a.rs
 hd : (a.rs = [] ∧ a.ls = none ∧ k = 0) ∨ (∃ l r, a.rs = (l, n) :: r ∧ a.ls = some n ∧ a.lt = some (40 * (k : Int)) ∧ a.hn = true ∧ 0 < k)
 ps : ∀ p ∈ a.rs, 0 ≤ p.1 ∧ p.2 ≤ n
 n0 : 0 ≤ n
 n1 : n ≤ 16380 + 70 * (k : Int)
 len : a.rs.length ≤ k
 fu : ∀ f, a.fu = some f -> 40 ≤ f ∧ f ≤ 40 * (k : Int)
 mm : (0 ≤ a.m0 ∧ a.m0 ≤ k) ∧ (0 ≤ a.m1 ∧ a.m1 ≤ k) ∧ (0 ≤ a.m2 ∧ a.m2 ≤ k)
theorem Iv.step {k : Nat} {a : Ap} {n st : Int} {asks : Bool} {mk : Int} (h : Iv k a n) (hs : 1 ≤ st ∧ st ≤ 70) : Iv (k + 1) (onR a (n + st) (40 * (k : Int) + 40) asks mk) (n + st) := by
 have ab : I3 a.rs (n + st) := fun p hp => by have := h.ps p hp; lia
 obtain ⟨d1, d2⟩ := eL h.d ab
 have n0 := h.n0
 have n1 := h.n1
 obtain ⟨⟨a1, a2⟩, ⟨a3, a4⟩, ⟨a5, a6⟩⟩ := h.mm
 have hlen := h.len
 refine ⟨d1, .inr ?_, ?_, by lia, by push_cast; lia, Nat.le_trans aN (by lia), ?_, ?_⟩
 · have e : ∃ l r, k8 a.rs (n + st) = (l, n + st) :: r := by
    unfold k8
    split
    · exact ⟨_, _, rfl⟩
    · split <;> exact ⟨_, _, rfl⟩
   obtain ⟨l, r, e⟩ := e
   exact ⟨l, r, e, rfl, by show some (40 * (k : Int) + 40) = some (40 * ((k + 1 : Nat) : Int)); push_cast; rw [Int.mul_add]; rfl, rfl, Nat.succ_pos k⟩
 · intro p hp
   have hb : p.2 < n + st + 1 := d2 p hp
   refine ⟨?_, by lia⟩
   have hp : p ∈ k8 a.rs (n + st) := hp
   unfold k8 at hp
   split at hp
   · rw [nM hp]; dsimp only; lia
   · rename_i l hh r e
     have z := h.ps (l, hh) (by rw [e]; exact .head _)
     split at hp
     · rcases mC hp with rfl | hp
       · exact z.1
       · exact (h.ps p (by rw [e]; exact .tail _ hp)).1
     · rcases mC hp with rfl | hp
       · dsimp only; lia
       · exact (h.ps p (by rw [e]; exact hp)).1
 · intro f hf
   have hf : (bif asks then some (a.fu.getD (40 * (k : Int) + 40)) else a.fu) = some f := hf
   cases asks with
   | false => have := h.fu f hf; push_cast; lia
   | true =>
    cases q : a.fu with
    | none => rw [q] at hf; obtain rfl := Option.some.inj hf; show 40 ≤ 40 * (k : Int) + 40 ∧ 40 * (k : Int) + 40 ≤ 40 * ((k + 1 : Nat) : Int); push_cast; constructor <;> lia
    | some g => rw [q] at hf; obtain rfl := Option.some.inj hf; have := h.fu _ q; show 40 ≤ g ∧ g ≤ 40 * ((k + 1 : Nat) : Int); push_cast; constructor <;> lia
 · refine ⟨?_, ?_, ?_⟩
   · show 0 ≤ (if mk = 2 then a.m0 + 1 else a.m0) ∧ (if mk = 2 then a.m0 + 1 else a.m0) ≤ ((k + 1 : Nat) : Int)
     split <;> (push_cast; lia)
   · show 0 ≤ (if mk = 1 then a.m1 + 1 else a.m1) ∧ (if mk = 1 then a.m1 + 1 else a.m1) ≤ ((k + 1 : Nat) : Int)
     split <;> (push_cast; lia)
   · show 0 ≤ (if mk = 3 then a.m2 + 1 else a.m2) ∧ (if mk = 3 then a.m2 + 1 else a.m2) ≤ ((k + 1 : Nat) : Int)
     split <;> (push_cast; lia)
theorem ff (k : Int) : stO k = 2 ∨ stO k = 1 ∨ stO k = 3 ∨ stO k = 70 := by
 unfold stO; split
 · exact .inl rfl
 · split
   · exact .inr (.inl rfl)
   · split
     · exact .inr (.inr (.inl rfl))
     · exact .inr (.inr (.inr rfl))
theorem yG (k : Int) : mkO k = 0 ∨ mkO k = 1 ∨ mkO k = 2 ∨ mkO k = 3 := by
 unfold mkO; split
 · exact .inl rfl
 · split
   · exact .inl rfl
   · split
     · exact .inr (.inr (.inl rfl))
     · split
       · exact .inr (.inl rfl)
       · exact .inr (.inr (.inr rfl))
theorem yV : lfB = [nS lfB 0, nS lfB 1, nS lfB 2, nS lfB 3, nS lfB 4, nS lfB 5, nS lfB 6] := by kernel_rfl
def C8 (xs : List Int) (k : Nat) (a : Ap) (n c : Int) : Ap := onR a (n + stO (tk xs c 4)) (40 * (k : Int) + 40) (decide (0 < tk xs (c + 1) 5)) (mkO (tk xs (c + 1) 5))
def w1 (xs : List Int) : Nat -> Nat -> Ap -> Int -> Int -> Ap × Int × Int
 | 0, _, a, n, c => (a, n, c)
 | m + 1, k, a, n, c => w1 xs m (k + 1) (C8 xs k a n c) (n + stO (tk xs c 4)) (c + 1 + 1)
theorem Iv.turn {xs : List Int} {k : Nat} {a : Ap} {n c : Int} (h : Iv k a n) : Iv (k + 1) (C8 xs k a n c) (n + stO (tk xs c 4)) := h.step (by have := ff (tk xs c 4); lia)
theorem Iv.loop {xs : List Int} : ∀ (m : Nat) {k : Nat} {a : Ap} {n c : Int}, Iv k a n -> 0 ≤ c -> Iv (k + m) (w1 xs m k a n c).1 (w1 xs m k a n c).2.1 ∧ 0 ≤ (w1 xs m k a n c).2.2
 | 0, _, _, _, _, h, hc => ⟨h, hc⟩
 | m + 1, k, a, n, c, h, hc => by
  have z := Iv.loop (xs := xs) m (h.turn (xs := xs) (c := c)) (show 0 ≤ c + 1 + 1 by lia)
  rw [show k + 1 + m = k + (m + 1) by lia] at z
  exact z
theorem mR (M : Mt X lfK) (hm : Rm X 123) {k : Nat} {a : Ap} {n c : Int} {xs : List Int} (h : Iv k a n) (hk : k < 30) (hc : 0 ≤ c) (hc2 : c < 700000) (v : V) :
 Ex w X ⟨("turn", v) :: lfF a.rs a.fu a.un a.wn n (40 * (k : Int)), a.H (bxV xs c) dg pv rc hs e1 [a.E]⟩ lfB .next ⟨lfF (C8 xs k a n c).rs (C8 xs k a n c).fu (C8 xs k a n c).un (C8 xs k a n c).wn (n + stO (tk xs c 4)) (40 * ((k + 1 : Nat) : Int)), (C8 xs k a n c).H (bxV xs (c + 1 + 1)) dg pv rc hs e1 [(C8 xs k a n c).E]⟩ := by
 unfold C8
 have hm1 : Rm X 62 := hm.less (by decide)
 have hm2 : Rm X 61 := hm.less (by decide)
 have hr := y6 (xs := xs) (c := c + 1) (m := 5) (by decide)
 have hst := ff (tk xs c 4)
 have hmk := yG (tk xs (c + 1) 5)
 generalize hs1 : stO (tk xs c 4) = st at hst ⊢
 generalize hk1 : tk xs (c + 1) 5 = kd at hr hmk ⊢
 have hst2 : 1 ≤ st ∧ st ≤ 70 := by lia
 have en : 40 * ((k + 1 : Nat) : Int) = 40 * (k : Int) + 40 := by push_cast; lia
 have ab : I3 a.rs (n + st) := fun p hp => by have := h.ps p hp; lia
 rw [en, yV]
 have t0 := Ga (w := w) (dg := dg) (pv := pv) (rc := rc) (hs := hs) (e1 := e1) (tl := [a.E]) M hm1 a xs c hc (by lia) v a.rs a.fu a.un a.wn n (40 * (k : Int))
 rw [hs1, hk1] at t0
 have t1 := FZ (w := w) M hm1 (a.H (bxV xs (c + 1 + 1)) dg pv rc hs e1 [a.E]) st kd hr a.rs a.fu a.un a.wn n (40 * (k : Int) + 40)
 have hl : ∀ s, a.ls = some s -> s < n + st := fun s hs => by
  rcases h.hd with ⟨_, e, _⟩ | ⟨l, r, _, e, _⟩
  · rw [e] at hs; cases hs
  · rw [e] at hs; cases hs; lia
 have oc := O6 (w := w) (bx := bxV xs (c + 1 + 1)) (dg := dg) (pv := pv) (rc := rc) (hs := hs) (e1 := e1) (tl := [a.E]) (a := a) (n := n + st) (now := 40 * (k : Int) + 40) (asks := decide (0 < kd)) (mk := mkO kd) h.d ab (by have := h.len; lia) hmk hl
 have t2 := FY M hm a _ (bxV xs (c + 1 + 1)) (decide (0 < kd)) (mkO kd) st a.rs a.fu a.un a.wn (n + st) (40 * (k : Int) + 40) oc
 obtain ⟨σ1, t3, t4⟩ := FX (w := w) M hm2 ((onR a (n + st) (40 * (k : Int) + 40) (decide (0 < kd)) (mkO kd)).H (bxV xs (c + 1 + 1)) dg pv rc hs e1 [a.E]) (decide (0 < kd)) (mkO kd) st a.rs a.fu a.un a.wn (n + st) (40 * (k : Int) + 40) (by lia) (fun l hh r e => by
  rcases h.hd with ⟨e2, _⟩ | ⟨l2, r2, e2, _⟩
  · rw [e2] at e; cases e
  · rw [e2] at e; cases e; lia) (by have := h.len; lia)
 have t5 := FW (w := w) (dg := dg) (pv := pv) (rc := rc) (hs := hs) (e1 := e1) (tl := []) M hm2 (onR a (n + st) (40 * (k : Int) + 40) (decide (0 < kd)) (mkO kd)) (bxV xs (c + 1 + 1)) (decide (1 < st) && !a.rs.isEmpty) (decide (0 < kd)) a.m0 a.m1 a.m2 (mkO kd) hmk (k8 a.rs (n + st)) a.fu a.un a.wn (n + st) (40 * (k : Int) + 40)
 have t6 := FV (w := w) M hm2 ((onR a (n + st) (40 * (k : Int) + 40) (decide (0 < kd)) (mkO kd)).H (bxV xs (c + 1 + 1)) dg pv rc hs e1 [mkL a.m0 a.m1 a.m2 (mkO kd)]) (decide (1 < st) && !a.rs.isEmpty) (decide (0 < kd)) (mkO kd) (k8 a.rs (n + st)) a.fu a.un a.wn (n + st) (40 * (k : Int) + 40)
 have eg : (decide (1 < st) && !a.rs.isEmpty) = iO a.ls (n + st) := by
  rcases h.hd with ⟨e2, e3, _⟩ | ⟨l2, r2, e2, e3, _⟩
  · rw [e2, e3]; simp [iO]
  · rw [e2, e3]
    show (decide (1 < st) && true) = !(n + st == n + 1)
    rw [Bool.and_true]
    by_cases q : 1 < st
    · rw [dT q, nB (by lia)]; rfl
    · rw [dF q, beq_iff_eq.mpr (by lia)]; rfl
 rw [eg] at t4 t5 t6
 exact .cons t0 (.cons t1 (.cons t2 (.cons t3 (.cons t4 (.cons t5 (.cons t6 .nil))))))
theorem yU (M : Mt X lfK) (hm : Rm X 123) (rs : List (Int × Int)) (fu : Option Int) (un : Int) (wn : Bool) (n now : Int) (hp : List O) (v : V) : As w X ⟨lfF rs fu un wn n now, hp⟩ (p7 G5) v ⟨("turn", v) :: lfF rs fu un wn n now, hp⟩ :=
 X5 M (hm.less (by decide)) (by kernel_rfl)
theorem cz (M : Mt X lfK) (hm : Rm X 123) {xs : List Int} : ∀ (vs : List V) (k : Nat) (a : Ap) (n c : Int), Iv k a n -> k + vs.length < 30 -> 0 ≤ c -> c + 2 * vs.length < 700000 →
 Lp w X (p7 G5) lfB vs ⟨lfF a.rs a.fu a.un a.wn n (40 * (k : Int)), a.H (bxV xs c) dg pv rc hs e1 [a.E]⟩ .next ⟨lfF (w1 xs vs.length k a n c).1.rs (w1 xs vs.length k a n c).1.fu (w1 xs vs.length k a n c).1.un (w1 xs vs.length k a n c).1.wn (w1 xs vs.length k a n c).2.1 (40 * ((k + vs.length : Nat) : Int)), (w1 xs vs.length k a n c).1.H (bxV xs (w1 xs vs.length k a n c).2.2) dg pv rc hs e1 [(w1 xs vs.length k a n c).1.E]⟩
 | [], k, a, n, c, h, _, hc, _ => .done
 | v :: vs, k, a, n, c, h, hk, hc, hc2 => by
  rw [List.length_cons] at hk hc2
  have h1 := mR (w := w) (dg := dg) (pv := pv) (rc := rc) (hs := hs) (e1 := e1) (xs := xs) M hm h (by lia) hc (by lia) v
  have h2 := cz M hm (xs := xs) vs (k + 1) _ _ (c + 1 + 1) (h.turn (xs := xs) (c := c)) (by lia) (by lia) (by push_cast at hc2; lia)
  rw [List.length_cons]
  rw [show k + 1 + vs.length = k + (vs.length + 1) by lia] at h2
  exact .step (yU M hm _ _ _ _ _ _ _ v) h1 (.inl rfl) h2
noncomputable def a00 : Ap := ⟨[], none, none, none, 0, false, false, 0, 0, 0⟩
theorem mT : q0.1 = [nS q0.1 0, .For (p7 G5) (r6 G5) lfB [] (D1 G5), nS q0.1 2] := by kernel_rfl
noncomputable def n0O (k : Int) : Int := if k = 0 then 0 else if k = 1 then 50 else if k = 2 then 60 else 16380
theorem lf_0 (M : Mt X lfK) (hm : Rm X 62) (xs : List Int) (c : Int) (hc : 0 ≤ c) (hc2 : c < 700000) :
 E1 w X ⟨[("place", .ref 18), ("box", .ref 1)], a00.H (bxV xs c) dg pv rc hs e1 []⟩ (nS q0.1 0) .next ⟨lfF [] none 0 false (n0O (tk xs c 4)) 0, a00.H (bxV xs (c + 1)) dg pv rc hs e1 [a00.E]⟩ := by
 have key : ∀ k1, tk xs c 4 = k1 -> (rn (mkT (spG w 31 [(994, fun _ _ => (.int k1, a00.H (bxV xs (c + 1)) dg pv rc hs e1 []))])) 30).s1 lfK (nS q0.1 0) ⟨[("place", .ref 18), ("box", .ref 1)], a00.H (bxV xs c) dg pv rc hs e1 [], [], []⟩ = some (.next, ⟨lfF [] none 0 false (n0O k1) 0, a00.H (bxV xs (c + 1)) dg pv rc hs e1 [a00.E], [], [Cc w 32 (.ref 994) (a00.H (bxV xs c) dg pv rc hs e1 []) [.ref 1, .int 4] (.int k1) (a00.H (bxV xs (c + 1)) dg pv rc hs e1 [])]⟩) →
  E1 w X ⟨[("place", .ref 18), ("box", .ref 1)], a00.H (bxV xs c) dg pv rc hs e1 []⟩ (nS q0.1 0) .next ⟨lfF [] none 0 false (n0O k1) 0, a00.H (bxV xs (c + 1)) dg pv rc hs e1 [a00.E]⟩ := fun k1 hk h =>
  p8 (d8 (w := w) (d := 31)) (by decide) M (hm.less (by decide)) h (.mk (hk ▸ t7 hc (by lia) (by decide)) .nil)
 rcases cs4 (y6 (xs := xs) (c := c) (m := 4) (by decide)) with e | e | e | e <;> (rw [e]; exact key _ e (by kernel_rfl))
theorem mS (M : Mt X lfK) (hm : Rm X 62) (xs : List Int) (c : Int) (hc : 0 ≤ c) (hc2 : c < 700000) (n : Int) :
 Ev w X ⟨lfF [] none 0 false n 0, a00.H (bxV xs c) dg pv rc hs e1 [a00.E]⟩ (r6 G5) (.rng 0 (1 + tk xs c 18) 1) ⟨lfF [] none 0 false n 0, a00.H (bxV xs (c + 1)) dg pv rc hs e1 [a00.E]⟩ :=
 y8 (n := 30) (S := ⟨lfF [] none 0 false n 0, a00.H (bxV xs c) dg pv rc hs e1 [a00.E], [], []⟩) (S' := ⟨lfF [] none 0 false n 0, a00.H (bxV xs (c + 1)) dg pv rc hs e1 [a00.E], [], [Cc w 32 (.ref 994) (a00.H (bxV xs c) dg pv rc hs e1 [a00.E]) [.ref 1, .int 18] (.int (tk xs c 18)) (a00.H (bxV xs (c + 1)) dg pv rc hs e1 [a00.E])]⟩) (d8 (w := w) (d := 31) (l := [(994, fun _ _ => (.int (tk xs c 18), a00.H (bxV xs (c + 1)) dg pv rc hs e1 [a00.E]))])) (by decide) M (hm.less (by decide)) (by kernel_rfl) (.mk (t7 hc (by lia) (by decide)) .nil)
def JK (P : Nat -> Prop) : Nat -> Prop
 | 0 => True
 | k + 1 => JK P k ∧ P k
theorem Ad {P : Nat -> Prop} : ∀ {k : Nat}, JK P k -> ∀ {n : Nat}, n < k -> P n
 | 0, _, _, e => absurd e (Nat.not_lt_zero _)
 | k + 1, h, n, e => (Nat.lt_succ_iff_lt_or_eq.mp e).elim (fun q => Ad h.1 q) fun q => q ▸ h.2
theorem pW {t : Int} (h : 0 ≤ t ∧ t < 18) : ∃ vs, u9 (.rng 0 (1 + t) 1) = some vs ∧ vs.length = (1 + t).toNat := by
 have e : t = ((t.toNat : Nat) : Int) := (Int.toNat_of_nonneg h.1).symm
 have k := Ad (P := fun n : Nat => (u9 (.rng 0 (1 + (n : Int)) 1)).any (fun vs => Nat.beq vs.length (1 + (n : Int)).toNat) = true) (k := 18) (by repeat' (first | exact trivial | refine And.intro ?_ (by show _ = _; kernel_rfl))) (n := t.toNat) (by lia)
 rw [← e] at k
 cases q : u9 (.rng 0 (1 + t) 1) with
 | none => rw [q] at k; cases k
 | some vs => rw [q] at k; exact ⟨vs, rfl, Nat.eq_of_beq_eq_true k⟩
def H6 (xs : List Int) (c : Int) : Nat := (1 + tk xs (c + 1) 18).toNat
def v4 (xs : List Int) (c : Int) : Ap × Int × Int := w1 xs (H6 xs c) 0 a00 (n0O (tk xs c 4)) (c + 1 + 1)
theorem lE (k : Int) : Iv 0 a00 (n0O k) := by
 have hn : 0 ≤ n0O k ∧ n0O k ≤ 16380 := by
  unfold n0O; split
  · lia
  · split
    · lia
    · split <;> lia
 refine ⟨trivial, .inl ⟨rfl, rfl, rfl⟩, (fun p hp => by cases hp), hn.1, by have := hn.2; lia, Nat.le_refl _, (fun f hf => by cases hf), ?_⟩
 exact ⟨⟨Int.le_refl _, Int.le_refl _⟩, ⟨Int.le_refl _, Int.le_refl _⟩, ⟨Int.le_refl _, Int.le_refl _⟩⟩
theorem nx (xs : List Int) (c : Int) (hc : 0 ≤ c) : Iv (H6 xs c) (v4 xs c).1 (v4 xs c).2.1 ∧ 0 ≤ (v4 xs c).2.2 ∧ 1 ≤ H6 xs c ∧ H6 xs c ≤ 18 := by
 have h := Iv.loop (xs := xs) (H6 xs c) (lE (tk xs c 4)) (show 0 ≤ c + 1 + 1 by lia)
 rw [Nat.zero_add] at h
 have := y6 (xs := xs) (c := c + 1) (m := 18) (by decide)
 refine ⟨h.1, h.2, ?_, ?_⟩ <;> (unfold H6; lia)
theorem bg (xs : List Int) (c : Int) (hc : 0 ≤ c) (hc2 : c < 600000) :
 Cc w 125 (.ref 1023) (a00.H (bxV xs c) dg pv rc hs e1 []) [.ref 1, .ref 18] (.tup [Rv (v4 xs c).1.rs, .ref 30, .int (40 * (H6 xs c : Int)), oV (v4 xs c).1.fu, .bool (v4 xs c).1.wn]) ((v4 xs c).1.H (bxV xs (v4 xs c).2.2) dg pv rc hs e1 [(v4 xs c).1.E]) := by
 have A := d7 (w := w) (d := 0)
 refine A6 A (fn := ⟨["box", "place"], q0.1, K2.1⟩) (k := 124) (by kernel_rfl) rfl fun X M hco hcs hm => ?_
 refine ⟨lfF (v4 xs c).1.rs (v4 xs c).1.fu (v4 xs c).1.un (v4 xs c).1.wn (v4 xs c).2.1 (40 * (H6 xs c : Int)), .ret _, ?_, .inl rfl⟩
 show Ex w X ⟨[("place", .ref 18), ("box", .ref 1)], a00.H (bxV xs c) dg pv rc hs e1 []⟩ q0.1 _ _
 rw [mT]
 obtain ⟨vs, hv, hl⟩ := pW (y6 (xs := xs) (c := c + 1) (m := 18) (by decide))
 have h0 := lf_0 (w := w) (dg := dg) (pv := pv) (rc := rc) (hs := hs) (e1 := e1) M (hm.less (by decide)) xs c hc (by lia)
 have hi := mS (w := w) (dg := dg) (pv := pv) (rc := rc) (hs := hs) (e1 := e1) M (hm.less (by decide)) xs (c + 1) (by lia) (by lia) (n0O (tk xs c 4))
 have ht := y6 (xs := xs) (c := c + 1) (m := 18) (by decide)
 have hlp := cz (w := w) (dg := dg) (pv := pv) (rc := rc) (hs := hs) (e1 := e1) (xs := xs) M (hm.less (by decide)) vs 0 a00 (n0O (tk xs c 4)) (c + 1 + 1) (lE _) (by lia) (by lia) (by lia)
 rw [Nat.zero_add, hl] at hlp
 have h1 := E1.for (w := w) (pos := D1 G5) hco hi hv hlp (by kernel_rfl)
 refine .cons h0 (.cons h1 (.stop ?_ (by intro q; cases q)))
 exact k9 M (hm.less (by decide)) (by kernel_rfl)
end
section
variable {w : World} {X : Cf} {σ σ' σ'' : St} {κ : Kt}
theorem Cc.freezeT {k i : Nat} {f : Value} {H gar : List O} {vs xs : List V} {x y : V} (h : Cc w k f H vs (.tup [x, y, .ref (H.length + i)]) (H ++ gar)) (hg : gar[i]? = some (.list xs)) (hv : n7 xs = true) (hx : l0 x = true) (hy : l0 y = true) : Cc w k f H vs (.tup [x, y, .lst xs]) H := fun X fr G s us hd ho hus R hq => by
 refine h X fr G s us hd ho hus R fun G' u s' l k hu e => ?_
 obtain ⟨t, ts, tn, rfl, ht, ⟨u1, _, rfl, r1, u2, _, rfl, r2, u3, _, rfl, ⟨a, ha, rfl⟩, rfl⟩, hz0⟩ := hu
 obtain ⟨a', ob, ha', hob, us', nn, rfl, hus', hz⟩ := k.at (l := H.length + i) (o := .list xs) (by show (H ++ gar)[H.length + i]? = _; rw [List.getElem?_append_right (Nat.le_add_right _ _), Nat.add_sub_cancel_left]; exact hg)
 obtain rfl : a = a' := by rw [ha] at ha'; exact Option.some.inj ha'
 have c : Cut G G' ⟨[(a, listOf us'.toArray nn)] ++ G'.κ, G.ρ, G'.θ⟩ := ⟨l.lk, fun p hp => aR hp, rfl⟩
 refine hq ⟨[(a, listOf us'.toArray nn)] ++ G'.κ, G.ρ, G'.θ⟩ _ s' ⟨fun p hp => aR (l.k p hp), ⟨[], (List.append_nil _).symm⟩, l.t⟩ (ho.cut k l (fun p hp => ?_)) ⟨t, _, tn, rfl, ht.cut c, ⟨_, _, rfl, RV.nr c hx r1, _, _, rfl, RV.nr c hy r2, _, _, rfl, ⟨a, us', nn, rfl, .inl (.head _), RVs.nr c hv hus'.rvs, hz⟩, rfl⟩, hz0⟩ e
 rw [nM hp]
 exact ⟨⟨i, ha⟩, hob⟩
noncomputable def j8 : Int -> List (Int × Int) -> List (Int × Int)
 | _, [] => []
 | lo, (l, h) :: r => (lo - h - 2, h - l) :: j8 l r
theorem M3 : ∀ (lo : Int) (rs : List (Int × Int)), (j8 lo rs).length = rs.length
 | _, [] => rfl
 | lo, (l, h) :: r => by show (j8 l r).length + 1 = r.length + 1; rw [M3 l r]
abbrev goK : Kt := ⟨fH.1.names, [], false⟩
abbrev B1 : Stmt := nS J2.1 2
def goF (be lo hi : Int) (rs : List (Int × Int)) : List (Str × V) := [("before", .int be), ("found", .ref 0), ("low", .int lo), ("high", .int hi), ("ranges", Rv rs)]
theorem nb : J2.1 = [nS J2.1 0, nS J2.1 1, .For (.Name "one" (p7 B1).pos) (r6 B1) (j9 B1) [] (D1 B1), nS J2.1 3] := by kernel_rfl
theorem cQ (M : Mt X goK) (hm : Rm X 61) {lo hi : Int} {all : List (Int × Int)} : ∀ (rs : List (Int × Int)) (be : Int) (xs : List V), xs.length + rs.length < 1000 →
 Lp w X (.Name "one" (p7 B1).pos) (j9 B1) (rs.map pr) ⟨goF be lo hi all, [.list xs]⟩ .next ⟨goF (j7 be rs) lo hi all, [.list (xs ++ (j8 be rs).map pr)]⟩
 | [], be, xs, _ => by rw [show (j8 be []).map pr = [] from rfl, List.append_nil]; exact .done
 | (l, h) :: rs, be, xs, hz => by
  rw [List.length_cons] at hz
  have hA : As w X ⟨goF be lo hi all, [.list xs]⟩ (.Name "one" (p7 B1).pos) (pr (l, h)) ⟨("one", pr (l, h)) :: goF be lo hi all, [.list xs]⟩ := X5 M hm (by kernel_rfl)
  have hB : Ex w X ⟨("one", pr (l, h)) :: goF be lo hi all, [.list xs]⟩ (j9 B1) .next ⟨("before", .int l) :: ("one", pr (l, h)) :: goF be lo hi all, [.list (xs ++ [pr (be - h - 2, h - l)])]⟩ := pC M hm (as := []) (as' := []) (ob := [xs.length < big]) (by kernel_rfl) (.mk (by show _ < 100000; lia) .nil)
  refine .step hA (hB.sub (fr0 := goF l lo hi all) (by refine ⟨?_, ?_, ?_, ?_, ?_, trivial⟩ <;> kernel_rfl)) (.inl rfl) ?_
  have := cQ M hm (lo := lo) (hi := hi) (all := all) rs l (xs ++ [pr (be - h - 2, h - l)]) (by rw [List.length_append]; show _ + 1 + _ < _; lia)
  rw [List.append_assoc] at this
  exact this
theorem dU {lo hi : Int} {rest : List (Int × Int)} {H : List O} (hz : rest.length < 900) : Cc w 62 (.ref 90) H [Rv ((lo, hi) :: rest)] (.tup [.int hi, .int (hi - lo), Rv (j8 lo rest)]) H := by
 refine Cc.any (gar := []) ?_ (by show (true && (true && (l0 (Rv _) && true))) = true; rw [I5]; rfl) (by show (l0 (Rv _) && true) = true; rw [I5]; rfl) H
 refine Cc.freezeT (H := []) (gar := [.list ((j8 lo rest).map pr)]) (i := 0) ?_ rfl (ib _) rfl rfl
 refine A6 (d7 (d := 0)) (fn := ⟨["ranges"], J2.1, fH.1⟩) (k := 61) (by kernel_rfl) rfl fun X M hco hcs hm => ?_
 refine ⟨goF (j7 lo rest) lo hi ((lo, hi) :: rest), .ret _, ?_, .inl rfl⟩
 show Ex w X ⟨[("ranges", Rv ((lo, hi) :: rest))], []⟩ J2.1 _ _
 rw [nb]
 have h0 : E1 w X ⟨[("ranges", Rv ((lo, hi) :: rest))], []⟩ (nS J2.1 0) .next ⟨[("high", .int hi), ("low", .int lo), ("ranges", Rv ((lo, hi) :: rest))], []⟩ := k9 M hm (by kernel_rfl)
 have h1 : E1 w X ⟨[("high", .int hi), ("low", .int lo), ("ranges", Rv ((lo, hi) :: rest))], []⟩ (nS J2.1 1) .next ⟨goF lo lo hi ((lo, hi) :: rest), [.list []]⟩ :=
  E1.sub (k9 (fr' := [("found", .ref 0), ("before", .int lo), ("high", .int hi), ("low", .int lo), ("ranges", Rv ((lo, hi) :: rest))]) M hm (by kernel_rfl)) (by refine ⟨?_, ?_, ?_, ?_, ?_, trivial⟩ <;> kernel_rfl)
 have hi2 : Ev w X ⟨goF lo lo hi ((lo, hi) :: rest), [.list []]⟩ (r6 B1) (.lst (rest.map pr)) ⟨goF lo lo hi ((lo, hi) :: rest), [.list []]⟩ := B4 M hm (by kernel_rfl)
 have h2 := E1.for (w := w) (pos := D1 B1) hco hi2 rfl (cQ M hm (lo := lo) (hi := hi) (all := (lo, hi) :: rest) rest lo [] (by show 0 + _ < _; lia)) (by kernel_rfl)
 refine .cons h0 (.cons h1 (.cons h2 (.stop ?_ (by intro e; cases e))))
 exact k9 M hm (by kernel_rfl)
def vsG : List O -> List V -> V × List O := fun H vs => match vs with
 | [.int n] => (.int ((oct n : Nat) : Int), H)
 | _ => (.none, H)
abbrev Tv (w : World) : Tb := mkT (spG w 30 [(76, vsG)])
theorem lF : TOk w 30 (Tv w) := d8
theorem P3 {n : Int} {H : List O} (h : Vn n) : Cc w 31 (.ref 76) H [.int n] (.int ((oct n : Nat) : Int)) H := A5 h.1 h.2
def A2 (room : Int) : Int -> Int -> List (Int × Int) -> Int
 | _, many, [] => many
 | size, many, (g, l) :: r => if size + ((oct g : Int) + oct l) + oct many > room then many else A2 room (size + ((oct g : Int) + oct l)) (many + 1) r
def n6 (d lo hi : Int) : Int := (oct hi : Int) + oct d + oct (hi - lo)
def bv (d : Int) (rs : List (Int × Int)) (room : Int) : List (Int × Int) := match rs with
 | [] => []
 | (lo, hi) :: rest => if n6 d lo hi + 1 > room then [] else ((lo, hi) :: rest).take (A2 room (n6 d lo hi) 1 (j8 lo rest)).toNat
abbrev ftK : Kt := ⟨fG.1.names, [], false⟩
abbrev z8 : Stmt := nS y5.1 4
def ftF (size many d lo hi room : Int) (rest : List (Int × Int)) : List (Str × V) := [("size", .int size), ("many", .int many), ("used", .int (n6 d lo hi)), ("pairs", Rv (j8 lo rest)), ("first", .int (hi - lo)), ("largest", .int hi), ("room", .int room), ("ranges", Rv ((lo, hi) :: rest)), ("delay", .int d)]
abbrev ftR : Expr := sN (nS y5.1 5) 0
abbrev ftS : Expr := eN ftR 1
abbrev ftI : Expr := eN ftS 1
theorem nv : y5.1 = [nS y5.1 0, nS y5.1 1, nS y5.1 2, nS y5.1 3, .For (p7 z8) (r6 z8) (j9 z8) [] (D1 z8), .Return (some (.Call (.Name "list" (eN ftR 0).pos) [.Subscript (eN ftS 0) (.Slice none (some (eN ftI 0)) none ftI.pos) ftS.pos] [] ftR.pos)) (sP (nS y5.1 5))] := by kernel_rfl
theorem iU (M : Mt X ftK) (hm : Rm X 61) {size many d lo hi room g l : Int} {rest : List (Int × Int)} : As w X ⟨ftF size many d lo hi room rest, []⟩ (p7 z8) (pr (g, l)) ⟨("length", .int l) :: ("gap", .int g) :: ftF size many d lo hi room rest, []⟩ := X5 M hm (by kernel_rfl)
theorem dc (M : Mt X ftK) (hm : Rm X 61) {d lo hi room : Int} {rest : List (Int × Int)} : ∀ (ps : List (Int × Int)) (size many : Int), (∀ p ∈ ps, Vn p.1 ∧ Vn p.2) -> 0 ≤ many -> many + ps.length < 1000 →
 ∃ size', Lp w X (p7 z8) (j9 z8) (ps.map pr) ⟨ftF size many d lo hi room rest, []⟩ .next ⟨ftF size' (A2 room size many ps) d lo hi room rest, []⟩
 | [], size, many, _, _, _ => ⟨size, .done⟩
 | (g, l) :: ps, size, many, hv, h0, hz => by
  rw [List.length_cons] at hz
  obtain ⟨v1, v2⟩ := hv _ (.head _)
  have hob : ∀ (b : Bool), decide (room < size + ((oct g : Int) + oct l) + oct many) = b -> All [decide (room < size + ((oct g : Int) + oct l) + oct many) = b, Cc w 31 (.ref 76) [] [.int many] (.int ((oct many : Nat) : Int)) [], Cc w 31 (.ref 76) [] [.int l] (.int ((oct l : Nat) : Int)) [], Cc w 31 (.ref 76) [] [.int g] (.int ((oct g : Nat) : Int)) []] := fun b hb =>
   .mk hb (.mk (P3 ⟨h0, by lia⟩) (.mk (P3 v2) (.mk (P3 v1) .nil)))
  by_cases q : size + ((oct g : Int) + oct l) + oct many > room
  · have hB : Ex w X ⟨("length", .int l) :: ("gap", .int g) :: ftF size many d lo hi room rest, []⟩ (j9 z8) .brk ⟨("size", .int (size + ((oct g : Int) + oct l))) :: ("length", .int l) :: ("gap", .int g) :: ftF size many d lo hi room rest, []⟩ :=
     U3 (n := 30) (S := ⟨("length", .int l) :: ("gap", .int g) :: ftF size many d lo hi room rest, [], [(56, 11, true)], []⟩) (S' := ⟨("size", .int (size + ((oct g : Int) + oct l))) :: ("length", .int l) :: ("gap", .int g) :: ftF size many d lo hi room rest, [], [], _⟩) lF (by decide) M hm (by kernel_rfl) (hob true (dT q))
    refine ⟨size + ((oct g : Int) + oct l), ?_⟩
    rw [show A2 room size many ((g, l) :: ps) = many from if_pos q]
    exact .brk (iU M hm) (hB.sub (by refine ⟨?_, ?_, ?_, ?_, ?_, ?_, ?_, ?_, ?_, trivial⟩ <;> kernel_rfl))
  · have hB : Ex w X ⟨("length", .int l) :: ("gap", .int g) :: ftF size many d lo hi room rest, []⟩ (j9 z8) .next ⟨("many", .int (many + 1)) :: ("size", .int (size + ((oct g : Int) + oct l))) :: ("length", .int l) :: ("gap", .int g) :: ftF size many d lo hi room rest, []⟩ :=
     U3 (n := 30) (S := ⟨("length", .int l) :: ("gap", .int g) :: ftF size many d lo hi room rest, [], [(56, 11, false)], []⟩) (S' := ⟨("many", .int (many + 1)) :: ("size", .int (size + ((oct g : Int) + oct l))) :: ("length", .int l) :: ("gap", .int g) :: ftF size many d lo hi room rest, [], [], _⟩) lF (by decide) M hm (by kernel_rfl) (hob false (dF q))
    obtain ⟨size', h⟩ := dc M hm (d := d) (lo := lo) (hi := hi) (room := room) (rest := rest) ps (size + ((oct g : Int) + oct l)) (many + 1) (fun p hp => hv p (.tail _ hp)) (by lia) (by lia)
    refine ⟨size', ?_⟩
    rw [show A2 room size many ((g, l) :: ps) = A2 room (size + ((oct g : Int) + oct l)) (many + 1) ps from if_neg q]
    exact .step (iU M hm) (hB.sub (by refine ⟨?_, ?_, ?_, ?_, ?_, ?_, ?_, ?_, ?_, trivial⟩ <;> kernel_rfl)) (.inl rfl) h
theorem df (room : Int) : ∀ (ps : List (Int × Int)) (size many : Int), 0 ≤ many -> 0 ≤ A2 room size many ps
 | [], _, _, h => h
 | (g, l) :: ps, size, many, h => by
  unfold A2
  split
  · exact h
  · exact df room ps _ _ (by lia)
theorem dY {d lo hi room : Int} {rest : List (Int × Int)} {H : List O} (hz : rest.length < 900) (h1 : Vn hi) (h2 : Vn d) (h3 : Vn (hi - lo)) (hp : ∀ p ∈ j8 lo rest, Vn p.1 ∧ Vn p.2) : Cc w 93 (.ref 97) H [.int d, Rv ((lo, hi) :: rest), .int room] (Rv (bv d ((lo, hi) :: rest) room)) H := by
 refine Cc.any (gar := []) ?_ (I5 _) (by show (true && (l0 (Rv _) && (true && true))) = true; rw [I5]; rfl) H
 refine A6 (d7 (d := 0)) (fn := ⟨["delay", "ranges", "room"], y5.1, fG.1⟩) (k := 92) (by kernel_rfl) rfl fun X M hco hcs hm => ?_
 have hm1 : Rm X 61 := hm.less (by decide)
 show ∃ fr' fl, Ex w X ⟨[("room", .int room), ("ranges", Rv ((lo, hi) :: rest)), ("delay", .int d)], []⟩ y5.1 fl ⟨fr', []⟩ ∧ _
 rw [nv]
 have h0 : E1 w X ⟨[("room", .int room), ("ranges", Rv ((lo, hi) :: rest)), ("delay", .int d)], []⟩ (nS y5.1 0) .next ⟨[("pairs", Rv (j8 lo rest)), ("first", .int (hi - lo)), ("largest", .int hi), ("room", .int room), ("ranges", Rv ((lo, hi) :: rest)), ("delay", .int d)], []⟩ :=
  p8 (n := 30) (S := ⟨[("room", .int room), ("ranges", Rv ((lo, hi) :: rest)), ("delay", .int d)], [], [], []⟩) (S' := ⟨[("pairs", Rv (j8 lo rest)), ("first", .int (hi - lo)), ("largest", .int hi), ("room", .int room), ("ranges", Rv ((lo, hi) :: rest)), ("delay", .int d)], [], [], [Cc w 62 (.ref 90) [] [Rv ((lo, hi) :: rest)] (.tup [.int hi, .int (hi - lo), Rv (j8 lo rest)]) []]⟩) (d8 (w := w) (d := 61) (l := [(90, fun _ _ => (.tup [.int hi, .int (hi - lo), Rv (j8 lo rest)], []))])) (by decide) M hm (by kernel_rfl) (.mk (dU hz) .nil)
 have e1 : E1 w X ⟨[("pairs", Rv (j8 lo rest)), ("first", .int (hi - lo)), ("largest", .int hi), ("room", .int room), ("ranges", Rv ((lo, hi) :: rest)), ("delay", .int d)], []⟩ (nS y5.1 1) .next ⟨[("used", .int (n6 d lo hi)), ("pairs", Rv (j8 lo rest)), ("first", .int (hi - lo)), ("largest", .int hi), ("room", .int room), ("ranges", Rv ((lo, hi) :: rest)), ("delay", .int d)], []⟩ :=
  p8 (n := 30) (S := ⟨[("pairs", Rv (j8 lo rest)), ("first", .int (hi - lo)), ("largest", .int hi), ("room", .int room), ("ranges", Rv ((lo, hi) :: rest)), ("delay", .int d)], [], [], []⟩) (S' := ⟨[("used", .int (n6 d lo hi)), ("pairs", Rv (j8 lo rest)), ("first", .int (hi - lo)), ("largest", .int hi), ("room", .int room), ("ranges", Rv ((lo, hi) :: rest)), ("delay", .int d)], [], [], [Cc w 31 (.ref 76) [] [.int (hi - lo)] (.int ((oct (hi - lo) : Nat) : Int)) [], Cc w 31 (.ref 76) [] [.int d] (.int ((oct d : Nat) : Int)) [], Cc w 31 (.ref 76) [] [.int hi] (.int ((oct hi : Nat) : Int)) []]⟩) lF (by decide) M hm1 (by kernel_rfl) (.mk (P3 h3) (.mk (P3 h2) (.mk (P3 h1) .nil)))
 have e2 : E1 w X ⟨[("used", .int (n6 d lo hi)), ("pairs", Rv (j8 lo rest)), ("first", .int (hi - lo)), ("largest", .int hi), ("room", .int room), ("ranges", Rv ((lo, hi) :: rest)), ("delay", .int d)], []⟩ (nS y5.1 2) .next ⟨ftF (n6 d lo hi) 1 d lo hi room rest, []⟩ :=
  E1.sub (k9 (fr' := ("many", .int 1) :: ("size", .int (n6 d lo hi)) :: [("used", .int (n6 d lo hi)), ("pairs", Rv (j8 lo rest)), ("first", .int (hi - lo)), ("largest", .int hi), ("room", .int room), ("ranges", Rv ((lo, hi) :: rest)), ("delay", .int d)]) M hm1 (by kernel_rfl)) (by refine ⟨?_, ?_, ?_, ?_, ?_, ?_, ?_, ?_, ?_, trivial⟩ <;> kernel_rfl)
 by_cases q : n6 d lo hi + 1 > room
 · have e3 : E1 w X ⟨ftF (n6 d lo hi) 1 d lo hi room rest, []⟩ (nS y5.1 3) (.ret (.lst [])) ⟨ftF (n6 d lo hi) 1 d lo hi room rest, []⟩ := x9 M hm1 (as := [(52, 7, true)]) (as' := []) (ob := [decide (room < n6 d lo hi + 1) = true]) (by kernel_rfl) (.mk (dT q) .nil)
   rw [show bv d ((lo, hi) :: rest) room = [] from if_pos q]
   exact ⟨_, _, .cons h0 (.cons e1 (.cons e2 (.stop e3 (by intro z; cases z)))), .inl rfl⟩
 · have e3 : E1 w X ⟨ftF (n6 d lo hi) 1 d lo hi room rest, []⟩ (nS y5.1 3) .next ⟨ftF (n6 d lo hi) 1 d lo hi room rest, []⟩ := x9 M hm1 (as := [(52, 7, false)]) (as' := []) (ob := [decide (room < n6 d lo hi + 1) = false]) (by kernel_rfl) (.mk (dF q) .nil)
   rw [show bv d ((lo, hi) :: rest) room = ((lo, hi) :: rest).take (A2 room (n6 d lo hi) 1 (j8 lo rest)).toNat from if_neg q]
   have hi2 : Ev w X ⟨ftF (n6 d lo hi) 1 d lo hi room rest, []⟩ (r6 z8) (.lst ((j8 lo rest).map pr)) ⟨ftF (n6 d lo hi) 1 d lo hi room rest, []⟩ := B4 M hm1 (by kernel_rfl)
   obtain ⟨size', hl⟩ := dc (w := w) M hm1 (d := d) (lo := lo) (hi := hi) (room := room) (rest := rest) (j8 lo rest) (n6 d lo hi) 1 hp (by decide) (by rw [M3]; lia)
   have e4 := E1.for (w := w) (pos := D1 z8) hco hi2 rfl hl (by kernel_rfl)
   have nn := df room (j8 lo rest) (n6 d lo hi) 1 (by decide)
   generalize A2 room (n6 d lo hi) 1 (j8 lo rest) = many at e4 nn ⊢
   have ea : Ev w X ⟨ftF size' many d lo hi room rest, []⟩ (eN ftS 0) (.lst (((lo, hi) :: rest).map pr)) ⟨ftF size' many d lo hi room rest, []⟩ := B4 M hm1 (by kernel_rfl)
   have eb : Ev w X ⟨ftF size' many d lo hi room rest, []⟩ (eN ftI 0) (.int many) ⟨ftF size' many d lo hi room rest, []⟩ := B4 M hm1 (by kernel_rfl)
   obtain ⟨x, y, b1, b2⟩ := E0 (xs := ((lo, hi) :: rest).map pr) (ys := (((lo, hi) :: rest).map pr).take many.toNat) (lo := none) (hi := some many) (by unfold jg; dsimp only; rw [dT nn]; rfl)
   have es := Ev.slice (w := w) (p := ftI.pos) (pos := ftS.pos) ea Pt.no (Pt.at eb) rfl b1
   rw [← b2] at es
   have ec := Ev.callN (w := w) (k := 1) (X := X) (Ev.nmT M (x := "list") (p := (eN ftR 0).pos) (c := .val (.type "list")) (fr := ftF size' many d lo hi room rest) (hp := []) (by kernel_rfl)) (Es.cons es .nil (g0 rfl)) (pos := ftR.pos) (bf rfl) (hm.less (by decide)) (.inr (.inr ⟨_, rfl⟩)) rfl
   rw [show Rv (((lo, hi) :: rest).take many.toNat) = V.lst ((((lo, hi) :: rest).map pr).take many.toNat) by unfold Rv; rw [List.map_take]]
   exact ⟨_, _, .cons h0 (.cons e1 (.cons e2 (.cons e3 (.cons e4 (.stop (E1.ret ec) (by intro z; cases z)))))), .inl rfl⟩
end
section
variable {w : World} {X : Cf} {σ σ' σ'' : St} {κ : Kt}
theorem V5 {n : Int} {H : List O} : Cc w 62 (.ref 1006) H [.int n] (.int ((oct n : Nat) : Int)) H := by
 refine Cc.any (gar := []) ?_ rfl rfl H
 unfold oct
 by_cases a1 : n < 64
 · rw [if_pos a1]
   exact e6 (n := 61) (d7 (d := 0)) (by decide) (as := [(724, 16, true)]) (as' := []) (ob := [decide (n < 64) = true]) (by kernel_rfl) (.mk (dT a1) .nil)
 · rw [if_neg a1]
   by_cases a2 : n < 16384
   · rw [if_pos a2]
     exact e6 (n := 61) (d7 (d := 0)) (by decide) (as := [(724, 16, false), (724, 38, true)]) (as' := []) (ob := [decide (n < 16384) = true, decide (n < 64) = false]) (by kernel_rfl) (.mk (dT a2) (.mk (dF a1) .nil))
   · rw [if_neg a2]
     by_cases a3 : n < 2 ^ 30
     · rw [if_pos a3]
       exact e6 (n := 61) (d7 (d := 0)) (by decide) (as := [(724, 16, false), (724, 38, false), (724, 63, true)]) (as' := []) (ob := [decide (n < 2 ^ 30) = true, decide (n < 16384) = false, decide (n < 64) = false]) (by kernel_rfl) (.mk (dT a3) (.mk (dF a2) (.mk (dF a1) .nil)))
     · rw [if_neg a3]
       exact e6 (n := 61) (d7 (d := 0)) (by decide) (as := [(724, 16, false), (724, 38, false), (724, 63, false)]) (as' := []) (ob := [decide (n < 2 ^ 30) = false, decide (n < 16384) = false, decide (n < 64) = false]) (by kernel_rfl) (.mk (dF a3) (.mk (dF a2) (.mk (dF a1) .nil)))
abbrev lzK : Kt := ⟨K4.1.names, [], false⟩
abbrev A7 : Stmt := nS u6.1 1
abbrev lzR : Expr := sN (nS u6.1 2) 0
abbrev lzS : Expr := eN lzR 1
abbrev lzL : Expr := eN lzS 1
theorem mG : u6.1 = [nS u6.1 0, .For (p7 A7) (r6 A7) (j9 A7) [] (D1 A7), .Return (some (.BinOp (eN lzR 0) .Add (.Call (.Name "sum" (eN lzS 0).pos) [.ListComp (U9 lzL) [⟨.Name "number" (pNm (ba lzL)), D4 lzL, [], 0⟩] (pSc lzL) (U8 lzL)] [] lzS.pos) lzR.pos)) (sP (nS u6.1 2))] := by kernel_rfl
def lzF (ns : List Int) (be lo hi d : Int) (rest : List (Int × Int)) (mk : V) : List (Str × V) := [("numbers", .lst (ns.map .int)), ("before", .int be), ("marks", mk), ("delay", .int d), ("ranges", Rv ((lo, hi) :: rest))]
theorem mF (ns : List Int) (a b : Int) : ns.map V.int ++ [.int a, .int b] = (ns ++ [a, b]).map V.int := by rw [List.map_append]; rfl
theorem cv (M : Mt X lzK) (hm : Rm X 61) {lo hi d : Int} {rest : List (Int × Int)} {mk : V} {hp : List O} : ∀ (rs : List (Int × Int)) (be : Int) (ns : List Int), ns.length + 2 * rs.length < 1000 →
 Lp w X (p7 A7) (j9 A7) (rs.map pr) ⟨lzF ns be lo hi d rest mk, hp⟩ .next ⟨lzF (ns ++ m9 be rs) (j7 be rs) lo hi d rest mk, hp⟩
 | [], be, ns, _ => by rw [show m9 be [] = [] from rfl, List.append_nil]; exact .done
 | (l, h) :: rs, be, ns, hz => by
  rw [List.length_cons] at hz
  have hA : As w X ⟨lzF ns be lo hi d rest mk, hp⟩ (p7 A7) (pr (l, h)) ⟨("high", .int h) :: ("low", .int l) :: lzF ns be lo hi d rest mk, hp⟩ := X5 M hm (by kernel_rfl)
  have hB : Ex w X ⟨("high", .int h) :: ("low", .int l) :: lzF ns be lo hi d rest mk, hp⟩ (j9 A7) .next ⟨("before", .int l) :: ("numbers", .lst (ns.map .int ++ [.int (be - h - 2), .int (h - l)])) :: ("high", .int h) :: ("low", .int l) :: lzF ns be lo hi d rest mk, hp⟩ := pC M hm (as := []) (as' := []) (ob := [(ns.map V.int).length + 2 ≤ big]) (by kernel_rfl) (.mk (by rw [List.length_map]; show _ ≤ 100000; lia) .nil)
  rw [mF] at hB
  refine .step hA (hB.sub (fr0 := lzF (ns ++ [be - h - 2, h - l]) l lo hi d rest mk) (by refine ⟨?_, ?_, ?_, ?_, ?_, trivial⟩ <;> kernel_rfl)) (.inl rfl) ?_
  have := cv M hm (lo := lo) (hi := hi) (d := d) (rest := rest) (mk := mk) (hp := hp) rs l (ns ++ [be - h - 2, h - l]) (by rw [List.length_append]; show _ + 2 + _ < _; lia)
  rw [List.append_assoc] at this
  exact this
theorem cw (X : Cf) (hm : Rm X 92) (M : ∀ cl C m, Mt (X.comp (pSc lzL) cl [] C m) (inner lzK (pSc lzL))) {hp : List O} : ∀ (ns : List Int) cl, Cm w X (pSc lzL) cl [] none (U9 lzL) "number" (ns.map .int) hp (ns.map fun n => .int ((oct n : Nat) : Int)) hp
 | [], cl => .done
 | n :: ns, cl => by
  refine .yes (σ₁ := ⟨[("number", .int n)], hp⟩) (σ₂ := ⟨[("number", .int n)], hp⟩) (fun C m => ⟨rfl, rfl⟩) (fun C m => ?_) (cw X hm M ns cl)
  exact y8 (n := 30) (S := ⟨[("number", .int n)], hp, [], []⟩) (S' := ⟨[("number", .int n)], hp, [], [Cc w 62 (.ref 1006) hp [.int n] (.int ((oct n : Nat) : Int)) hp]⟩) (d8 (w := w) (d := 61) (l := [(1006, vsG)])) (by decide) (M cl C m) hm (by kernel_rfl) (.mk V5 .nil)
theorem iH (ns : List Int) : p3 (ns.map fun n => V.int ((oct n : Nat) : Int)) = some (ns.map fun n => ((oct n : Nat) : Int)) := by
 induction ns with
 | nil => rfl
 | cons n ns ih => rw [List.map_cons, List.map_cons]; unfold p3; rw [ih]
theorem eY (ns : List Int) : (ns.map fun n => ((oct n : Nat) : Int)).sum = ((k7 ns).sum : Nat) := by
 induction ns with
 | nil => rfl
 | cons n ns ih => rw [List.map_cons, List.sum_cons, ih]; show _ = (((oct n + (k7 ns).sum : Nat)) : Int); push_cast; rfl
def lzN (d : Int) (rs : List (Int × Int)) : List Int := match rs with
 | [] => []
 | (lo, hi) :: rest => [hi, d, (((rest.length + 1 : Nat) : Int) - 1), hi - lo] ++ m9 lo rest
noncomputable def mks (m0 m1 m2 : Int) : List Int := if 0 < [m0, m1, m2].sum then [m0, m1, m2] else []
def t8 (d : Int) (rs : List (Int × Int)) (ms : List Int) : Int := 1 + (((k7 (lzN d rs ++ ms)).sum : Nat) : Int)
section
variable {dg : Int} {pv : Bool} {rc : Int} {hs : List (Str × V)} {e1 : O} {tl : List O} {a : Ap} {bx : List V}
theorem L7 {d lo hi : Int} {rest : List (Int × Int)} {m0 m1 m2 : Int} (hz : rest.length < 100) :
 Cc w 93 (.ref 1011) (a.H bx dg pv rc hs e1 (.list [.int m0, .int m1, .int m2] :: tl)) [Rv ((lo, hi) :: rest), .int d, .ref 30] (.int (t8 d ((lo, hi) :: rest) (mks m0 m1 m2))) (a.H bx dg pv rc hs e1 (.list [.int m0, .int m1, .int m2] :: tl)) := by
 refine A6 (d7 (d := 0)) (fn := ⟨["ranges", "delay", "marks"], u6.1, K4.1⟩) (k := 92) (by kernel_rfl) rfl fun X M hco hcs hm => ?_
 have hm1 : Rm X 61 := hm.less (by decide)
 generalize hH : a.H bx dg pv rc hs e1 (.list [.int m0, .int m1, .int m2] :: tl) = H
 refine ⟨lzF (lzN d ((lo, hi) :: rest)) (j7 lo rest) lo hi d rest (.ref 30), .ret _, ?_, .inl rfl⟩
 show Ex w X ⟨[("marks", .ref 30), ("delay", .int d), ("ranges", Rv ((lo, hi) :: rest))], H⟩ u6.1 _ _
 rw [mG]
 have h0 : E1 w X ⟨[("marks", .ref 30), ("delay", .int d), ("ranges", Rv ((lo, hi) :: rest))], H⟩ (nS u6.1 0) .next ⟨lzF [hi, d, (((rest.map pr).length + 1 : Nat) : Int) - 1, hi - lo] lo lo hi d rest (.ref 30), H⟩ := k9 M hm1 (by kernel_rfl)
 rw [List.length_map] at h0
 have hi2 : Ev w X ⟨lzF [hi, d, ((rest.length + 1 : Nat) : Int) - 1, hi - lo] lo lo hi d rest (.ref 30), H⟩ (r6 A7) (.lst (rest.map pr)) ⟨lzF [hi, d, ((rest.length + 1 : Nat) : Int) - 1, hi - lo] lo lo hi d rest (.ref 30), H⟩ := B4 M hm1 (by kernel_rfl)
 have h1 := E1.for (w := w) (pos := D1 A7) hco hi2 rfl (cv M hm1 (lo := lo) (hi := hi) (d := d) (rest := rest) (mk := .ref 30) (hp := H) rest lo [hi, d, ((rest.length + 1 : Nat) : Int) - 1, hi - lo] (by show 4 + _ < _; lia)) (by kernel_rfl)
 refine .cons h0 (.cons h1 (.stop (E1.ret ?_) (by intro q; cases q)))
 show Ev w X ⟨lzF (lzN d ((lo, hi) :: rest)) (j7 lo rest) lo hi d rest (.ref 30), H⟩ _ _ _
 have hlen : (lzN d ((lo, hi) :: rest)).length ≤ 300 := by show ([hi, d, (((rest.length + 1 : Nat) : Int) - 1), hi - lo] ++ m9 lo rest).length ≤ 300; rw [List.length_append, w2]; show 4 + _ ≤ 300; lia
 rw [show t8 d ((lo, hi) :: rest) (mks m0 m1 m2) = 1 + (((k7 (lzN d ((lo, hi) :: rest) ++ mks m0 m1 m2)).sum : Nat) : Int) from rfl]
 generalize lzN d ((lo, hi) :: rest) = ns at hlen ⊢
 have hk : y7 (pSc lzL) "number" = true := by kernel_rfl
 have hM := D9 (scope := pSc lzL) M rfl (y7.all hk).2.1
 have ri : Ev w X ⟨lzF ns (j7 lo rest) lo hi d rest (.ref 30), H⟩ (D4 lzL) (.lst ((ns ++ mks m0 m1 m2).map .int)) ⟨lzF ns (j7 lo rest) lo hi d rest (.ref 30), H⟩ := by
  subst hH
  unfold mks
  rw [List.map_append]
  by_cases q : 0 < [m0, m1, m2].sum
  · rw [if_pos q]
    exact eO M hm1 (as := [(730, 74, true)]) (as' := []) (ob := [(ns.map V.int).length + 3 ≤ big, decide (0 < [m0, m1, m2].sum) = true]) (by kernel_rfl) (.mk (by rw [List.length_map]; show _ ≤ 100000; lia) (.mk (dT q) .nil))
  · rw [if_neg q]
    exact eO M hm1 (as := [(730, 74, false)]) (as' := []) (ob := [(ns.map V.int).length + 0 ≤ big, decide (0 < [m0, m1, m2].sum) = false]) (by kernel_rfl) (.mk (by rw [List.length_map]; show _ ≤ 100000; lia) (.mk (dF q) .nil))
 have e1' : Ev w X ⟨lzF ns (j7 lo rest) lo hi d rest (.ref 30), H⟩ (eN lzR 0) (.int 1) ⟨lzF ns (j7 lo rest) lo hi d rest (.ref 30), H⟩ := B4 M hm1 (by kernel_rfl)
 have rcm : Ev w X ⟨lzF ns (j7 lo rest) lo hi d rest (.ref 30), H⟩ (.ListComp (U9 lzL) [⟨.Name "number" (pNm (ba lzL)), D4 lzL, [], 0⟩] (pSc lzL) (U8 lzL)) (.lst ((ns ++ mks m0 m1 m2).map fun n => .int ((oct n : Nat) : Int))) ⟨lzF ns (j7 lo rest) lo hi d rest (.ref 30), H⟩ :=
  Ev.comp (ct := none) (cf := []) hco ri rfl (.inl ⟨_, rfl⟩) (fun cl => cw X hm hM _ cl) (by kernel_rfl) hk (by rw [M.cf]; kernel_rfl) fun x v e => by cases e
 have ec := Ev.callN (w := w) (k := 1) (X := X) (Ev.nmT M (x := "sum") (p := (eN lzS 0).pos) (c := .val (.builtin "sum")) (fr := lzF ns (j7 lo rest) lo hi d rest (.ref 30)) (hp := H) (by kernel_rfl)) (Es.cons rcm .nil (g0 rfl)) (pos := lzS.pos) (oB rfl (iH _)) (hm.less (by decide)) (.inr (.inl ⟨_, rfl⟩)) rfl
 rw [eY] at ec
 exact Ev.bin2 (pos := lzR.pos) e1' ec rfl .nil
end
end
def pz (ps : List (Int × Int)) : Nat := (ps.map fun p => oct p.1 + oct p.2).sum
theorem r7 (a b : List Int) : (k7 (a ++ b)).sum = (k7 a).sum + (k7 b).sum := by unfold k7; rw [List.map_append, List.sum_append]
theorem j0 (a : Int) (b : List Int) : (k7 (a :: b)).sum = oct a + (k7 b).sum := rfl
theorem P8 : ∀ (lo : Int) (rs : List (Int × Int)), (k7 (m9 lo rs)).sum = pz (j8 lo rs)
 | _, [] => rfl
 | lo, (l, h) :: r => by
  show oct (lo - h - 2) + (oct (h - l) + (k7 (m9 l r)).sum) = (oct (lo - h - 2) + oct (h - l)) + pz (j8 l r)
  rw [P8 l r, Nat.add_assoc]
theorem Q3 : ∀ (lo : Int) (rs : List (Int × Int)) (j : Nat), j8 lo (rs.take j) = (j8 lo rs).take j
 | _, _, 0 => by simp [j8]
 | _, [], _ + 1 => by simp [j8]
 | lo, (l, h) :: r, j + 1 => by
  show (lo - h - 2, h - l) :: j8 l (r.take j) = (lo - h - 2, h - l) :: (j8 l r).take j
  rw [Q3 l r j]
theorem hW {a b : Int} (h : a ≤ b) : oct a ≤ oct b := by
 unfold oct
 split <;> split <;> (try split) <;> (try split) <;> (try split) <;> (try split) <;> lia
theorem U4 (ps : List (Int × Int)) (j : Nat) : pz (ps.take j) ≤ pz (ps.take (j + 1)) := by
 induction ps generalizing j with
 | nil => simp
 | cons p ps ih =>
  cases j with
  | zero => exact Nat.zero_le _
  | succ j => exact Nat.add_le_add_left (ih j) _
def Sj (d lo hi : Int) (rest : List (Int × Int)) (ms : List Int) (j : Nat) : Int := 1 + ((oct hi + oct d + oct (hi - lo) + oct (j : Int) + pz ((j8 lo rest).take j) + (k7 ms).sum : Nat) : Int)
theorem E8 {d lo hi : Int} {rest : List (Int × Int)} {ms : List Int} {j : Nat} (hj : j ≤ rest.length) : t8 d (((lo, hi) :: rest).take (j + 1)) ms = Sj d lo hi rest ms j := by
 show t8 d ((lo, hi) :: rest.take j) ms = _
 unfold t8 lzN Sj
 dsimp only
 rw [List.length_take, Nat.min_eq_left hj, r7, r7, P8, Q3]
 rw [show (((j + 1 : Nat) : Int) - 1) = (j : Int) by push_cast; lia]
 rw [j0, j0, j0, j0, show (k7 ([] : List Int)).sum = 0 from rfl]
 congr 2
 lia
theorem ox {d lo hi : Int} {rest : List (Int × Int)} {ms : List Int} (j : Nat) : Sj d lo hi rest ms j ≤ Sj d lo hi rest ms (j + 1) := by
 unfold Sj
 have h1 := U4 (j8 lo rest) j
 have h2 := hW (show (j : Int) ≤ ((j + 1 : Nat) : Int) by push_cast; lia)
 lia
theorem pA {d lo hi : Int} {rest : List (Int × Int)} {ms : List Int} {i j : Nat} (h : i ≤ j) : Sj d lo hi rest ms i ≤ Sj d lo hi rest ms j := by
 induction h with
 | refl => exact Int.le_refl _
 | step _ ih => exact Int.le_trans ih (ox _)
theorem M7 {p : Nat -> Bool} {k : Nat} (h1 : ∀ j, j < k -> p j = true) : ∀ (n : Nat), k ≤ n -> (∀ j, k ≤ j -> j < n -> p j = false) -> (List.range n).filter p = List.range k
 | 0, hk, _ => by
  obtain rfl : k = 0 := by lia
  rfl
 | n + 1, hk, h2 => by
  rw [List.range_succ, List.filter_append]
  by_cases e : k = n + 1
  · subst e
    have : (List.range n).filter p = List.range n := List.filter_eq_self.mpr fun x hx => h1 x (by have := List.mem_range.mp hx; lia)
    rw [this, List.filter_cons, h1 n (by lia)]
    simp [List.range_succ]
  · rw [M7 h1 n (by lia) fun j a b => h2 j a (by lia), List.filter_cons, h2 n (by lia) (by lia)]
    simp
def Q4 (d : Int) (rs : List (Int × Int)) (ms : List Int) (room : Int) : List Nat := (List.range rs.length).filter fun j => decide (t8 d (rs.take (j + 1)) ms ≤ room)
def p0 (d : Int) (rs : List (Int × Int)) (ms : List Int) (room : Int) : List (Int × Int) := match (Q4 d rs ms room).getLast? with
 | none => []
 | some j => rs.take (j + 1)
theorem W0 {d lo hi : Int} {rest : List (Int × Int)} {ms : List Int} {room : Int} {k : Nat} (hk : k ≤ rest.length + 1) (h1 : ∀ j, j < k -> Sj d lo hi rest ms j ≤ room) (h2 : k ≤ rest.length -> room < Sj d lo hi rest ms k) :
 p0 d ((lo, hi) :: rest) ms room = ((lo, hi) :: rest).take k := by
 have e : Q4 d ((lo, hi) :: rest) ms room = List.range k := by
  unfold Q4
  refine M7 (fun j hj => ?_) _ hk fun j a b => ?_
  · rw [E8 (by lia)]; exact dT (h1 j hj)
  · rw [List.length_cons] at b
    rw [E8 (by lia)]
    have := h2 (by lia)
    have := pA (d := d) (lo := lo) (hi := hi) (rest := rest) (ms := ms) a
    exact dF (by lia)
 unfold p0
 rw [e]
 cases k with
 | zero => rfl
 | succ k => rw [List.range_succ, List.getLast?_append]; rfl
theorem af (room : Int) : ∀ (ps : List (Int × Int)) (size : Int) (j : Nat), ∃ k : Nat, A2 room size ((j : Int) + 1) ps = (j : Int) + 1 + k ∧ k ≤ ps.length ∧
 (∀ i, 1 ≤ i -> i ≤ k -> size + (pz (ps.take i) : Int) + oct ((j + i : Nat) : Int) ≤ room) ∧ (k < ps.length -> room < size + (pz (ps.take (k + 1)) : Int) + oct ((j + (k + 1) : Nat) : Int))
 | [], size, j => ⟨0, by unfold A2; push_cast; lia, Nat.le_refl _, fun i a b => by lia, fun h => by cases h⟩
 | (g, l) :: ps, size, j => by
  have ec : (j : Int) + 1 = ((j + 1 : Nat) : Int) := by push_cast; rfl
  by_cases q : size + ((oct g : Int) + oct l) + oct ((j : Int) + 1) > room
  · refine ⟨0, ?_, Nat.zero_le _, fun i a b => by lia, fun _ => ?_⟩
    · rw [show A2 room size ((j : Int) + 1) ((g, l) :: ps) = (j : Int) + 1 from if_pos q]; push_cast; lia
    · show room < size + ((oct g + oct l + 0 : Nat) : Int) + oct ((j + 1 : Nat) : Int)
      rw [ec] at q; push_cast at q ⊢; lia
  · obtain ⟨k, h1, h2, h3, h4⟩ := af room ps (size + ((oct g : Int) + oct l)) (j + 1)
    have hp : ∀ i, (pz (((g, l) :: ps).take (i + 1)) : Int) = ((oct g : Int) + oct l) + pz (ps.take i) := fun i => by
     show ((oct g + oct l + pz (ps.take i) : Nat) : Int) = _
     push_cast; lia
    refine ⟨k + 1, ?_, Nat.succ_le_succ h2, fun i a b => ?_, fun hk => ?_⟩
    · rw [show A2 room size ((j : Int) + 1) ((g, l) :: ps) = A2 room (size + ((oct g : Int) + oct l)) ((j : Int) + 1 + 1) ps from if_neg q]
      rw [ec, h1]; push_cast; lia
    · obtain ⟨i, rfl⟩ : ∃ i', i = i' + 1 := ⟨i - 1, by lia⟩
      rw [hp]
      by_cases e : i = 0
      · subst e
        show size + ((oct g : Int) + oct l + ((0 : Nat) : Int)) + oct ((j + 1 : Nat) : Int) ≤ room
        rw [ec] at q; push_cast at q ⊢; lia
      · have := h3 i (by lia) (by lia)
        rw [show j + (i + 1) = j + 1 + i by lia]; lia
    · rw [List.length_cons] at hk
      have := h4 (by lia)
      rw [hp, show j + (k + 1 + 1) = j + 1 + (k + 1) by lia]; lia
theorem iY {d lo hi : Int} {rest : List (Int × Int)} {ms : List Int} {room : Int} : bv d ((lo, hi) :: rest) (room - ((k7 ms).sum : Nat) - 1) = p0 d ((lo, hi) :: rest) ms room := by
 have hS : ∀ j, Sj d lo hi rest ms j = n6 d lo hi + pz ((j8 lo rest).take j) + oct (j : Int) + ((k7 ms).sum : Nat) + 1 := fun j => by
  unfold Sj n6; push_cast; lia
 show (if n6 d lo hi + 1 > room - ((k7 ms).sum : Nat) - 1 then [] else _) = _
 by_cases q : n6 d lo hi + 1 > room - ((k7 ms).sum : Nat) - 1
 · rw [if_pos q]
   rw [W0 (k := 0) (Nat.zero_le _) (fun j h => by lia) (fun _ => ?_)]
   · rfl
   · rw [hS 0]
     show room < n6 d lo hi + ((0 : Nat) : Int) + ((1 : Nat) : Int) + _ + 1
     push_cast; push_cast at q; lia
 · rw [if_neg q]
   obtain ⟨k, h1, h2, h3, h4⟩ := af (room - ((k7 ms).sum : Nat) - 1) (j8 lo rest) (n6 d lo hi) 0
   rw [M3] at h2 h4
   have h1 : A2 (room - ((k7 ms).sum : Nat) - 1) (n6 d lo hi) 1 (j8 lo rest) = ((0 : Nat) : Int) + 1 + (k : Int) := h1
   rw [h1]
   rw [show (((0 : Nat) : Int) + 1 + (k : Int)).toNat = k + 1 by lia]
   rw [W0 (k := k + 1) (by lia) (fun j hj => ?_) (fun hk => ?_)]
   · rw [hS j]
     by_cases e : j = 0
     · subst e
       show n6 d lo hi + ((0 : Nat) : Int) + ((1 : Nat) : Int) + _ + 1 ≤ room
       push_cast; push_cast at q; lia
     · have := h3 j (by lia) (by lia)
       rw [Nat.zero_add] at this
       lia
   · have := h4 (by lia)
     rw [hS (k + 1)]
     rw [Nat.zero_add] at this
     lia
def A4 (d : Int) (rs : List (Int × Int)) (e : Option (Int × Int × Int)) : Int := match rs with
 | [] => 0
 | (lo, hi) :: rest => ((k7 (k0 d lo hi rest e)).sum : Nat)
theorem E6 {d : Int} {lo hi : Int} {rest : List (Int × Int)} {e : Option (Int × Int × Int)} : A4 d ((lo, hi) :: rest) e = t8 d ((lo, hi) :: rest) (A3 e) := by
 have key : ∀ (c : Int) (l : List Int), oct c = 1 -> (((k7 (c :: hi :: d :: (j4 lo hi rest ++ l))).sum : Nat) : Int) = t8 d ((lo, hi) :: rest) l := fun c l hc => by
  unfold t8 lzN j4
  dsimp only
  rw [j0, j0, j0, r7, j0, j0, r7, r7, j0, j0, j0, j0, hc, show (k7 ([] : List Int)).sum = 0 from rfl]
  push_cast; lia
 cases e with
 | none => exact key 2 _ rfl
 | some t => exact key 3 _ rfl
theorem bR {d : Int} {lo hi : Int} {rest : List (Int × Int)} {e : Option (Int × Int × Int)} : A4 d ((lo, hi) :: rest) e - A4 d ((lo, hi) :: rest) none = ((k7 (A3 e)).sum : Nat) := by
 rw [E6, E6]
 unfold t8
 rw [r7, r7, show (k7 (A3 none)).sum = 0 from rfl]
 push_cast; lia
def jf (d : Int) (rs : List (Int × Int)) (e : Option (Int × Int × Int)) (room : Int) : List (Int × Int) := if A4 d rs e ≤ room then rs else bv d rs (room - (A4 d rs e - A4 d rs none) - 1)
theorem je {d lo hi : Int} {rest : List (Int × Int)} {e : Option (Int × Int × Int)} {room : Int} : jf d ((lo, hi) :: rest) e room = p0 d ((lo, hi) :: rest) (A3 e) room := by
 unfold jf
 rw [bR]
 by_cases q : A4 d ((lo, hi) :: rest) e ≤ room
 · rw [if_pos q]
   rw [E6] at q
   have hl : t8 d ((lo, hi) :: rest) (A3 e) = Sj d lo hi rest (A3 e) rest.length := by
    have := E8 (d := d) (lo := lo) (hi := hi) (rest := rest) (ms := A3 e) (Nat.le_refl rest.length)
    rw [List.take_of_length_le (by simp)] at this
    exact this
   rw [W0 (k := rest.length + 1) (Nat.le_refl _) (fun j hj => ?_) (fun hk => by lia)]
   · rw [List.take_of_length_le (by simp)]
   · have := pA (d := d) (lo := lo) (hi := hi) (rest := rest) (ms := A3 e) (show j ≤ rest.length by lia)
     lia
 · rw [if_neg q]; exact iY
section
variable {w : World} {X : Cf} {σ σ' σ'' : St} {κ : Kt}
theorem Ev.itemLast {value : Expr} {xs : List V} {v : V} {pos p1 p2 : Pos} {k : Nat} (hl : Ev w X σ value (.lst xs) σ') (e : xs.getLast? = some v) : Ev w X σ (.Subscript value (.UnaryOp .USub (.Constant (.int 1) k p1) p2) pos) v σ' := fun G s h Q E hq => by
 refine u4 (Ev.two hl (Ev.neg Ev.cInt) h fun G' u u' s' l h' hu hu' e' => ?_)
 obtain ⟨ad, us, n, rfl, g, r, z⟩ := h'.listAt (v := .lst xs) (xs := xs) rfl hu
 obtain ⟨t, rfl⟩ := hu'
 have hne : 0 < xs.length := List.length_pos_iff.mpr (fun q => by rw [q] at e; cases e)
 rw [List.getLast?_eq_getElem?] at e
 obtain ⟨y, hy, ry⟩ := r.get e
 have hlen := r.len
 refine cC (tail_any (isL g).typeIs slot_list_getitem.lookup (wpAny_getItem_list_neg (isL g) (by decide) (by rw [List.size_toArray]; lia) (by decide) ?_ (hq G' y s' l h' ry e')) (U0 rfl))
 rw [List.size_toArray, ← hlen, show ((-1 : Int) + (xs.length : Int)).toNat = xs.length - 1 by lia]
 simpa using hy
abbrev lcK (d room : Int) (rs : List (Int × Int)) : Kt := ⟨K3.1.names, [("room", .int room), ("marks", .ref 30), ("delay", .int d), ("ranges", Rv rs)], false⟩
def lcA : Expr × Pos × Pos := match nS x7.1 0 with
 | .Assign [.Name _ p] e q => (e, p, q)
 | _ => (.Constant .none 0 default, default, default)
abbrev lcL : Expr := lcA.1
abbrev lcC : Expr := eN (pIf lcL) 0
abbrev lcS : Expr := eN lcC 1
abbrev lcI : Expr := eN lcS 1
abbrev lcR : Expr := sN (nS x7.1 1) 0
abbrev lcT : Expr := eN lcR 1
abbrev lcJ : Expr := eN lcT 1
abbrev lcU : Expr := eN lcJ 0
theorem mU : x7.1 = [.Assign [.Name "fine" lcA.2.1] (.ListComp (.Name "many" (U9 lcL).pos) [⟨.Name "many" (pNm (ba lcL)), D4 lcL, (some (Expr.Compare (.Call (.Name "_law_size" (eN lcC 0).pos) [.Subscript (.Name "ranges" (eN lcS 0).pos) (.Slice none (some (.Name "many" (eN lcI 0).pos)) none lcI.pos) lcS.pos, .Name "delay" (eN lcC 2).pos, .Name "marks" (eN lcC 3).pos] [] lcC.pos) [.LtE] [.Name "room" (eN (pIf lcL) 1).pos] (pIf lcL).pos)).toList, 0⟩] (pSc lcL) (U8 lcL)) lcA.2.2,
 .Return (some (.IfExp (eN lcR 0) (.Subscript (eN lcT 0) (.Slice none (some (.Subscript (.Name "fine" (eN lcU 0).pos) (.UnaryOp .USub (.Constant (.int 1) 0 (eN (eN lcU 1) 0).pos) (eN lcU 1).pos) lcU.pos)) none lcJ.pos) lcT.pos) (eN lcR 2) lcR.pos)) (sP (nS x7.1 1))] := by kernel_rfl
theorem AG {n : Nat} (h : n < 20) : u9 (.rng 1 ((n : Int) + 1) 1) = some ((List.range n).map fun (i : Nat) => V.int (1 + (i : Int) * 1)) :=
 Ad (P := fun n : Nat => u9 (.rng 1 ((n : Int) + 1) 1) = some ((List.range n).map fun (i : Nat) => V.int (1 + (i : Int) * 1))) (k := 20) (by repeat' (first | exact trivial | refine And.intro ?_ (by show _ = _; kernel_rfl))) h
section
variable {dg : Int} {pv : Bool} {rc : Int} {hs : List (Str × V)} {e1 : O} {tl : List O} {a : Ap} {bx : List V}
theorem cD {d room lo hi : Int} {rest : List (Int × Int)} {m0 m1 m2 : Int} {i : Nat} (hz : rest.length < 50) (hi1 : i ≤ rest.length) (hm : Rm X 93) (M : Mt X (inner (lcK d room ((lo, hi) :: rest)) (pSc lcL))) (H : List O) (hH : H = a.H bx dg pv rc hs e1 (.list [.int m0, .int m1, .int m2] :: tl)) (b : Bool) (hb : decide (t8 d (((lo, hi) :: rest).take (i + 1)) (mks m0 m1 m2) ≤ room) = b) :
 Te w X ⟨[("many", .int (1 + (i : Int) * 1))], H⟩ (Expr.Compare (.Call (.Name "_law_size" (eN lcC 0).pos) [.Subscript (.Name "ranges" (eN lcS 0).pos) (.Slice none (some (.Name "many" (eN lcI 0).pos)) none lcI.pos) lcS.pos, .Name "delay" (eN lcC 2).pos, .Name "marks" (eN lcC 3).pos] [] lcC.pos) [.LtE] [.Name "room" (eN (pIf lcL) 1).pos] (pIf lcL).pos) b ⟨[("many", .int (1 + (i : Int) * 1))], H⟩ := by
 have ea := Ev.nmT M (x := "ranges") (p := (eN lcS 0).pos) (c := Rv ((lo, hi) :: rest)) (fr := [("many", .int (1 + (i : Int) * 1))]) (hp := H) (w := w) (by kernel_rfl)
 have eb := Ev.nmT M (x := "many") (p := (eN lcI 0).pos) (c := .int (1 + (i : Int) * 1)) (fr := [("many", .int (1 + (i : Int) * 1))]) (hp := H) (w := w) (by kernel_rfl)
 obtain ⟨x, y, b1, b2⟩ := E0 (xs := ((lo, hi) :: rest).map pr) (ys := (((lo, hi) :: rest).map pr).take (1 + (i : Int) * 1).toNat) (lo := none) (hi := some (1 + (i : Int) * 1)) (by unfold jg; dsimp only; rw [dT (by lia)]; rfl)
 have es := Ev.slice (w := w) (p := lcI.pos) (pos := lcS.pos) ea Pt.no (Pt.at eb) rfl b1
 rw [← b2, show (1 + (i : Int) * 1).toNat = i + 1 by lia] at es
 have ed := Ev.nmT M (x := "delay") (p := (eN lcC 2).pos) (c := .int d) (fr := [("many", .int (1 + (i : Int) * 1))]) (hp := H) (w := w) (by kernel_rfl)
 have em := Ev.nmT M (x := "marks") (p := (eN lcC 3).pos) (c := .ref 30) (fr := [("many", .int (1 + (i : Int) * 1))]) (hp := H) (w := w) (by kernel_rfl)
 have er := Ev.nmT M (x := "room") (p := (eN (pIf lcL) 1).pos) (c := .int room) (fr := [("many", .int (1 + (i : Int) * 1))]) (hp := H) (w := w) (by kernel_rfl)
 have ef := Ev.nmT M (x := "_law_size") (p := (eN lcC 0).pos) (c := .val (.ref 1011)) (fr := [("many", .int (1 + (i : Int) * 1))]) (hp := H) (w := w) (by kernel_rfl)
 have hsz : Cc w 93 (.ref 1011) H [V.lst ((((lo, hi) :: rest).map pr).take (i + 1)), .int d, .ref 30] (.int (t8 d (((lo, hi) :: rest).take (i + 1)) (mks m0 m1 m2))) H := by
  have z := L7 (w := w) (dg := dg) (pv := pv) (rc := rc) (hs := hs) (e1 := e1) (tl := tl) (a := a) (bx := bx) (d := d) (lo := lo) (hi := hi) (rest := rest.take i) (m0 := m0) (m1 := m1) (m2 := m2) (by rw [List.length_take]; lia)
  rw [← List.map_take, hH]
  exact z
 have ec := Ev.callN (w := w) (pos := lcC.pos) ef (Es.cons es (Es.cons ed (Es.cons em .nil (g0 rfl)) (g0 rfl)) (g0 rfl)) hsz.cl hm (.inl ((d7 (w := w) (d := 0)).keep 1011 (by kernel_rfl))) rfl
 refine Te.cmp2 (hm.less (by lia)) ec er ?_ rfl
 show some (decide _) = _
 rw [hb]
theorem cF (X : Cf) {d room lo hi : Int} {rest : List (Int × Int)} {m0 m1 m2 : Int} (hz : rest.length < 50) (hm : Rm X 93) (M : ∀ cl C m, Mt (X.comp (pSc lcL) cl (inner (lcK d room ((lo, hi) :: rest)) (pSc lcL)).cf C m) (inner (lcK d room ((lo, hi) :: rest)) (pSc lcL))) (H : List O) (hH : H = a.H bx dg pv rc hs e1 (.list [.int m0, .int m1, .int m2] :: tl)) : ∀ (js : List Nat), (∀ j ∈ js, j ≤ rest.length) -> ∀ cl,
 Cm w X (pSc lcL) cl (inner (lcK d room ((lo, hi) :: rest)) (pSc lcL)).cf (some (Expr.Compare (.Call (.Name "_law_size" (eN lcC 0).pos) [.Subscript (.Name "ranges" (eN lcS 0).pos) (.Slice none (some (.Name "many" (eN lcI 0).pos)) none lcI.pos) lcS.pos, .Name "delay" (eN lcC 2).pos, .Name "marks" (eN lcC 3).pos] [] lcC.pos) [.LtE] [.Name "room" (eN (pIf lcL) 1).pos] (pIf lcL).pos)) (.Name "many" (U9 lcL).pos) "many" (js.map fun (i : Nat) => V.int (1 + (i : Int) * 1)) H
  ((js.filter fun j => decide (t8 d (((lo, hi) :: rest).take (j + 1)) (mks m0 m1 m2) ≤ room)).map fun (i : Nat) => V.int (1 + (i : Int) * 1)) H
 | [], _, cl => .done
 | j :: js, hj, cl => by
  rw [List.map_cons, List.filter_cons]
  have hm' : ∀ cl C m, Rm (X.comp (pSc lcL) cl (inner (lcK d room ((lo, hi) :: rest)) (pSc lcL)).cf C m) 93 := fun _ _ _ => hm
  have ih := cF X hz hm M H hH js (fun i hi => hj i (.tail _ hi)) cl
  cases hb : decide (t8 d (((lo, hi) :: rest).take (j + 1)) (mks m0 m1 m2) ≤ room) with
  | true =>
   rw [if_pos rfl, List.map_cons]
   exact .yes (σ₁ := ⟨[("many", .int (1 + (j : Int) * 1))], H⟩) (σ₂ := ⟨[("many", .int (1 + (j : Int) * 1))], H⟩) (fun C m => cD hz (hj j (.head _)) (hm' cl C m) (M cl C m) H hH true hb) (fun C m => Ev.nmT (M cl C m) (by kernel_rfl)) ih
  | false =>
   rw [if_neg (by decide)]
   exact .no (σ₁ := ⟨[("many", .int (1 + (j : Int) * 1))], H⟩) (fun C m => cD hz (hj j (.head _)) (hm' cl C m) (M cl C m) H hH false hb) ih
theorem dJ {d room lo hi : Int} {rest : List (Int × Int)} {m0 m1 m2 : Int} (hz : rest.length < 19) :
 Cc w 124 (.ref 1016) (a.H bx dg pv rc hs e1 (.list [.int m0, .int m1, .int m2] :: tl)) [Rv ((lo, hi) :: rest), .int d, .ref 30, .int room] (Rv (p0 d ((lo, hi) :: rest) (mks m0 m1 m2) room)) (a.H bx dg pv rc hs e1 (.list [.int m0, .int m1, .int m2] :: tl)) := by
 refine A6 (d7 (d := 0)) (fn := ⟨["ranges", "delay", "marks", "room"], x7.1, K3.1⟩) (k := 123) (by kernel_rfl) rfl fun X M hco hcs hm => ?_
 have M : Mt X (lcK d room ((lo, hi) :: rest)) := M
 have hm1 : Rm X 61 := hm.less (by decide)
 generalize hH : a.H bx dg pv rc hs e1 (.list [.int m0, .int m1, .int m2] :: tl) = H
 refine ⟨[("fine", .lst ((Q4 d ((lo, hi) :: rest) (mks m0 m1 m2) room).map fun (i : Nat) => V.int (1 + (i : Int) * 1)))], .ret _, ?_, .inl rfl⟩
 show Ex w X ⟨[], H⟩ x7.1 _ _
 rw [mU]
 have hk : y7 (pSc lcL) "many" = true := by kernel_rfl
 have hM := D9 (scope := pSc lcL) M rfl (y7.all hk).2.1
 have hi2 : Ev w X ⟨[], H⟩ (D4 lcL) (.rng 1 (((((rest.map pr).length + 1 : Nat)) : Int) + 1) 1) ⟨[], H⟩ := B4 M hm1 (by kernel_rfl)
 rw [List.length_map] at hi2
 obtain ⟨m1', m2', m3'⟩ := M.k rfl
 have h0 : E1 w X ⟨[], H⟩ _ .next ⟨[("fine", .lst ((Q4 d ((lo, hi) :: rest) (mks m0 m1 m2) room).map fun (i : Nat) => V.int (1 + (i : Int) * 1)))], H⟩ :=
  B3 (tg := .Name "many" (pNm (ba lcL))) (y := "fine") (py := lcA.2.1) (spos := lcA.2.2) (pos := U8 lcL) hco hi2 (AG (by lia)) (.inl ⟨_, rfl⟩) (fun cl => cF (a := a) (bx := bx) (dg := dg) (pv := pv) (rc := rc) (hs := hs) (e1 := e1) (tl := tl) X (by lia) (hm.less (by decide)) hM H hH.symm (List.range (rest.length + 1)) (fun j hj => by have := List.mem_range.mp hj; lia) cl) (by kernel_rfl) hk (by rw [M.cf]; kernel_rfl) (fun x v e => by
   obtain ⟨z1, z2⟩ := p5 (pr := fun y => (pSc lcL).names.lookup y == some .free) e
   exact ⟨by rw [M.cf]; exact z1, eq_of_beq z2⟩) m2' ((m3' _).trans (by kernel_rfl)) (by
   have hb : (eX X).blockKind = .function := by unfold Env.blockKind; rw [M.fk]; rfl
   show (pure ((eX X).blockKind == .function && (eX X).kindOf "fine" == some .local && lcA.2.1.line == (U8 lcL).line && !((pSc lcL).names.any fun (n, k) => n == "fine" && (k == .local || k == .cell))) : Sem Bool) = pure true
   rw [hb, M.kd "fine"]
   kernel_rfl)
 refine .cons h0 (.stop (E1.ret ?_) (by intro q; cases q))
 unfold p0
 generalize Q4 d ((lo, hi) :: rest) (mks m0 m1 m2) room = fl
 match fl with
 | [] => exact Ev.ife (c := false) (σ' := ⟨[("fine", .lst [])], H⟩) (X4 M hm1 (by kernel_rfl)) (fun q => by cases q) (fun _ => B4 M hm1 (by kernel_rfl))
 | x :: r =>
  refine Ev.ife (c := true) (σ' := ⟨[("fine", .lst (((x :: r).map fun (i : Nat) => V.int (1 + (i : Int) * 1))))], H⟩) (X4 M hm1 (by kernel_rfl)) (fun _ => ?_) (fun q => by cases q)
  obtain ⟨j, hj⟩ : ∃ j, (x :: r).getLast? = some j := ⟨_, List.getLast?_eq_some_getLast (by intro h; cases h)⟩
  rw [hj]
  show Ev w X _ _ (Rv (((lo, hi) :: rest).take (j + 1))) _
  have ea : Ev w X ⟨[("fine", .lst (((x :: r).map fun (i : Nat) => V.int (1 + (i : Int) * 1))))], H⟩ (eN lcT 0) (.lst (((lo, hi) :: rest).map pr)) ⟨[("fine", .lst (((x :: r).map fun (i : Nat) => V.int (1 + (i : Int) * 1))))], H⟩ := B4 M hm1 (by kernel_rfl)
  have ef := Ev.nmT M (x := "fine") (p := (eN lcU 0).pos) (c := .lst ((x :: r).map fun (i : Nat) => V.int (1 + (i : Int) * 1))) (fr := [("fine", .lst (((x :: r).map fun (i : Nat) => V.int (1 + (i : Int) * 1))))]) (hp := H) (w := w) (by kernel_rfl)
  have el := Ev.itemLast (pos := lcU.pos) (p1 := (eN (eN lcU 1) 0).pos) (p2 := (eN lcU 1).pos) (k := 0) ef (v := .int (1 + (j : Int) * 1)) (by rw [List.getLast?_map, hj]; rfl)
  obtain ⟨b0, y, b1, b2⟩ := E0 (xs := ((lo, hi) :: rest).map pr) (ys := (((lo, hi) :: rest).map pr).take (1 + (j : Int) * 1).toNat) (lo := none) (hi := some (1 + (j : Int) * 1)) (by unfold jg; dsimp only; rw [dT (by lia)]; rfl)
  have es := Ev.slice (w := w) (p := lcJ.pos) (pos := lcT.pos) ea Pt.no (Pt.at el) rfl b1
  rw [← b2, show (1 + (j : Int) * 1).toNat = j + 1 by lia] at es
  unfold Rv
  rw [List.map_take]
  exact es
end
end
noncomputable def fA (l n t : Int) (r : List (Int × Int)) (fu : Option Int) (un : Int) (wn : Bool) (m0 m1 m2 : Int) : Ap := ⟨(l, n) :: r, some n, some t, fu, un, wn, true, m0, m1, m2⟩
def hsN : List (Str × V) := j6 "handshake" 16
def hsD : List (Str × V) := spD "handshake" 16 (.lst [.tup [.int 5, .int 5]]) (.int 5) (.int 30) (.int 30) 1 true true
noncomputable def fsG (a b : Int) : List O -> List V -> V × List O := fun H vs => match vs with
 | [.tup [_, _, _, .none]] => (.int a, H)
 | _ => (.int b, H)
noncomputable def f9 (v : V) : List O -> List V -> V × List O := fun H _ => (v, H)
def ou (d : Int) (told : List (Int × Int)) (e : Option (Int × Int × Int)) : V := match told with
 | [] => .none
 | x :: xs => e5 d (x :: xs) e
noncomputable def mkE (m0 m1 m2 : Int) : Option (Int × Int × Int) := if 0 < [m0, m1, m2].sum then some (m0, m1, m2) else none
noncomputable def dlO (now t : Int) (ex : Int) : Int := (if now - t > 0 then now - t else 0).fdiv (if ex = 3 then 8 else 1)
noncomputable def m8 (fu : Option Int) (wn : Bool) : Option Int := fu.map fun f => bif wn then f else f + 25000
section
variable {w : World} {X : Cf} {σ σ' σ'' : St} {κ : Kt}
theorem ja {m0 m1 m2 : Int} : A3 (mkE m0 m1 m2) = mks m0 m1 m2 := by unfold mkE mks; split <;> rfl
theorem FI (e : Option (Int × Int × Int)) : l0 (W2 e) = true := by cases e <;> rfl
theorem oQ (d : Int) (rs : List (Int × Int)) (e : Option (Int × Int × Int)) : l0 (e5 d rs e) = true := by
 show (true && (true && (l0 (Rv _) && (l0 (W2 e) && true)))) = true
 rw [I5, FI]; rfl
theorem yE (d : Int) (rs : List (Int × Int)) (e : Option (Int × Int × Int)) : l0 (ou d rs e) = true := by
 cases rs with
 | nil => rfl
 | cons x xs => exact oQ _ _ _
theorem Q8 {d lo hi room : Int} {rest : List (Int × Int)} {e : Option (Int × Int × Int)} {H : List O} (hz : rest.length ≤ 50) (hv : ∀ n ∈ k0 d lo hi rest e, Vn n) (hp : ∀ p ∈ j8 lo rest, Vn p.1 ∧ Vn p.2) :
 Cc w 172 (.ref 380) H [e5 d ((lo, hi) :: rest) e, .int room] (ou d (jf d ((lo, hi) :: rest) e room) e) H := by
 refine Cc.any (gar := []) ?_ (yE _ _ _) (by show (l0 (e5 _ _ _) && (true && true)) = true; rw [oQ]; rfl) H
 have hv0 : ∀ n ∈ k0 d lo hi rest none, Vn n := fun n hn => by
  unfold k0 at hn
  rcases mC hn with rfl | hn
  · exact ⟨by decide, by decide⟩
  · refine hv n (.tail _ ?_)
    rcases mC hn with rfl | hn
    · exact .head _
    · rcases mC hn with rfl | hn
      · exact .tail _ (.head _)
      · refine .tail _ (.tail _ (aL ?_))
        simpa [A3] using hn
 have f1 := m6 (w := w) (H := []) hz hv
 have f0 := m6 (w := w) (H := []) hz hv0
 have hft : ∀ R, Cc w 142 (.ref 97) [] [.int d, Rv ((lo, hi) :: rest), .int R] (Rv (bv d ((lo, hi) :: rest) R)) [] := fun R => by
  refine (dY (by omega) ?_ ?_ ?_ hp).deep (by omega)
  · exact hv _ (by unfold k0; exact .tail _ (.head _))
  · exact hv _ (by unfold k0; exact .tail _ (.tail _ (.head _)))
  · exact hv _ (by unfold k0 j4; exact .tail _ (.tail _ (.tail _ (.tail _ (.head _)))))
 generalize hA : A4 d ((lo, hi) :: rest) none = A
 generalize hB : A4 d ((lo, hi) :: rest) e = B
 have f1 : Cc w 142 (.ref 264) [] [e5 d ((lo, hi) :: rest) e] (.int B) [] := hB ▸ f1
 have f0 : Cc w 142 (.ref 264) [] [e5 d ((lo, hi) :: rest) none] (.int A) [] := hA ▸ f0
 unfold jf
 rw [hA, hB]
 have hG : ∀ F, TOk w 141 (mkT (spG w 141 [(264, fsG A B), (97, f9 (Rv F))])) := fun F => d8
 by_cases q : B ≤ room
 · rw [if_pos q]
   cases e with
   | none =>
    obtain rfl : A = B := by rw [← hA, ← hB]
    exact e6 (n := 30) (hG []) (by decide) (as := [(287, 7, true)]) (as' := []) (ob := [decide (A ≤ room) = true, Cc w 142 (.ref 264) [] [e5 d ((lo, hi) :: rest) none] (.int A) []]) (by kernel_rfl) (.mk (dT q) (.mk f0 .nil))
   | some t =>
    obtain ⟨a, b, c⟩ := t
    exact e6 (n := 30) (hG []) (by decide) (as := [(287, 7, true)]) (as' := []) (ob := [decide (B ≤ room) = true, Cc w 142 (.ref 264) [] [e5 d ((lo, hi) :: rest) (some (a, b, c))] (.int B) []]) (by kernel_rfl) (.mk (dT q) (.mk f1 .nil))
 · rw [if_neg q]
   have hf := hft (room - (B - A) - 1)
   generalize bv d ((lo, hi) :: rest) (room - (B - A) - 1) = F at hf ⊢
   have hG2 := hG F
   clear hG
   cases e with
   | none =>
    obtain rfl : A = B := by rw [← hA, ← hB]
    clear hA hB hft
    cases F with
    | nil => exact e6 (n := 30) hG2 (by decide) (as := [(287, 7, false)]) (as' := []) (ob := [Cc w 142 (.ref 97) [] [.int d, Rv ((lo, hi) :: rest), .int (room - (A - A) - 1)] (Rv []) [], Cc w 142 (.ref 264) [] [e5 d ((lo, hi) :: rest) none] (.int A) [], 3 + 1 ≤ big, Cc w 142 (.ref 264) [] [e5 d ((lo, hi) :: rest) none] (.int A) [], decide (A ≤ room) = false, Cc w 142 (.ref 264) [] [e5 d ((lo, hi) :: rest) none] (.int A) []]) (by kernel_rfl) (.mk hf (.mk f0 (.mk (by decide) (.mk f1 (.mk (dF q) (.mk f1 .nil))))))
    | cons x xs => exact e6 (n := 30) hG2 (by decide) (as := [(287, 7, false), (291, 46, true)]) (as' := []) (ob := (decide ((0 : Int) < (((xs.map pr).length + 1 : Nat) : Int)) = true) :: [Cc w 142 (.ref 97) [] [.int d, Rv ((lo, hi) :: rest), .int (room - (A - A) - 1)] (Rv (x :: xs)) [], Cc w 142 (.ref 264) [] [e5 d ((lo, hi) :: rest) none] (.int A) [], 3 + 1 ≤ big, Cc w 142 (.ref 264) [] [e5 d ((lo, hi) :: rest) none] (.int A) [], decide (A ≤ room) = false, Cc w 142 (.ref 264) [] [e5 d ((lo, hi) :: rest) none] (.int A) []]) (by kernel_rfl) (.mk (dT (by omega)) (.mk hf (.mk f0 (.mk (by decide) (.mk f1 (.mk (dF q) (.mk f1 .nil)))))))
   | some t =>
    obtain ⟨a, b, c⟩ := t
    clear hA hB hft
    cases F with
    | nil => exact e6 (n := 30) hG2 (by decide) (as := [(287, 7, false)]) (as' := []) (ob := [Cc w 142 (.ref 97) [] [.int d, Rv ((lo, hi) :: rest), .int (room - (B - A) - 1)] (Rv []) [], Cc w 142 (.ref 264) [] [e5 d ((lo, hi) :: rest) none] (.int A) [], 3 + 1 ≤ big, Cc w 142 (.ref 264) [] [e5 d ((lo, hi) :: rest) (some (a, b, c))] (.int B) [], decide (B ≤ room) = false, Cc w 142 (.ref 264) [] [e5 d ((lo, hi) :: rest) (some (a, b, c))] (.int B) []]) (by kernel_rfl) (.mk hf (.mk f0 (.mk (by decide) (.mk f1 (.mk (dF q) (.mk f1 .nil))))))
    | cons x xs => exact e6 (n := 30) hG2 (by decide) (as := [(287, 7, false), (291, 46, true)]) (as' := []) (ob := (decide ((0 : Int) < (((xs.map pr).length + 1 : Nat) : Int)) = true) :: [Cc w 142 (.ref 97) [] [.int d, Rv ((lo, hi) :: rest), .int (room - (B - A) - 1)] (Rv (x :: xs)) [], Cc w 142 (.ref 264) [] [e5 d ((lo, hi) :: rest) none] (.int A) [], 3 + 1 ≤ big, Cc w 142 (.ref 264) [] [e5 d ((lo, hi) :: rest) (some (a, b, c))] (.int B) [], decide (B ≤ room) = false, Cc w 142 (.ref 264) [] [e5 d ((lo, hi) :: rest) (some (a, b, c))] (.int B) []]) (by kernel_rfl) (.mk (dT (by omega)) (.mk hf (.mk f0 (.mk (by decide) (.mk f1 (.mk (dF q) (.mk f1 .nil)))))))
section
variable {bx : List V} {dg : Int} {pv : Bool} {rc : Int} {hs : List (Str × V)} {e1 : O} {tl : List O} {l n t : Int} {r : List (Int × Int)} {fu : Option Int} {un : Int} {wn : Bool} {m0 m1 m2 : Int}
theorem pL (hz : r.length < 30) : V.lst ((((l, n) :: r).map pr).take (Int.toNat 32)) = Rv ((l, n) :: r) := by
 unfold Rv
 rw [List.take_of_length_le]
 rw [List.length_map, List.length_cons]
 show _ ≤ 32
 omega
theorem I2 {now ex : Int} (hx : ex = 3 ∨ ex = 0) (hz : r.length < 30) : Cc w 61 (.ref 870) ((fA l n t r fu un wn m0 m1 m2).H bx dg pv rc hs e1 tl) [.ref 18, .int now, .int ex] (e5 (dlO now t ex) ((l, n) :: r) (mkE m0 m1 m2)) ((fA l n t r fu un wn m0 m1 m2).H bx dg pv rc hs e1 tl) := by
 unfold mkE e5
 rw [← pL hz]
 by_cases q : 0 < [m0, m1, m2].sum
 · rw [if_pos q]
   rcases hx with rfl | rfl
   · exact e6 (n := 60) (d7 (d := 0)) (by decide) (as := [(650, 35, true)]) (as' := []) (ob := [decide (0 < [m0, m1, m2].sum) = true]) (by kernel_rfl) (.mk (dT q) .nil)
   · exact e6 (n := 60) (d7 (d := 0)) (by decide) (as := [(650, 35, true)]) (as' := []) (ob := [decide (0 < [m0, m1, m2].sum) = true]) (by kernel_rfl) (.mk (dT q) .nil)
 · rw [if_neg q]
   rcases hx with rfl | rfl
   · exact e6 (n := 60) (d7 (d := 0)) (by decide) (as := [(650, 35, false)]) (as' := []) (ob := [decide (0 < [m0, m1, m2].sum) = false]) (by kernel_rfl) (.mk (dF q) .nil)
   · exact e6 (n := 60) (d7 (d := 0)) (by decide) (as := [(650, 35, false)]) (as' := []) (ob := [decide (0 < [m0, m1, m2].sum) = false]) (by kernel_rfl) (.mk (dF q) .nil)
theorem O1 : Cc w 61 (.ref 347) ((fA l n t r fu un wn m0 m1 m2).H bx dg pv rc hs e1 tl) [.ref 3, .str "application"] (oV (m8 fu wn)) ((fA l n t r fu un wn m0 m1 m2).H bx dg pv rc hs e1 tl) := by
 cases fu with
 | none => exact x_c (n := 60) (d7 (d := 0)) (by decide) (by kernel_rfl)
 | some f => cases wn <;> exact x_c (n := 60) (d7 (d := 0)) (by decide) (by kernel_rfl)
theorem O0 : Cc w 61 (.ref 347) ((fA l n t r fu un wn m0 m1 m2).H bx dg pv rc hsD e1 tl) [.ref 3, .str "handshake"] (.int 30) ((fA l n t r fu un wn m0 m1 m2).H bx dg pv rc hsD e1 tl) :=
 x_c (n := 60) (d7 (d := 0)) (by decide) (by kernel_rfl)
theorem bQ : Cc w 61 (.ref 347) ((fA l n t r fu un wn m0 m1 m2).H bx dg pv rc hsN e1 tl) [.ref 3, .str "handshake"] .none ((fA l n t r fu un wn m0 m1 m2).H bx dg pv rc hsN e1 tl) :=
 x_c (n := 60) (d7 (d := 0)) (by decide) (by kernel_rfl)
noncomputable def C6 (due : Option Int) (now : Int) : Bool := match due with
 | none => false
 | some x => decide (x ≤ now)
theorem F8 {sp : Str} {due : Option Int} {now : Int} {H : List O} (h : Cc w 61 (.ref 347) H [.ref 3, .str sp] (oV due) H) : Cc w 91 (.ref 354) H [.ref 3, .str sp, .int now] (.bool (C6 due now)) H := by
 cases due with
 | none => exact e6 (n := 30) (d8 (w := w) (d := 60) (l := [(347, f9 .none)])) (by decide) (as := []) (as' := []) (ob := [Cc w 61 (.ref 347) H [.ref 3, .str sp] .none H]) (by kernel_rfl) (.mk h .nil)
 | some x => exact e6 (n := 30) (d8 (w := w) (d := 60) (l := [(347, f9 (.int x))])) (by decide) (as := []) (as' := []) (ob := [Cc w 61 (.ref 347) H [.ref 3, .str sp] (.int x) H]) (by kernel_rfl) (.mk h .nil)
theorem Z0 {room : Int} : Cc w 61 (.ref 399) ((fA l n t r fu un wn m0 m1 m2).H bx dg pv rc hs e1 tl) [.ref 3, .int room] (.int 0) ((fA l n t r fu un wn m0 m1 m2).H bx dg pv rc hs e1 tl) := by
 have z : Cc w 61 (.ref 399) ((fA l n t r fu un wn m0 m1 m2).H bx dg pv rc hs e1 tl) [.ref 3, .int room] (.int (9 * (if ((if room > 0 then room else 0).fdiv 9) < 0 then ((if room > 0 then room else 0).fdiv 9) else 0))) ((fA l n t r fu un wn m0 m1 m2).H bx dg pv rc hs e1 tl) :=
  x_c (n := 60) (d7 (d := 0)) (by decide) (by kernel_rfl)
 have e : ¬ ((if room > 0 then room else 0).fdiv 9) < 0 := by
  have : 0 ≤ (if room > 0 then room else 0) := by split <;> omega
  have := Int.fdiv_nonneg this (show (0 : Int) ≤ 9 by decide)
  omega
 rw [if_neg e] at z
 exact z
theorem kX {room size now : Int} (hg : dg ≤ 12000) : Cc w 61 (.ref 423) ((fA l n t r fu un wn m0 m1 m2).H bx dg pv rc hs e1 tl) [.ref 3, .str "application", .int room, .int size, .int now] (.lst []) ((fA l n t r fu un wn m0 m1 m2).H bx dg pv rc hs e1 tl) := by
 have hg' : 0 + dg ≤ 12000 := by omega
 by_cases q : 4 < room
 · by_cases q9 : room - 0 ≥ 9
   · cases pv <;> exact e6 (n := 60) (d7 (d := 0)) (by decide) (as := [(337, 11, true), (433, 15, true), (294, 10, true), (310, 43, true)]) (as' := []) (ob := [0 + 0 ≤ big, 0 + 0 ≤ big, 0 + 0 ≤ big, decide (room - 0 ≥ 9) = true, decide (4 < room) = true, decide (0 + dg ≤ 12000) = true, decide (4 < room) = true]) (by kernel_rfl) (.mk (by decide) (.mk (by decide) (.mk (by decide) (.mk (dT q9) (.mk (dT q) (.mk (dT hg') (.mk (dT q) .nil)))))))
   · exact e6 (n := 60) (d7 (d := 0)) (by decide) (as := [(337, 11, true), (433, 15, true), (294, 10, true), (310, 43, false)]) (as' := []) (ob := [0 + 0 ≤ big, 0 + 0 ≤ big, 0 + 0 ≤ big, decide (room - 0 ≥ 9) = false, decide (4 < room) = true, decide (0 + dg ≤ 12000) = true, decide (4 < room) = true]) (by kernel_rfl) (.mk (by decide) (.mk (by decide) (.mk (by decide) (.mk (dF q9) (.mk (dT q) (.mk (dT hg') (.mk (dT q) .nil)))))))
 · exact e6 (n := 60) (d7 (d := 0)) (by decide) (as := [(337, 11, false)]) (as' := []) (ob := [decide (4 < room) = false]) (by kernel_rfl) (.mk (dF q) .nil)
theorem kW {room size now : Int} (hg : dg ≤ 12000) : Cc w 61 (.ref 423) ((fA l n t r fu un wn m0 m1 m2).H bx dg pv rc hs e1 tl) [.ref 3, .str "handshake", .int room, .int size, .int now] (.lst []) ((fA l n t r fu un wn m0 m1 m2).H bx dg pv rc hs e1 tl) := by
 have hg' : 0 + dg ≤ 12000 := by omega
 by_cases q : 4 < room
 · exact e6 (n := 60) (d7 (d := 0)) (by decide) (as := [(337, 11, true), (433, 15, true), (294, 10, true)]) (as' := []) (ob := [decide (4 < room) = true, decide (0 + dg ≤ 12000) = true, decide (4 < room) = true]) (by kernel_rfl) (.mk (dT q) (.mk (dT hg') (.mk (dT q) .nil)))
 · exact e6 (n := 60) (d7 (d := 0)) (by decide) (as := [(337, 11, false)]) (as' := []) (ob := [decide (4 < room) = false]) (by kernel_rfl) (.mk (dF q) .nil)
end
end
section
variable {w : World} {X : Cf} {σ σ' σ'' : St} {κ : Kt}
variable {bx : List V} {dg : Int} {pv : Bool} {rc : Int} {hs : List (Str × V)} {e1 : O} {tl : List O} {l n t : Int} {r : List (Int × Int)} {fu : Option Int} {un : Int} {wn : Bool} {m0 m1 m2 : Int}
abbrev HL (l n t : Int) (r : List (Int × Int)) (fu : Option Int) (un : Int) (wn : Bool) (m0 m1 m2 : Int) (bx : List V) (dg : Int) (pv : Bool) (rc : Int) (hs : List (Str × V)) (e1 : O) (tl : List O) : List O := (fA l n t r fu un wn m0 m1 m2).H bx dg pv rc hs e1 tl
def frO (d : Int) (told : List (Int × Int)) (e : Option (Int × Int × Int)) (b : Bool) : V := match told with
 | [] => .lst []
 | x :: xs => bif b then .lst [e5 d (x :: xs) e] else .lst []
theorem V9 {A : V} {d room size now : Int} {told : List (Int × Int)} {e : Option (Int × Int × Int)} {b : Bool} {Z : Int} (hg : dg ≤ 12000) (h1 : Cc w 172 (.ref 870) (HL l n t r fu un wn m0 m1 m2 bx dg pv rc hs e1 tl) [.ref 18, .int now, .int 3] A (HL l n t r fu un wn m0 m1 m2 bx dg pv rc hs e1 tl)) (h2 : Cc w 172 (.ref 380) (HL l n t r fu un wn m0 m1 m2 bx dg pv rc hs e1 tl) [A, .int room] (ou d told e) (HL l n t r fu un wn m0 m1 m2 bx dg pv rc hs e1 tl))
 (h3 : told ≠ [] -> Cc w 172 (.ref 264) (HL l n t r fu un wn m0 m1 m2 bx dg pv rc hs e1 tl) [e5 d told e] (.int Z) (HL l n t r fu un wn m0 m1 m2 bx dg pv rc hs e1 tl)) (h4 : Cc w 172 (.ref 354) (HL l n t r fu un wn m0 m1 m2 bx dg pv rc hs e1 tl) [.ref 3, .str "application", .int now] (.bool b) (HL l n t r fu un wn m0 m1 m2 bx dg pv rc hs e1 tl)) : Cc w 232 (.ref 430) (HL l n t r fu un wn m0 m1 m2 bx dg pv rc hs e1 tl) [.ref 3, .str "application", .int room, .int size, .int now] (frO d told e b) (HL l n t r fu un wn m0 m1 m2 bx dg pv rc hs e1 tl) := by
 have hg' : 0 + dg ≤ 12000 := by lia
 have hp := (Z0 (w := w) (bx := bx) (dg := dg) (pv := pv) (rc := rc) (hs := hs) (e1 := e1) (tl := tl) (l := l) (n := n) (t := t) (r := r) (fu := fu) (un := un) (wn := wn) (m0 := m0) (m1 := m1) (m2 := m2) (room := room)).deep (show 61 ≤ 172 by decide)
 have hb := fun room => (kX (w := w) (bx := bx) (dg := dg) (pv := pv) (rc := rc) (hs := hs) (e1 := e1) (tl := tl) (l := l) (n := n) (t := t) (r := r) (fu := fu) (un := un) (wn := wn) (m0 := m0) (m1 := m1) (m2 := m2) (room := room) (size := size) (now := now) hg).deep (show 61 ≤ 172 by decide)
 have h2' : Cc w 172 (.ref 380) (HL l n t r fu un wn m0 m1 m2 bx dg pv rc hs e1 tl) [A, .int (room - 0)] (ou d told e) (HL l n t r fu un wn m0 m1 m2 bx dg pv rc hs e1 tl) := by rw [Int.sub_zero]; exact h2
 by_cases q : 4 < room
 · match told, h2, h2', h3 with
   | [], h2, h2', h3 =>
    exact e6 (n := 60) (d8 (w := w) (d := 171) (l := [(870, f9 A), (380, f9 .none), (423, f9 (.lst [])), (264, f9 (.int Z)), (354, f9 (.bool b)), (399, f9 (.int 0))])) (by decide) (as := [(337, 11, true), (433, 15, true)]) (as' := []) (ob := [Cc w 172 (.ref 423) (HL l n t r fu un wn m0 m1 m2 bx dg pv rc hs e1 tl) [.ref 3, .str "application", .int room, .int size, .int now] (.lst []) (HL l n t r fu un wn m0 m1 m2 bx dg pv rc hs e1 tl), Cc w 172 (.ref 380) (HL l n t r fu un wn m0 m1 m2 bx dg pv rc hs e1 tl) [A, .int (room - 0)] (.none) (HL l n t r fu un wn m0 m1 m2 bx dg pv rc hs e1 tl), Cc w 172 (.ref 870) (HL l n t r fu un wn m0 m1 m2 bx dg pv rc hs e1 tl) [.ref 18, .int now, .int 3] (A) (HL l n t r fu un wn m0 m1 m2 bx dg pv rc hs e1 tl), Cc w 172 (.ref 399) (HL l n t r fu un wn m0 m1 m2 bx dg pv rc hs e1 tl) [.ref 3, .int room] (.int 0) (HL l n t r fu un wn m0 m1 m2 bx dg pv rc hs e1 tl), decide (0 + dg ≤ 12000) = true, decide (4 < room) = true]) (by kernel_rfl) (.mk (hb room) (.mk (h2') (.mk (h1) (.mk (hp) (.mk (dT hg') (.mk (dT q) .nil))))))
   | x :: xs, h2, h2', h3 =>
    cases b with
    | true =>
     exact e6 (n := 60) (d8 (w := w) (d := 171) (l := [(870, f9 A), (380, f9 (e5 d (x :: xs) e)), (423, f9 (.lst [])), (264, f9 (.int Z)), (354, f9 (.bool true)), (399, f9 (.int 0))])) (by decide) (as := [(337, 11, true), (433, 15, true)]) (as' := []) (ob := [1 + 0 ≤ big, Cc w 172 (.ref 354) (HL l n t r fu un wn m0 m1 m2 bx dg pv rc hs e1 tl) [.ref 3, .str "application", .int now] (.bool true) (HL l n t r fu un wn m0 m1 m2 bx dg pv rc hs e1 tl), Cc w 172 (.ref 423) (HL l n t r fu un wn m0 m1 m2 bx dg pv rc hs e1 tl) [.ref 3, .str "application", .int (room - Z), .int size, .int now] (.lst []) (HL l n t r fu un wn m0 m1 m2 bx dg pv rc hs e1 tl), Cc w 172 (.ref 264) (HL l n t r fu un wn m0 m1 m2 bx dg pv rc hs e1 tl) [e5 d (x :: xs) e] (.int Z) (HL l n t r fu un wn m0 m1 m2 bx dg pv rc hs e1 tl), Cc w 172 (.ref 380) (HL l n t r fu un wn m0 m1 m2 bx dg pv rc hs e1 tl) [A, .int (room - 0)] (e5 d (x :: xs) e) (HL l n t r fu un wn m0 m1 m2 bx dg pv rc hs e1 tl), Cc w 172 (.ref 870) (HL l n t r fu un wn m0 m1 m2 bx dg pv rc hs e1 tl) [.ref 18, .int now, .int 3] (A) (HL l n t r fu un wn m0 m1 m2 bx dg pv rc hs e1 tl), Cc w 172 (.ref 399) (HL l n t r fu un wn m0 m1 m2 bx dg pv rc hs e1 tl) [.ref 3, .int room] (.int 0) (HL l n t r fu un wn m0 m1 m2 bx dg pv rc hs e1 tl), decide (0 + dg ≤ 12000) = true, decide (4 < room) = true]) (by kernel_rfl) (.mk (by decide) (.mk (h4) (.mk (hb _) (.mk (h3 (by intro q; cases q)) (.mk (h2') (.mk (h1) (.mk (hp) (.mk (dT hg') (.mk (dT q) .nil)))))))))
    | false =>
     exact e6 (n := 60) (d8 (w := w) (d := 171) (l := [(870, f9 A), (380, f9 (e5 d (x :: xs) e)), (423, f9 (.lst [])), (264, f9 (.int Z)), (354, f9 (.bool false)), (399, f9 (.int 0))])) (by decide) (as := [(337, 11, true), (433, 15, true)]) (as' := []) (ob := [Cc w 172 (.ref 423) (HL l n t r fu un wn m0 m1 m2 bx dg pv rc hs e1 tl) [.ref 3, .str "application", .int room, .int size, .int now] (.lst []) (HL l n t r fu un wn m0 m1 m2 bx dg pv rc hs e1 tl), Cc w 172 (.ref 354) (HL l n t r fu un wn m0 m1 m2 bx dg pv rc hs e1 tl) [.ref 3, .str "application", .int now] (.bool false) (HL l n t r fu un wn m0 m1 m2 bx dg pv rc hs e1 tl), Cc w 172 (.ref 423) (HL l n t r fu un wn m0 m1 m2 bx dg pv rc hs e1 tl) [.ref 3, .str "application", .int (room - Z), .int size, .int now] (.lst []) (HL l n t r fu un wn m0 m1 m2 bx dg pv rc hs e1 tl), Cc w 172 (.ref 264) (HL l n t r fu un wn m0 m1 m2 bx dg pv rc hs e1 tl) [e5 d (x :: xs) e] (.int Z) (HL l n t r fu un wn m0 m1 m2 bx dg pv rc hs e1 tl), Cc w 172 (.ref 380) (HL l n t r fu un wn m0 m1 m2 bx dg pv rc hs e1 tl) [A, .int (room - 0)] (e5 d (x :: xs) e) (HL l n t r fu un wn m0 m1 m2 bx dg pv rc hs e1 tl), Cc w 172 (.ref 870) (HL l n t r fu un wn m0 m1 m2 bx dg pv rc hs e1 tl) [.ref 18, .int now, .int 3] (A) (HL l n t r fu un wn m0 m1 m2 bx dg pv rc hs e1 tl), Cc w 172 (.ref 399) (HL l n t r fu un wn m0 m1 m2 bx dg pv rc hs e1 tl) [.ref 3, .int room] (.int 0) (HL l n t r fu un wn m0 m1 m2 bx dg pv rc hs e1 tl), decide (0 + dg ≤ 12000) = true, decide (4 < room) = true]) (by kernel_rfl) (.mk (hb room) (.mk (h4) (.mk (hb _) (.mk (h3 (by intro q; cases q)) (.mk (h2') (.mk (h1) (.mk (hp) (.mk (dT hg') (.mk (dT q) .nil)))))))))
 · match told, h2, h2', h3 with
   | [], h2, h2', h3 =>
    exact e6 (n := 60) (d8 (w := w) (d := 171) (l := [(870, f9 A), (380, f9 .none), (423, f9 (.lst [])), (264, f9 (.int Z)), (354, f9 (.bool b)), (399, f9 (.int 0))])) (by decide) (as := [(337, 11, false)]) (as' := []) (ob := [Cc w 172 (.ref 423) (HL l n t r fu un wn m0 m1 m2 bx dg pv rc hs e1 tl) [.ref 3, .str "application", .int room, .int size, .int now] (.lst []) (HL l n t r fu un wn m0 m1 m2 bx dg pv rc hs e1 tl), Cc w 172 (.ref 380) (HL l n t r fu un wn m0 m1 m2 bx dg pv rc hs e1 tl) [A, .int (room)] (.none) (HL l n t r fu un wn m0 m1 m2 bx dg pv rc hs e1 tl), Cc w 172 (.ref 870) (HL l n t r fu un wn m0 m1 m2 bx dg pv rc hs e1 tl) [.ref 18, .int now, .int 3] (A) (HL l n t r fu un wn m0 m1 m2 bx dg pv rc hs e1 tl), decide (4 < room) = false]) (by kernel_rfl) (.mk (hb room) (.mk (h2) (.mk (h1) (.mk (dF q) .nil))))
   | x :: xs, h2, h2', h3 =>
    cases b with
    | true =>
     exact e6 (n := 60) (d8 (w := w) (d := 171) (l := [(870, f9 A), (380, f9 (e5 d (x :: xs) e)), (423, f9 (.lst [])), (264, f9 (.int Z)), (354, f9 (.bool true)), (399, f9 (.int 0))])) (by decide) (as := [(337, 11, false)]) (as' := []) (ob := [1 + 0 ≤ big, Cc w 172 (.ref 354) (HL l n t r fu un wn m0 m1 m2 bx dg pv rc hs e1 tl) [.ref 3, .str "application", .int now] (.bool true) (HL l n t r fu un wn m0 m1 m2 bx dg pv rc hs e1 tl), Cc w 172 (.ref 423) (HL l n t r fu un wn m0 m1 m2 bx dg pv rc hs e1 tl) [.ref 3, .str "application", .int (room - Z), .int size, .int now] (.lst []) (HL l n t r fu un wn m0 m1 m2 bx dg pv rc hs e1 tl), Cc w 172 (.ref 264) (HL l n t r fu un wn m0 m1 m2 bx dg pv rc hs e1 tl) [e5 d (x :: xs) e] (.int Z) (HL l n t r fu un wn m0 m1 m2 bx dg pv rc hs e1 tl), Cc w 172 (.ref 380) (HL l n t r fu un wn m0 m1 m2 bx dg pv rc hs e1 tl) [A, .int (room)] (e5 d (x :: xs) e) (HL l n t r fu un wn m0 m1 m2 bx dg pv rc hs e1 tl), Cc w 172 (.ref 870) (HL l n t r fu un wn m0 m1 m2 bx dg pv rc hs e1 tl) [.ref 18, .int now, .int 3] (A) (HL l n t r fu un wn m0 m1 m2 bx dg pv rc hs e1 tl), decide (4 < room) = false]) (by kernel_rfl) (.mk (by decide) (.mk (h4) (.mk (hb _) (.mk (h3 (by intro q; cases q)) (.mk (h2) (.mk (h1) (.mk (dF q) .nil)))))))
    | false =>
     exact e6 (n := 60) (d8 (w := w) (d := 171) (l := [(870, f9 A), (380, f9 (e5 d (x :: xs) e)), (423, f9 (.lst [])), (264, f9 (.int Z)), (354, f9 (.bool false)), (399, f9 (.int 0))])) (by decide) (as := [(337, 11, false)]) (as' := []) (ob := [Cc w 172 (.ref 423) (HL l n t r fu un wn m0 m1 m2 bx dg pv rc hs e1 tl) [.ref 3, .str "application", .int room, .int size, .int now] (.lst []) (HL l n t r fu un wn m0 m1 m2 bx dg pv rc hs e1 tl), Cc w 172 (.ref 354) (HL l n t r fu un wn m0 m1 m2 bx dg pv rc hs e1 tl) [.ref 3, .str "application", .int now] (.bool false) (HL l n t r fu un wn m0 m1 m2 bx dg pv rc hs e1 tl), Cc w 172 (.ref 423) (HL l n t r fu un wn m0 m1 m2 bx dg pv rc hs e1 tl) [.ref 3, .str "application", .int (room - Z), .int size, .int now] (.lst []) (HL l n t r fu un wn m0 m1 m2 bx dg pv rc hs e1 tl), Cc w 172 (.ref 264) (HL l n t r fu un wn m0 m1 m2 bx dg pv rc hs e1 tl) [e5 d (x :: xs) e] (.int Z) (HL l n t r fu un wn m0 m1 m2 bx dg pv rc hs e1 tl), Cc w 172 (.ref 380) (HL l n t r fu un wn m0 m1 m2 bx dg pv rc hs e1 tl) [A, .int (room)] (e5 d (x :: xs) e) (HL l n t r fu un wn m0 m1 m2 bx dg pv rc hs e1 tl), Cc w 172 (.ref 870) (HL l n t r fu un wn m0 m1 m2 bx dg pv rc hs e1 tl) [.ref 18, .int now, .int 3] (A) (HL l n t r fu un wn m0 m1 m2 bx dg pv rc hs e1 tl), decide (4 < room) = false]) (by kernel_rfl) (.mk (hb room) (.mk (h4) (.mk (hb _) (.mk (h3 (by intro q; cases q)) (.mk (h2) (.mk (h1) (.mk (dF q) .nil)))))))
theorem V8 {d room size now Z : Int} (hg : dg ≤ 12000) (h1 : Cc w 172 (.ref 870) (HL l n t r fu un wn m0 m1 m2 bx dg pv rc hsD e1 tl) [.ref 15, .int now, .int 3] (e5 d [(5, 5)] none) (HL l n t r fu un wn m0 m1 m2 bx dg pv rc hsD e1 tl)) (h2 : Cc w 172 (.ref 380) (HL l n t r fu un wn m0 m1 m2 bx dg pv rc hsD e1 tl) [e5 d [(5, 5)] none, .int room] (e5 d [(5, 5)] none) (HL l n t r fu un wn m0 m1 m2 bx dg pv rc hsD e1 tl))
 (h3 : Cc w 172 (.ref 264) (HL l n t r fu un wn m0 m1 m2 bx dg pv rc hsD e1 tl) [e5 d [(5, 5)] none] (.int Z) (HL l n t r fu un wn m0 m1 m2 bx dg pv rc hsD e1 tl)) (h4 : Cc w 172 (.ref 354) (HL l n t r fu un wn m0 m1 m2 bx dg pv rc hsD e1 tl) [.ref 3, .str "handshake", .int now] (.bool true) (HL l n t r fu un wn m0 m1 m2 bx dg pv rc hsD e1 tl)) : Cc w 232 (.ref 430) (HL l n t r fu un wn m0 m1 m2 bx dg pv rc hsD e1 tl) [.ref 3, .str "handshake", .int room, .int size, .int now] (.lst [e5 d [(5, 5)] none]) (HL l n t r fu un wn m0 m1 m2 bx dg pv rc hsD e1 tl) := by
 have hb := fun room => (kW (w := w) (bx := bx) (dg := dg) (pv := pv) (rc := rc) (hs := hsD) (e1 := e1) (tl := tl) (l := l) (n := n) (t := t) (r := r) (fu := fu) (un := un) (wn := wn) (m0 := m0) (m1 := m1) (m2 := m2) (room := room) (size := size) (now := now) hg).deep (show 61 ≤ 172 by decide)
 exact e6 (n := 60) (d8 (w := w) (d := 171) (l := [(870, f9 (e5 d [(5, 5)] none)), (380, f9 (e5 d [(5, 5)] none)), (423, f9 (.lst [])), (264, f9 (.int Z)), (354, f9 (.bool true))])) (by decide) (as := []) (as' := []) (ob := [1 + 0 ≤ big, Cc w 172 (.ref 354) (HL l n t r fu un wn m0 m1 m2 bx dg pv rc hsD e1 tl) [.ref 3, .str "handshake", .int now] (.bool true) (HL l n t r fu un wn m0 m1 m2 bx dg pv rc hsD e1 tl), Cc w 172 (.ref 423) (HL l n t r fu un wn m0 m1 m2 bx dg pv rc hsD e1 tl) [.ref 3, .str "handshake", .int (room - Z), .int size, .int now] (.lst []) (HL l n t r fu un wn m0 m1 m2 bx dg pv rc hsD e1 tl), Cc w 172 (.ref 264) (HL l n t r fu un wn m0 m1 m2 bx dg pv rc hsD e1 tl) [e5 d [(5, 5)] none] (.int Z) (HL l n t r fu un wn m0 m1 m2 bx dg pv rc hsD e1 tl), Cc w 172 (.ref 380) (HL l n t r fu un wn m0 m1 m2 bx dg pv rc hsD e1 tl) [e5 d [(5, 5)] none, .int room] (e5 d [(5, 5)] none) (HL l n t r fu un wn m0 m1 m2 bx dg pv rc hsD e1 tl), Cc w 172 (.ref 870) (HL l n t r fu un wn m0 m1 m2 bx dg pv rc hsD e1 tl) [.ref 15, .int now, .int 3] (e5 d [(5, 5)] none) (HL l n t r fu un wn m0 m1 m2 bx dg pv rc hsD e1 tl)]) (by kernel_rfl) (.mk (by decide) (.mk (h4) (.mk (hb _) (.mk (h3) (.mk (h2) (.mk (h1) .nil))))))
noncomputable def dgS (pv : Bool) (dg rc : Int) : Int := bif pv then dg else (if (if 3 * rc - 0 > 0 then 3 * rc - 0 else 0) < dg then (if 3 * rc - 0 > 0 then 3 * rc - 0 else 0) else dg)
theorem I8 : Cc w 61 (.ref 361) (HL l n t r fu un wn m0 m1 m2 bx dg pv rc hs e1 tl) [.ref 3] (.int (dgS pv dg rc)) (HL l n t r fu un wn m0 m1 m2 bx dg pv rc hs e1 tl) := by
 cases pv <;> exact x_c (n := 60) (d7 (d := 0)) (by decide) (by kernel_rfl)
theorem B0 {H : List O} : Cc w 101 (.ref 182) H [.tup [.byt 4, .byt 3], .dct ["handshake", "application"] [.tup [.int 0, .none], .tup [.int 0, .none]], .str "application"] (.int 25) H := Cc.any (gar := []) (Cc.drop (gar := [.bya 1]) (e6 (n := 100) (d7 (d := 0)) (by decide) (as := []) (as' := []) (ob := [5 ≤ big, ∀ n ∈ [(64 : Int)], 0 ≤ n ∧ n < 256, (0 : Int) ≤ 0 ∧ (0 : Int) < 256]) (by kernel_rfl) (.mk (by decide) (.mk (by decide) (.mk (by decide) .nil)))) rfl) rfl rfl H
theorem A9 {H : List O} : Cc w 101 (.ref 182) H [.tup [.byt 4, .byt 3], .dct ["handshake", "application"] [.tup [.int 0, .none], .tup [.int 0, .none]], .str "handshake"] (.int 35) H := Cc.any (gar := []) (Cc.drop (gar := [.bya 1, .bya 4, .bya 1]) (e6 (n := 100) (d7 (d := 0)) (by decide) (as := []) (as' := []) (ob := [15 ≤ big, (0 : Int) ≤ 21 ∧ (21 : Int) < 256, 14 ≤ big, 9 ≤ big, 6 ≤ big, ∀ n ∈ [(3 : Int)], 0 ≤ n ∧ n < 256, 5 ≤ big, ∀ n ∈ [(4 : Int)], 0 ≤ n ∧ n < 256, 5 ≤ big, (0 : Int) ≤ 0 ∧ (0 : Int) < 256, (0 : Int) ≤ 0 ∧ (0 : Int) < 256, (0 : Int) ≤ 0 ∧ (0 : Int) < 256, (0 : Int) ≤ 1 ∧ (1 : Int) < 256, ∀ n ∈ [(224 : Int)], 0 ≤ n ∧ n < 256, (0 : Int) ≤ 0 ∧ (0 : Int) < 256]) (by kernel_rfl) (.mk (by decide) (.mk (by decide) (.mk (by decide) (.mk (by decide) (.mk (by decide) (.mk (by decide) (.mk (by decide) (.mk (by decide) (.mk (by decide) (.mk (by decide) (.mk (by decide) (.mk (by decide) (.mk (by decide) (.mk (by decide) (.mk (by decide) .nil)))))))))))))))) rfl) rfl rfl H
theorem V7 : Cc w 131 (.ref 340) (HL l n t r fu un wn m0 m1 m2 bx dg pv rc hsD e1 tl) [.ref 3, .str "application"] (.int 25) (HL l n t r fu un wn m0 m1 m2 bx dg pv rc hsD e1 tl) := e6 (n := 30) (d8 (w := w) (d := 100) (l := [(182, f9 (.int 25))])) (by decide) (as := []) (as' := []) (ob := [Cc w 101 (.ref 182) (HL l n t r fu un wn m0 m1 m2 bx dg pv rc hsD e1 tl) [.tup [.byt 4, .byt 3], .dct ["handshake", "application"] [.tup [.int 0, .none], .tup [.int 0, .none]], .str "application"] (.int 25) (HL l n t r fu un wn m0 m1 m2 bx dg pv rc hsD e1 tl)]) (by kernel_rfl) (.mk B0 .nil)
theorem V6 : Cc w 131 (.ref 340) (HL l n t r fu un wn m0 m1 m2 bx dg pv rc hsN e1 tl) [.ref 3, .str "application"] (.int 25) (HL l n t r fu un wn m0 m1 m2 bx dg pv rc hsN e1 tl) := e6 (n := 30) (d8 (w := w) (d := 100) (l := [(182, f9 (.int 25))])) (by decide) (as := []) (as' := []) (ob := [Cc w 101 (.ref 182) (HL l n t r fu un wn m0 m1 m2 bx dg pv rc hsN e1 tl) [.tup [.byt 4, .byt 3], .dct ["handshake", "application"] [.tup [.int 0, .none], .tup [.int 0, .none]], .str "application"] (.int 25) (HL l n t r fu un wn m0 m1 m2 bx dg pv rc hsN e1 tl)]) (by kernel_rfl) (.mk B0 .nil)
theorem G8 : Cc w 131 (.ref 340) (HL l n t r fu un wn m0 m1 m2 bx dg pv rc hsD e1 tl) [.ref 3, .str "handshake"] (.int 35) (HL l n t r fu un wn m0 m1 m2 bx dg pv rc hsD e1 tl) := e6 (n := 30) (d8 (w := w) (d := 100) (l := [(182, f9 (.int 35))])) (by decide) (as := []) (as' := []) (ob := [Cc w 101 (.ref 182) (HL l n t r fu un wn m0 m1 m2 bx dg pv rc hsD e1 tl) [.tup [.byt 4, .byt 3], .dct ["handshake", "application"] [.tup [.int 0, .none], .tup [.int 0, .none]], .str "handshake"] (.int 35) (HL l n t r fu un wn m0 m1 m2 bx dg pv rc hsD e1 tl)]) (by kernel_rfl) (.mk A9 .nil)
theorem Z8 : Cc w 131 (.ref 340) (HL l n t r fu un wn m0 m1 m2 bx dg pv rc hsN e1 tl) [.ref 3, .str "handshake"] (.int 35) (HL l n t r fu un wn m0 m1 m2 bx dg pv rc hsN e1 tl) := e6 (n := 30) (d8 (w := w) (d := 100) (l := [(182, f9 (.int 35))])) (by decide) (as := []) (as' := []) (ob := [Cc w 101 (.ref 182) (HL l n t r fu un wn m0 m1 m2 bx dg pv rc hsN e1 tl) [.tup [.byt 4, .byt 3], .dct ["handshake", "application"] [.tup [.int 0, .none], .tup [.int 0, .none]], .str "handshake"] (.int 35) (HL l n t r fu un wn m0 m1 m2 bx dg pv rc hsN e1 tl)]) (by kernel_rfl) (.mk A9 .nil)
theorem dR {S Z d : Int} {e : Option (Int × Int × Int)} (h1 : Cc w 172 (.ref 870) (HL l n t r fu un wn m0 m1 m2 bx dg pv rc hs e1 tl) [.ref 18, .int 0, .int 0] (e5 d ((l, n) :: r) e) (HL l n t r fu un wn m0 m1 m2 bx dg pv rc hs e1 tl)) (h2 : Cc w 172 (.ref 361) (HL l n t r fu un wn m0 m1 m2 bx dg pv rc hs e1 tl) [.ref 3] (.int S) (HL l n t r fu un wn m0 m1 m2 bx dg pv rc hs e1 tl)) (h3 : Cc w 172 (.ref 264) (HL l n t r fu un wn m0 m1 m2 bx dg pv rc hs e1 tl) [e5 4611686018427387903 [(l, n)] e] (.int Z) (HL l n t r fu un wn m0 m1 m2 bx dg pv rc hs e1 tl)) (h4 : Cc w 172 (.ref 340) (HL l n t r fu un wn m0 m1 m2 bx dg pv rc hs e1 tl) [.ref 3, .str "application"] (.int 25) (HL l n t r fu un wn m0 m1 m2 bx dg pv rc hs e1 tl)) :
 Cc w 232 (.ref 368) (HL l n t r fu un wn m0 m1 m2 bx dg pv rc hs e1 tl) [.ref 3, .str "application"] (.bool (decide (4 < S - 25) && decide (Z ≤ S - 25))) (HL l n t r fu un wn m0 m1 m2 bx dg pv rc hs e1 tl) := by
 by_cases q : 4 < S - 25
 · rw [dT q, Bool.true_and]
   exact e6 (n := 60) (d8 (w := w) (d := 171) (l := [(870, f9 (e5 d ((l, n) :: r) e)), (361, f9 (.int S)), (340, f9 (.int 25)), (264, f9 (.int Z))])) (by decide) (as := [(282, 11, true)]) (as' := []) (ob := [Cc w 172 (.ref 264) (HL l n t r fu un wn m0 m1 m2 bx dg pv rc hs e1 tl) [e5 4611686018427387903 [(l, n)] e] (.int Z) (HL l n t r fu un wn m0 m1 m2 bx dg pv rc hs e1 tl), decide (4 < S - 25) = true, Cc w 172 (.ref 340) (HL l n t r fu un wn m0 m1 m2 bx dg pv rc hs e1 tl) [.ref 3, .str "application"] (.int 25) (HL l n t r fu un wn m0 m1 m2 bx dg pv rc hs e1 tl), Cc w 172 (.ref 361) (HL l n t r fu un wn m0 m1 m2 bx dg pv rc hs e1 tl) [.ref 3] (.int S) (HL l n t r fu un wn m0 m1 m2 bx dg pv rc hs e1 tl), Cc w 172 (.ref 870) (HL l n t r fu un wn m0 m1 m2 bx dg pv rc hs e1 tl) [.ref 18, .int 0, .int 0] (e5 d ((l, n) :: r) e) (HL l n t r fu un wn m0 m1 m2 bx dg pv rc hs e1 tl)]) (by kernel_rfl) (.mk (h3) (.mk (dT q) (.mk (h4) (.mk (h2) (.mk (h1) .nil)))))
 · rw [dF q, Bool.false_and]
   exact e6 (n := 60) (d8 (w := w) (d := 171) (l := [(870, f9 (e5 d ((l, n) :: r) e)), (361, f9 (.int S)), (340, f9 (.int 25)), (264, f9 (.int Z))])) (by decide) (as := [(282, 11, false)]) (as' := []) (ob := [decide (4 < S - 25) = false, Cc w 172 (.ref 340) (HL l n t r fu un wn m0 m1 m2 bx dg pv rc hs e1 tl) [.ref 3, .str "application"] (.int 25) (HL l n t r fu un wn m0 m1 m2 bx dg pv rc hs e1 tl), Cc w 172 (.ref 361) (HL l n t r fu un wn m0 m1 m2 bx dg pv rc hs e1 tl) [.ref 3] (.int S) (HL l n t r fu un wn m0 m1 m2 bx dg pv rc hs e1 tl), Cc w 172 (.ref 870) (HL l n t r fu un wn m0 m1 m2 bx dg pv rc hs e1 tl) [.ref 18, .int 0, .int 0] (e5 d ((l, n) :: r) e) (HL l n t r fu un wn m0 m1 m2 bx dg pv rc hs e1 tl)]) (by kernel_rfl) (.mk (dF q) (.mk (h4) (.mk (h2) (.mk (h1) .nil))))
theorem dQ {S Z d : Int} (h1 : Cc w 172 (.ref 870) (HL l n t r fu un wn m0 m1 m2 bx dg pv rc hsD e1 tl) [.ref 15, .int 0, .int 0] (e5 d [(5, 5)] none) (HL l n t r fu un wn m0 m1 m2 bx dg pv rc hsD e1 tl)) (h2 : Cc w 172 (.ref 361) (HL l n t r fu un wn m0 m1 m2 bx dg pv rc hsD e1 tl) [.ref 3] (.int S) (HL l n t r fu un wn m0 m1 m2 bx dg pv rc hsD e1 tl)) (h3 : Cc w 172 (.ref 264) (HL l n t r fu un wn m0 m1 m2 bx dg pv rc hsD e1 tl) [e5 4611686018427387903 [(5, 5)] none] (.int Z) (HL l n t r fu un wn m0 m1 m2 bx dg pv rc hsD e1 tl)) :
 Cc w 232 (.ref 368) (HL l n t r fu un wn m0 m1 m2 bx dg pv rc hsD e1 tl) [.ref 3, .str "handshake"] (.bool (decide (4 < S - 35) && decide (Z ≤ S - 35))) (HL l n t r fu un wn m0 m1 m2 bx dg pv rc hsD e1 tl) := by
 have h4 := (G8 (w := w) (bx := bx) (dg := dg) (pv := pv) (rc := rc) (e1 := e1) (tl := tl) (l := l) (n := n) (t := t) (r := r) (fu := fu) (un := un) (wn := wn) (m0 := m0) (m1 := m1) (m2 := m2)).deep (show 131 ≤ 172 by decide)
 by_cases q : 4 < S - 35
 · rw [dT q, Bool.true_and]
   exact e6 (n := 60) (d8 (w := w) (d := 171) (l := [(870, f9 (e5 d [(5, 5)] none)), (361, f9 (.int S)), (340, f9 (.int 35)), (264, f9 (.int Z))])) (by decide) (as := [(282, 11, true)]) (as' := []) (ob := [Cc w 172 (.ref 264) (HL l n t r fu un wn m0 m1 m2 bx dg pv rc hsD e1 tl) [e5 4611686018427387903 [(5, 5)] none] (.int Z) (HL l n t r fu un wn m0 m1 m2 bx dg pv rc hsD e1 tl), decide (4 < S - 35) = true, Cc w 172 (.ref 340) (HL l n t r fu un wn m0 m1 m2 bx dg pv rc hsD e1 tl) [.ref 3, .str "handshake"] (.int 35) (HL l n t r fu un wn m0 m1 m2 bx dg pv rc hsD e1 tl), Cc w 172 (.ref 361) (HL l n t r fu un wn m0 m1 m2 bx dg pv rc hsD e1 tl) [.ref 3] (.int S) (HL l n t r fu un wn m0 m1 m2 bx dg pv rc hsD e1 tl), Cc w 172 (.ref 870) (HL l n t r fu un wn m0 m1 m2 bx dg pv rc hsD e1 tl) [.ref 15, .int 0, .int 0] (e5 d [(5, 5)] none) (HL l n t r fu un wn m0 m1 m2 bx dg pv rc hsD e1 tl)]) (by kernel_rfl) (.mk (h3) (.mk (dT q) (.mk (h4) (.mk (h2) (.mk (h1) .nil)))))
 · rw [dF q, Bool.false_and]
   exact e6 (n := 60) (d8 (w := w) (d := 171) (l := [(870, f9 (e5 d [(5, 5)] none)), (361, f9 (.int S)), (340, f9 (.int 35)), (264, f9 (.int Z))])) (by decide) (as := [(282, 11, false)]) (as' := []) (ob := [decide (4 < S - 35) = false, Cc w 172 (.ref 340) (HL l n t r fu un wn m0 m1 m2 bx dg pv rc hsD e1 tl) [.ref 3, .str "handshake"] (.int 35) (HL l n t r fu un wn m0 m1 m2 bx dg pv rc hsD e1 tl), Cc w 172 (.ref 361) (HL l n t r fu un wn m0 m1 m2 bx dg pv rc hsD e1 tl) [.ref 3] (.int S) (HL l n t r fu un wn m0 m1 m2 bx dg pv rc hsD e1 tl), Cc w 172 (.ref 870) (HL l n t r fu un wn m0 m1 m2 bx dg pv rc hsD e1 tl) [.ref 15, .int 0, .int 0] (e5 d [(5, 5)] none) (HL l n t r fu un wn m0 m1 m2 bx dg pv rc hsD e1 tl)]) (by kernel_rfl) (.mk (dF q) (.mk (h4) (.mk (h2) (.mk (h1) .nil))))
noncomputable def y0 (a b : V) : List O -> List V -> V × List O := fun H vs => match vs with
 | [_, .str x] => bif x == ("handshake" : Str) then (a, H) else (b, H)
 | _ => (.none, H)
noncomputable def ntO (th ta : Option Int) (rh ra : Bool) : Option Int := match th, ta with
 | none, none => none
 | none, some x => bif ra then some x else none
 | some y, none => bif rh then some y else none
 | some y, some x => bif rh then some y else bif ra then some x else none
theorem bc {th ta : Option Int} {rh ra : Bool} (hlt : ∀ x y, ta = some x -> th = some y -> ¬ x < y) (h1 : Cc w 232 (.ref 347) (HL l n t r fu un wn m0 m1 m2 bx dg pv rc hs e1 tl) [.ref 3, .str "handshake"] (oV th) (HL l n t r fu un wn m0 m1 m2 bx dg pv rc hs e1 tl)) (h2 : Cc w 232 (.ref 347) (HL l n t r fu un wn m0 m1 m2 bx dg pv rc hs e1 tl) [.ref 3, .str "application"] (oV ta) (HL l n t r fu un wn m0 m1 m2 bx dg pv rc hs e1 tl))
 (h3 : ∀ x, th = some x -> Cc w 232 (.ref 368) (HL l n t r fu un wn m0 m1 m2 bx dg pv rc hs e1 tl) [.ref 3, .str "handshake"] (.bool rh) (HL l n t r fu un wn m0 m1 m2 bx dg pv rc hs e1 tl)) (h4 : ∀ x, ta = some x -> Cc w 232 (.ref 368) (HL l n t r fu un wn m0 m1 m2 bx dg pv rc hs e1 tl) [.ref 3, .str "application"] (.bool ra) (HL l n t r fu un wn m0 m1 m2 bx dg pv rc hs e1 tl)) : Cc w 292 (.ref 373) (HL l n t r fu un wn m0 m1 m2 bx dg pv rc hs e1 tl) [.ref 3] (oV (ntO th ta rh ra)) (HL l n t r fu un wn m0 m1 m2 bx dg pv rc hs e1 tl) := by
 cases th with
 | none =>
  cases ta with
  | none =>
   exact e6 (n := 60) (d8 (w := w) (d := 231) (l := [(347, y0 (.none) (.none)), (368, y0 (.bool rh) (.bool ra))])) (by decide) (as := []) (as' := []) (ob := [Cc w 232 (.ref 347) (HL l n t r fu un wn m0 m1 m2 bx dg pv rc hs e1 tl) [.ref 3, .str "application"] (.none) (HL l n t r fu un wn m0 m1 m2 bx dg pv rc hs e1 tl), Cc w 232 (.ref 347) (HL l n t r fu un wn m0 m1 m2 bx dg pv rc hs e1 tl) [.ref 3, .str "handshake"] (.none) (HL l n t r fu un wn m0 m1 m2 bx dg pv rc hs e1 tl)]) (by kernel_rfl) (.mk (h2) (.mk (h1) .nil))
  | some x =>
   cases ra with
   | true =>
    exact e6 (n := 60) (d8 (w := w) (d := 231) (l := [(347, y0 (.none) (.int x)), (368, y0 (.bool rh) (.bool true))])) (by decide) (as := []) (as' := []) (ob := [Cc w 232 (.ref 347) (HL l n t r fu un wn m0 m1 m2 bx dg pv rc hs e1 tl) [.ref 3, .str "application"] (.int x) (HL l n t r fu un wn m0 m1 m2 bx dg pv rc hs e1 tl), Cc w 232 (.ref 368) (HL l n t r fu un wn m0 m1 m2 bx dg pv rc hs e1 tl) [.ref 3, .str "application"] (.bool true) (HL l n t r fu un wn m0 m1 m2 bx dg pv rc hs e1 tl), Cc w 232 (.ref 347) (HL l n t r fu un wn m0 m1 m2 bx dg pv rc hs e1 tl) [.ref 3, .str "application"] (.int x) (HL l n t r fu un wn m0 m1 m2 bx dg pv rc hs e1 tl), Cc w 232 (.ref 347) (HL l n t r fu un wn m0 m1 m2 bx dg pv rc hs e1 tl) [.ref 3, .str "handshake"] (.none) (HL l n t r fu un wn m0 m1 m2 bx dg pv rc hs e1 tl)]) (by kernel_rfl) (.mk (h2) (.mk (h4 x rfl) (.mk (h2) (.mk (h1) .nil))))
   | false =>
    exact e6 (n := 60) (d8 (w := w) (d := 231) (l := [(347, y0 (.none) (.int x)), (368, y0 (.bool rh) (.bool false))])) (by decide) (as := []) (as' := []) (ob := [Cc w 232 (.ref 368) (HL l n t r fu un wn m0 m1 m2 bx dg pv rc hs e1 tl) [.ref 3, .str "application"] (.bool false) (HL l n t r fu un wn m0 m1 m2 bx dg pv rc hs e1 tl), Cc w 232 (.ref 347) (HL l n t r fu un wn m0 m1 m2 bx dg pv rc hs e1 tl) [.ref 3, .str "application"] (.int x) (HL l n t r fu un wn m0 m1 m2 bx dg pv rc hs e1 tl), Cc w 232 (.ref 347) (HL l n t r fu un wn m0 m1 m2 bx dg pv rc hs e1 tl) [.ref 3, .str "handshake"] (.none) (HL l n t r fu un wn m0 m1 m2 bx dg pv rc hs e1 tl)]) (by kernel_rfl) (.mk (h4 x rfl) (.mk (h2) (.mk (h1) .nil)))
 | some y =>
  cases ta with
  | none =>
   cases rh with
   | true =>
    exact e6 (n := 60) (d8 (w := w) (d := 231) (l := [(347, y0 (.int y) (.none)), (368, y0 (.bool true) (.bool ra))])) (by decide) (as := []) (as' := []) (ob := [Cc w 232 (.ref 347) (HL l n t r fu un wn m0 m1 m2 bx dg pv rc hs e1 tl) [.ref 3, .str "handshake"] (.int y) (HL l n t r fu un wn m0 m1 m2 bx dg pv rc hs e1 tl), Cc w 232 (.ref 368) (HL l n t r fu un wn m0 m1 m2 bx dg pv rc hs e1 tl) [.ref 3, .str "handshake"] (.bool true) (HL l n t r fu un wn m0 m1 m2 bx dg pv rc hs e1 tl), Cc w 232 (.ref 347) (HL l n t r fu un wn m0 m1 m2 bx dg pv rc hs e1 tl) [.ref 3, .str "application"] (.none) (HL l n t r fu un wn m0 m1 m2 bx dg pv rc hs e1 tl), Cc w 232 (.ref 347) (HL l n t r fu un wn m0 m1 m2 bx dg pv rc hs e1 tl) [.ref 3, .str "handshake"] (.int y) (HL l n t r fu un wn m0 m1 m2 bx dg pv rc hs e1 tl)]) (by kernel_rfl) (.mk (h1) (.mk (h3 y rfl) (.mk (h2) (.mk (h1) .nil))))
   | false =>
    exact e6 (n := 60) (d8 (w := w) (d := 231) (l := [(347, y0 (.int y) (.none)), (368, y0 (.bool false) (.bool ra))])) (by decide) (as := []) (as' := []) (ob := [Cc w 232 (.ref 368) (HL l n t r fu un wn m0 m1 m2 bx dg pv rc hs e1 tl) [.ref 3, .str "handshake"] (.bool false) (HL l n t r fu un wn m0 m1 m2 bx dg pv rc hs e1 tl), Cc w 232 (.ref 347) (HL l n t r fu un wn m0 m1 m2 bx dg pv rc hs e1 tl) [.ref 3, .str "application"] (.none) (HL l n t r fu un wn m0 m1 m2 bx dg pv rc hs e1 tl), Cc w 232 (.ref 347) (HL l n t r fu un wn m0 m1 m2 bx dg pv rc hs e1 tl) [.ref 3, .str "handshake"] (.int y) (HL l n t r fu un wn m0 m1 m2 bx dg pv rc hs e1 tl)]) (by kernel_rfl) (.mk (h3 y rfl) (.mk (h2) (.mk (h1) .nil)))
  | some x =>
   cases rh with
   | true =>
    cases ra with
    | true =>
     exact e6 (n := 60) (d8 (w := w) (d := 231) (l := [(347, y0 (.int y) (.int x)), (368, y0 (.bool true) (.bool true))])) (by decide) (as := [(253, 49, false)]) (as' := []) (ob := [decide (x < y) = false, Cc w 232 (.ref 347) (HL l n t r fu un wn m0 m1 m2 bx dg pv rc hs e1 tl) [.ref 3, .str "application"] (.int x) (HL l n t r fu un wn m0 m1 m2 bx dg pv rc hs e1 tl), Cc w 232 (.ref 368) (HL l n t r fu un wn m0 m1 m2 bx dg pv rc hs e1 tl) [.ref 3, .str "application"] (.bool true) (HL l n t r fu un wn m0 m1 m2 bx dg pv rc hs e1 tl), Cc w 232 (.ref 347) (HL l n t r fu un wn m0 m1 m2 bx dg pv rc hs e1 tl) [.ref 3, .str "handshake"] (.int y) (HL l n t r fu un wn m0 m1 m2 bx dg pv rc hs e1 tl), Cc w 232 (.ref 368) (HL l n t r fu un wn m0 m1 m2 bx dg pv rc hs e1 tl) [.ref 3, .str "handshake"] (.bool true) (HL l n t r fu un wn m0 m1 m2 bx dg pv rc hs e1 tl), Cc w 232 (.ref 347) (HL l n t r fu un wn m0 m1 m2 bx dg pv rc hs e1 tl) [.ref 3, .str "application"] (.int x) (HL l n t r fu un wn m0 m1 m2 bx dg pv rc hs e1 tl), Cc w 232 (.ref 347) (HL l n t r fu un wn m0 m1 m2 bx dg pv rc hs e1 tl) [.ref 3, .str "handshake"] (.int y) (HL l n t r fu un wn m0 m1 m2 bx dg pv rc hs e1 tl)]) (by kernel_rfl) (.mk (dF (hlt x y rfl rfl)) (.mk (h2) (.mk (h4 x rfl) (.mk (h1) (.mk (h3 y rfl) (.mk (h2) (.mk (h1) .nil)))))))
    | false =>
     exact e6 (n := 60) (d8 (w := w) (d := 231) (l := [(347, y0 (.int y) (.int x)), (368, y0 (.bool true) (.bool false))])) (by decide) (as := []) (as' := []) (ob := [Cc w 232 (.ref 368) (HL l n t r fu un wn m0 m1 m2 bx dg pv rc hs e1 tl) [.ref 3, .str "application"] (.bool false) (HL l n t r fu un wn m0 m1 m2 bx dg pv rc hs e1 tl), Cc w 232 (.ref 347) (HL l n t r fu un wn m0 m1 m2 bx dg pv rc hs e1 tl) [.ref 3, .str "handshake"] (.int y) (HL l n t r fu un wn m0 m1 m2 bx dg pv rc hs e1 tl), Cc w 232 (.ref 368) (HL l n t r fu un wn m0 m1 m2 bx dg pv rc hs e1 tl) [.ref 3, .str "handshake"] (.bool true) (HL l n t r fu un wn m0 m1 m2 bx dg pv rc hs e1 tl), Cc w 232 (.ref 347) (HL l n t r fu un wn m0 m1 m2 bx dg pv rc hs e1 tl) [.ref 3, .str "application"] (.int x) (HL l n t r fu un wn m0 m1 m2 bx dg pv rc hs e1 tl), Cc w 232 (.ref 347) (HL l n t r fu un wn m0 m1 m2 bx dg pv rc hs e1 tl) [.ref 3, .str "handshake"] (.int y) (HL l n t r fu un wn m0 m1 m2 bx dg pv rc hs e1 tl)]) (by kernel_rfl) (.mk (h4 x rfl) (.mk (h1) (.mk (h3 y rfl) (.mk (h2) (.mk (h1) .nil)))))
   | false =>
    cases ra with
    | true =>
     exact e6 (n := 60) (d8 (w := w) (d := 231) (l := [(347, y0 (.int y) (.int x)), (368, y0 (.bool false) (.bool true))])) (by decide) (as := []) (as' := []) (ob := [Cc w 232 (.ref 347) (HL l n t r fu un wn m0 m1 m2 bx dg pv rc hs e1 tl) [.ref 3, .str "application"] (.int x) (HL l n t r fu un wn m0 m1 m2 bx dg pv rc hs e1 tl), Cc w 232 (.ref 368) (HL l n t r fu un wn m0 m1 m2 bx dg pv rc hs e1 tl) [.ref 3, .str "application"] (.bool true) (HL l n t r fu un wn m0 m1 m2 bx dg pv rc hs e1 tl), Cc w 232 (.ref 368) (HL l n t r fu un wn m0 m1 m2 bx dg pv rc hs e1 tl) [.ref 3, .str "handshake"] (.bool false) (HL l n t r fu un wn m0 m1 m2 bx dg pv rc hs e1 tl), Cc w 232 (.ref 347) (HL l n t r fu un wn m0 m1 m2 bx dg pv rc hs e1 tl) [.ref 3, .str "application"] (.int x) (HL l n t r fu un wn m0 m1 m2 bx dg pv rc hs e1 tl), Cc w 232 (.ref 347) (HL l n t r fu un wn m0 m1 m2 bx dg pv rc hs e1 tl) [.ref 3, .str "handshake"] (.int y) (HL l n t r fu un wn m0 m1 m2 bx dg pv rc hs e1 tl)]) (by kernel_rfl) (.mk (h2) (.mk (h4 x rfl) (.mk (h3 y rfl) (.mk (h2) (.mk (h1) .nil)))))
    | false =>
     exact e6 (n := 60) (d8 (w := w) (d := 231) (l := [(347, y0 (.int y) (.int x)), (368, y0 (.bool false) (.bool false))])) (by decide) (as := []) (as' := []) (ob := [Cc w 232 (.ref 368) (HL l n t r fu un wn m0 m1 m2 bx dg pv rc hs e1 tl) [.ref 3, .str "application"] (.bool false) (HL l n t r fu un wn m0 m1 m2 bx dg pv rc hs e1 tl), Cc w 232 (.ref 368) (HL l n t r fu un wn m0 m1 m2 bx dg pv rc hs e1 tl) [.ref 3, .str "handshake"] (.bool false) (HL l n t r fu un wn m0 m1 m2 bx dg pv rc hs e1 tl), Cc w 232 (.ref 347) (HL l n t r fu un wn m0 m1 m2 bx dg pv rc hs e1 tl) [.ref 3, .str "application"] (.int x) (HL l n t r fu un wn m0 m1 m2 bx dg pv rc hs e1 tl), Cc w 232 (.ref 347) (HL l n t r fu un wn m0 m1 m2 bx dg pv rc hs e1 tl) [.ref 3, .str "handshake"] (.int y) (HL l n t r fu un wn m0 m1 m2 bx dg pv rc hs e1 tl)]) (by kernel_rfl) (.mk (h4 x rfl) (.mk (h3 y rfl) (.mk (h2) (.mk (h1) .nil))))
end
theorem E7 (n : Nat) (a : Int) : veq (n + 1) (.int a) (.int a) = some true := by show some (a == a) = _; rw [beq_self_eq_true]
theorem pE (n : Nat) (p : Int × Int) : veq (n + 2) (pr p) (pr p) = some true := by
 show (match e8 [veq (n + 1) (.int p.1) (.int p.1), veq (n + 1) (.int p.2) (.int p.2)] with | some bs => some (bs.all id && Nat.beq 2 2) | none => none) = _
 rw [E7, E7]; rfl
theorem oh {α : Type} {a : α} {l : List (Option α)} {bs : List α} (h : e8 l = some bs) : e8 (some a :: l) = some (a :: bs) := by
 unfold e8
 rw [h]
theorem bT (n : Nat) : ∀ (rs : List (Int × Int)), e8 (List.zipWith (veq (n + 2)) (rs.map pr) (rs.map pr)) = some (rs.map fun _ => true)
 | [] => rfl
 | p :: rs => by
  rw [List.map_cons, List.zipWith_cons_cons, pE]
  exact oh (bT n rs)
theorem aH {α : Type} : ∀ (rs : List α), (rs.map fun _ => true).all id = true
 | [] => rfl
 | _ :: rs => aH rs
theorem dI (n : Nat) : Nat.beq n n = true := Nat.beq_refl n
theorem pF (n : Nat) (rs : List (Int × Int)) : veq (n + 3) (Rv rs) (Rv rs) = some true := by
 show (bif Nat.beq (rs.map pr).length (rs.map pr).length then (match e8 (List.zipWith (veq (n + 2)) (rs.map pr) (rs.map pr)) with | some bs => some (bs.all id) | none => none) else some false) = _
 rw [dI, bT]
 show some ((rs.map fun _ => true).all id) = _
 rw [aH]
theorem lM (n : Nat) (e : Option (Int × Int × Int)) : veq (n + 2) (W2 e) (W2 e) = some true := by
 cases e with
 | none => rfl
 | some t =>
  obtain ⟨a, b, c⟩ := t
  show (match e8 [veq (n + 1) (.int a) (.int a), veq (n + 1) (.int b) (.int b), veq (n + 1) (.int c) (.int c)] with | some bs => some (bs.all id && Nat.beq 3 3) | none => none) = _
  rw [E7, E7, E7]; rfl
theorem lN (d : Int) (rs : List (Int × Int)) (e : Option (Int × Int × Int)) : veq 8 (e5 d rs e) (e5 d rs e) = some true := by
 show (match e8 [veq 7 (.str "ack") (.str "ack"), veq 7 (.int d) (.int d), veq 7 (Rv rs) (Rv rs), veq 7 (W2 e) (W2 e)] with | some bs => some (bs.all id && Nat.beq 4 4) | none => none) = _
 rw [E7, pF, lM]; kernel_rfl
theorem ie (hp : List O) (d : Int) (rs : List (Int × Int)) (e : Option (Int × Int × Int)) : F3 hp .NotEq (.lst [e5 d rs e]) (.lst [e5 d rs e]) = some false := by
 have h : ceq hp (.lst [e5 d rs e]) (.lst [e5 d rs e]) = some true := by
  show (bif Nat.beq 1 1 then (match e8 [veq 8 (e5 d rs e) (e5 d rs e)] with | some bs => some (bs.all id) | none => none) else some false) = _
  rw [lN]; rfl
 show (ceq hp (.lst [e5 d rs e]) (.lst [e5 d rs e])).map (fun c => !c) = _
 rw [h]; rfl
theorem cU {B : Int} (hB : B < 2 ^ 62) : ∀ (lo : Int) (rs : List (Int × Int)), 0 ≤ lo -> lo ≤ B -> C3 rs -> (∀ p ∈ rs, p.2 < lo - 1 ∧ 0 ≤ p.1) -> (∀ x ∈ m9 lo rs, Vn x) ∧ ∀ p ∈ j8 lo rs, Vn p.1 ∧ Vn p.2
 | lo, [], _, _, _, _ => ⟨(fun x hx => by cases hx), fun p hp => by cases hp⟩
 | lo, (l, h) :: r, h0, h1, hd, hp => by
  have a := hp _ (.head _)
  have b := hd.1
  dsimp only at a
  obtain ⟨i1, i2⟩ := cU hB l r a.2 (by lia) hd.2.2 fun p q => ⟨(hd.2.1 p q).1, (hp p (.tail _ q)).2⟩
  have v1 : Vn (lo - h - 2) := ⟨by lia, by lia⟩
  have v2 : Vn (h - l) := ⟨by lia, by lia⟩
  refine ⟨fun x hx => ?_, fun p hq => ?_⟩
  · rcases mC hx with rfl | hx
    · exact v1
    · rcases mC hx with rfl | hx
      · exact v2
      · exact i1 x hx
  · rcases mC hq with rfl | hq
    · exact ⟨v1, v2⟩
    · exact i2 p hq
theorem C3.take {rs : List (Int × Int)} (h : C3 rs) : ∀ k, C3 (rs.take k) := by
 induction rs with
 | nil => intro k; simp; trivial
 | cons a r ih =>
  obtain ⟨l, hh⟩ := a
  intro k
  cases k with
  | zero => trivial
  | succ k => exact ⟨h.1, fun p hp => h.2.1 p (List.mem_of_mem_take hp), ih h.2.2 k⟩
structure Fz (l n t : Int) (r : List (Int × Int)) (fu : Option Int) (m0 m1 m2 : Int) : Prop where
 d : C3 ((l, n) :: r)
 p : ∀ p ∈ (l, n) :: r, 0 ≤ p.1
 n : n ≤ 20000
 z : r.length < 18
 t : 40 ≤ t ∧ t ≤ 800
 fu : ∀ f, fu = some f -> 40 ≤ f
 m : (0 ≤ m0 ∧ m0 ≤ 100) ∧ (0 ≤ m1 ∧ m1 ≤ 100) ∧ (0 ≤ m2 ∧ m2 ≤ 100)
section
variable {l n t : Int} {r : List (Int × Int)} {fu : Option Int} {m0 m1 m2 : Int}
theorem Fz.ns (h : Fz l n t r fu m0 m1 m2) {d : Int} (hd : Vn d) (k : Nat) : (∀ x ∈ k0 d l n (r.take k) (mkE m0 m1 m2), Vn x) ∧ (∀ p ∈ j8 l (r.take k), Vn p.1 ∧ Vn p.2) := by
 have a := h.d.1
 have b := h.p _ (.head _)
 have c := h.n
 dsimp only at b
 have hz := h.z
 have hr : ∀ p ∈ r.take k, p.2 < l - 1 ∧ 0 ≤ p.1 := fun p hp => ⟨(h.d.2.1 p (List.mem_of_mem_take hp)).1, h.p p (.tail _ (List.mem_of_mem_take hp))⟩
 obtain ⟨g1, g2⟩ := cU (B := 20000) (by decide) l (r.take k) b (by lia) (h.d.2.2.take k) hr
 refine ⟨fun x hx => ?_, g2⟩
 unfold k0 at hx
 rcases mC hx with rfl | hx
 · split <;> exact ⟨by decide, by decide⟩
 · rcases mC hx with rfl | hx
   · exact ⟨by lia, by lia⟩
   · rcases mC hx with rfl | hx
     · exact hd
     · rcases aM hx with hx | hx
       · unfold j4 at hx
         rcases mC hx with rfl | hx
         · have : (r.take k).length ≤ r.length := by rw [List.length_take]; lia
           exact ⟨by push_cast; lia, by push_cast; lia⟩
         · rcases mC hx with rfl | hx
           · exact ⟨by lia, by lia⟩
           · exact g1 x hx
       · obtain ⟨⟨a1, a2⟩, ⟨a3, a4⟩, ⟨a5, a6⟩⟩ := h.m
         unfold mkE at hx
         split at hx
         · rcases mC hx with rfl | hx
           · exact ⟨by lia, by lia⟩
           · rcases mC hx with rfl | hx
             · exact ⟨by lia, by lia⟩
             · rw [nM hx]; exact ⟨by lia, by lia⟩
         · cases hx
end
abbrev hsB (b : Bool) : List (Str × V) := bif b then hsD else hsN
noncomputable abbrev mL (m0 m1 m2 : Int) : O := .list [.int m0, .int m1, .int m2]
abbrev HQ (l n t : Int) (r : List (Int × Int)) (fu : Option Int) (un : Int) (wn : Bool) (m0 m1 m2 : Int) (bx : List V) (dg : Int) (pv : Bool) (rc : Int) (b : Bool) (tl : List O) : List O := HL l n t r fu un wn m0 m1 m2 bx dg pv rc (hsB b) zz3 (mL m0 m1 m2 :: tl)
theorem dD {d l n : Int} {r : List (Int × Int)} {ms : List Int} {room : Int} : p0 d ((l, n) :: r) ms room = [] ∨ ∃ j, p0 d ((l, n) :: r) ms room = (l, n) :: r.take j := by
 unfold p0
 split
 · exact .inl rfl
 · rename_i j _; exact .inr ⟨j, rfl⟩
section
variable {w : World} {bx : List V} {dg : Int} {pv : Bool} {rc : Int} {b : Bool} {tl : List O} {l n t : Int} {r : List (Int × Int)} {fu : Option Int} {un : Int} {wn : Bool} {m0 m1 m2 : Int}
theorem Q6 {now t : Int} (h : t ≤ now ∧ now ≤ t + 2000000) : dlO now t 3 = (now - t).fdiv 8 ∧ Vn ((now - t).fdiv 8) := by
 have e : (if now - t > 0 then now - t else 0) = now - t := by split <;> lia
 have h1 : 0 ≤ (now - t).fdiv 8 := Int.fdiv_nonneg (by lia) (by decide)
 have h2 : (now - t).fdiv 8 ≤ 2000000 := by
  rw [Int.fdiv_eq_ediv_of_nonneg _ (by decide)]; lia
 refine ⟨?_, h1, by lia⟩
 unfold dlO
 rw [e]; rfl
theorem k430 (F : Fz l n t r fu m0 m1 m2) (hg : dg ≤ 12000) {room size now : Int} (hn : t ≤ now ∧ now ≤ t + 2000000) :
 Cc w 232 (.ref 430) (HQ l n t r fu un wn m0 m1 m2 bx dg pv rc b tl) [.ref 3, .str "application", .int room, .int size, .int now] (frO ((now - t).fdiv 8) (p0 ((now - t).fdiv 8) ((l, n) :: r) (mks m0 m1 m2) room) (mkE m0 m1 m2) (C6 (m8 fu wn) now)) (HQ l n t r fu un wn m0 m1 m2 bx dg pv rc b tl) := by
 obtain ⟨e1, e2⟩ := Q6 hn
 have hz := F.z
 obtain ⟨v1, v2⟩ := F.ns e2 r.length
 rw [List.take_length] at v1 v2
 have h1 := (I2 (w := w) (bx := bx) (dg := dg) (pv := pv) (rc := rc) (hs := hsB b) (e1 := zz3) (tl := mL m0 m1 m2 :: tl) (l := l) (n := n) (t := t) (r := r) (fu := fu) (un := un) (wn := wn) (m0 := m0) (m1 := m1) (m2 := m2) (now := now) (ex := 3) (.inl rfl) (by lia)).deep (show 61 ≤ 172 by decide)
 rw [e1] at h1
 have h2 := Q8 (w := w) (d := (now - t).fdiv 8) (lo := l) (hi := n) (room := room) (rest := r) (e := mkE m0 m1 m2) (H := HQ l n t r fu un wn m0 m1 m2 bx dg pv rc b tl) (by lia) v1 v2
 rw [je, ja] at h2
 have h4 := (F8 (w := w) (sp := "application") (now := now) (O1 (w := w) (bx := bx) (dg := dg) (pv := pv) (rc := rc) (hs := hsB b) (e1 := zz3) (tl := mL m0 m1 m2 :: tl) (l := l) (n := n) (t := t) (r := r) (fu := fu) (un := un) (wn := wn) (m0 := m0) (m1 := m1) (m2 := m2))).deep (show 91 ≤ 172 by decide)
 refine V9 (Z := A4 ((now - t).fdiv 8) (p0 ((now - t).fdiv 8) ((l, n) :: r) (mks m0 m1 m2) room) (mkE m0 m1 m2)) hg h1 h2 (fun hne => ?_) h4
 rcases dD (d := (now - t).fdiv 8) (l := l) (n := n) (r := r) (ms := mks m0 m1 m2) (room := room) with e | ⟨j, e⟩
 · exact absurd e hne
 · rw [e]
   obtain ⟨v3, -⟩ := F.ns e2 j
   exact (m6 (w := w) (by rw [List.length_take]; lia) v3).deep (by decide)
theorem lD {d : Int} : A4 d [(5, 5)] none ≤ 12 ∧ A4 4611686018427387903 [(5, 5)] none = 12 := by
 refine ⟨?_, by decide +kernel⟩
 have h : A4 d [(5, 5)] none = ((1 + (1 + (oct d + (1 + (1 + 0)))) : Nat) : Int) := rfl
 have := hY d
 rw [h]; push_cast; lia
theorem pD {d : Int} (hd : Vn d) : ∀ x ∈ k0 d 5 5 [] none, Vn x := fun x hx => by
 rcases mC hx with rfl | hx
 · exact ⟨by decide, by decide⟩
 · rcases mC hx with rfl | hx
   · exact ⟨by decide, by decide⟩
   · rcases mC hx with rfl | hx
     · exact hd
     · have hx : x ∈ [(((0 + 1 : Nat) : Int) - 1), (5 - 5 : Int)] := hx
       rcases mC hx with rfl | hx
       · exact ⟨by decide, by decide⟩
       · rw [nM hx]; exact ⟨by decide, by decide⟩
theorem I1 {now ex : Int} (hx : ex = 3 ∨ ex = 0) : Cc w 61 (.ref 870) (HQ l n t r fu un wn m0 m1 m2 bx dg pv rc true tl) [.ref 15, .int now, .int ex] (e5 (dlO now 30 ex) [(5, 5)] none) (HQ l n t r fu un wn m0 m1 m2 bx dg pv rc true tl) := by
 rcases hx with rfl | rfl
 · exact x_c (n := 60) (d7 (d := 0)) (by decide) (by kernel_rfl)
 · exact x_c (n := 60) (d7 (d := 0)) (by decide) (by kernel_rfl)
theorem Gn (hg : dg ≤ 12000) {room size now : Int} (hr : 12 ≤ room) (hn : 30 ≤ now ∧ now ≤ 30 + 2000000) :
 Cc w 232 (.ref 430) (HQ l n t r fu un wn m0 m1 m2 bx dg pv rc true tl) [.ref 3, .str "handshake", .int room, .int size, .int now] (.lst [e5 ((now - 30).fdiv 8) [(5, 5)] none]) (HQ l n t r fu un wn m0 m1 m2 bx dg pv rc true tl) := by
 obtain ⟨e1, e2⟩ := Q6 hn
 have h1 := (I1 (w := w) (bx := bx) (dg := dg) (pv := pv) (rc := rc) (tl := tl) (l := l) (n := n) (t := t) (r := r) (fu := fu) (un := un) (wn := wn) (m0 := m0) (m1 := m1) (m2 := m2) (now := now) (ex := 3) (.inl rfl)).deep (show 61 ≤ 172 by decide)
 rw [e1] at h1
 have h2 := Q8 (w := w) (d := (now - 30).fdiv 8) (lo := 5) (hi := 5) (room := room) (rest := []) (e := none) (H := HQ l n t r fu un wn m0 m1 m2 bx dg pv rc true tl) (by decide) (pD e2) (fun p hp => by cases hp)
 have ec : jf ((now - 30).fdiv 8) [(5, 5)] none room = [(5, 5)] := if_pos (by have := (lD (d := (now - 30).fdiv 8)).1; lia)
 rw [ec] at h2
 have h4 := (F8 (w := w) (sp := "handshake") (due := some 30) (now := now) (O0 (w := w) (bx := bx) (dg := dg) (pv := pv) (rc := rc) (e1 := zz3) (tl := mL m0 m1 m2 :: tl) (l := l) (n := n) (t := t) (r := r) (fu := fu) (un := un) (wn := wn) (m0 := m0) (m1 := m1) (m2 := m2))).deep (show 91 ≤ 172 by decide)
 rw [show C6 (some 30) now = true from dT hn.1] at h4
 exact V8 (Z := A4 ((now - 30).fdiv 8) [(5, 5)] none) hg h1 h2 ((m6 (w := w) (by decide) (pD e2)).deep (by decide)) h4
theorem oX : Cc w 131 (.ref 340) (HQ l n t r fu un wn m0 m1 m2 bx dg pv rc b tl) [.ref 3, .str "application"] (.int 25) (HQ l n t r fu un wn m0 m1 m2 bx dg pv rc b tl) := by
 cases b
 · exact V6
 · exact V7
theorem Go : Cc w 131 (.ref 340) (HQ l n t r fu un wn m0 m1 m2 bx dg pv rc b tl) [.ref 3, .str "handshake"] (.int 35) (HQ l n t r fu un wn m0 m1 m2 bx dg pv rc b tl) := by
 cases b
 · exact Z8
 · exact G8
noncomputable def thO (b : Bool) : Option Int := bif b then some 30 else none
theorem jb (F : Fz l n t r fu m0 m1 m2) {x : Int} (h : m8 fu wn = some x) : 40 ≤ x := by
 cases hf : fu with
 | none => rw [hf] at h; cases h
 | some f =>
  rw [hf] at h
  have := F.fu f hf
  cases wn with
  | true => have h : some f = some x := h; cases h; exact this
  | false => have h : some (f + 25000) = some x := h; cases h; lia
theorem k373 (F : Fz l n t r fu m0 m1 m2) : Cc w 292 (.ref 373) (HQ l n t r fu un wn m0 m1 m2 bx dg pv rc b tl) [.ref 3] (oV (ntO (thO b) (m8 fu wn) (decide (12 ≤ dgS pv dg rc - 35)) (decide (4 < dgS pv dg rc - 25) && decide (t8 4611686018427387903 [(l, n)] (mks m0 m1 m2) ≤ dgS pv dg rc - 25)))) (HQ l n t r fu un wn m0 m1 m2 bx dg pv rc b tl) := by
 have vg : Vn 4611686018427387903 := ⟨by decide, by decide⟩
 have hz := F.z
 have h361 := (I8 (w := w) (bx := bx) (dg := dg) (pv := pv) (rc := rc) (hs := hsB b) (e1 := zz3) (tl := mL m0 m1 m2 :: tl) (l := l) (n := n) (t := t) (r := r) (fu := fu) (un := un) (wn := wn) (m0 := m0) (m1 := m1) (m2 := m2)).deep (show 61 ≤ 172 by decide)
 refine bc (fun x y hx hy => ?_) ?_ ((O1 (w := w)).deep (by decide)) (fun x hx => ?_) (fun x hx => ?_)
 · have := jb F hx
   cases b with
   | false => cases hy
   | true => have hy : some (30 : Int) = some y := hy; cases hy; lia
 · cases b with
   | false => exact (bQ (w := w)).deep (by decide)
   | true => exact (O0 (w := w)).deep (by decide)
 · cases b with
   | false => cases hx
   | true =>
    have h1 := (I1 (w := w) (bx := bx) (dg := dg) (pv := pv) (rc := rc) (tl := tl) (l := l) (n := n) (t := t) (r := r) (fu := fu) (un := un) (wn := wn) (m0 := m0) (m1 := m1) (m2 := m2) (now := 0) (ex := 0) (.inr rfl)).deep (show 61 ≤ 172 by decide)
    have z := dQ (w := w) (S := dgS pv dg rc) (Z := A4 4611686018427387903 [(5, 5)] none) h1 h361 ((m6 (w := w) (by decide) (pD vg)).deep (by decide))
    rw [(lD (d := 0)).2] at z
    have e : (decide (4 < dgS pv dg rc - 35) && decide (12 ≤ dgS pv dg rc - 35)) = decide (12 ≤ dgS pv dg rc - 35) := by
     by_cases q : 12 ≤ dgS pv dg rc - 35
     · rw [dT q, dT (show 4 < dgS pv dg rc - 35 by lia)]; rfl
     · rw [dF q, Bool.and_false]
    rw [e] at z
    exact z
 · have h1 := (I2 (w := w) (bx := bx) (dg := dg) (pv := pv) (rc := rc) (hs := hsB b) (e1 := zz3) (tl := mL m0 m1 m2 :: tl) (l := l) (n := n) (t := t) (r := r) (fu := fu) (un := un) (wn := wn) (m0 := m0) (m1 := m1) (m2 := m2) (now := 0) (ex := 0) (.inr rfl) (by lia)).deep (show 61 ≤ 172 by decide)
   obtain ⟨v3, -⟩ := F.ns vg 0
   have z := dR (w := w) (S := dgS pv dg rc) (Z := A4 4611686018427387903 [(l, n)] (mkE m0 m1 m2)) h1 h361 ((m6 (w := w) (Nat.zero_le _) v3).deep (by decide)) (oX.deep (by decide))
   rw [E6, ja] at z
   exact z
end
abbrev lwK : Kt := ⟨aW.1.names, [], false⟩
abbrev L3 : Stmt := nS b7.1 14
abbrev lwB : List Stmt := j9 L3
abbrev lw3 : Stmt := nS lwB 3
abbrev lw5 : Stmt := nS lwB 5
abbrev mJ : Expr := sN lw3 0
abbrev O7 : Expr := sN lw5 0
theorem yM : nS lwB 3 = .If (.Compare (eN mJ 0) [.NotEq] [eN mJ 1] mJ.pos) (kB lw3) [] (sP lw3) := by kernel_rfl
theorem yL : nS lwB 5 = .If (.BoolOp .And [eN O7 0, eN O7 1, .Compare (eN (eN O7 2) 0) [.NotEq] [eN (eN O7 2) 1] (eN O7 2).pos] O7.pos) (kB lw5) [] (sP lw5) := by kernel_rfl
def qL (S : Int) (due : Option Int) (t l n : Int) (r : List (Int × Int)) (b : Bool) : List (Str × V) := [("rest", .int (S - 35)), ("due", oV due), ("left", .int (S - 25)), ("size", .int S), ("last", .int t), ("marks", .ref 30), ("ranges", Rv ((l, n) :: r)), ("has_second", .bool b), ("conn", .ref 3)]
section
variable {w : World} {X : Cf} {bx : List V} {dg : Int} {pv : Bool} {rc : Int} {b : Bool} {tl : List O} {l n t : Int} {r : List (Int × Int)} {fu : Option Int} {un : Int} {wn : Bool} {m0 m1 m2 S now d : Int} {due : Option Int} {told : List (Int × Int)} {e : Option (Int × Int × Int)}
def qT (now d S : Int) (told : List (Int × Int)) (e : Option (Int × Int × Int)) (due : Option Int) (t l n : Int) (r : List (Int × Int)) (b : Bool) : List (Str × V) := ("frames", .lst [e5 d told e]) :: ("told", Rv told) :: ("delay", .int d) :: ("now", .int now) :: qL S due t l n r b
theorem FO (M : Mt X lwK) (hm : Rm X 330) (hp : List O) (h : Cc w 300 (.ref 430) hp [.ref 3, .str "application", .int (S - 25), .int S, .int now] (frO d told e (C6 due now)) hp) :
 E1 w X ⟨qT now d S told e due t l n r b, hp⟩ (nS lwB 3) .next ⟨qT now d S told e due t l n r b, hp⟩ := by
 rw [yM]
 have hm1 : Rm X 61 := hm.less (by decide)
 have hl : Ev w X ⟨qT now d S told e due t l n r b, hp⟩ (eN mJ 0) (frO d told e (C6 due now)) ⟨qT now d S told e due t l n r b, hp⟩ :=
  y8 (n := 30) (S := ⟨qT now d S told e due t l n r b, hp, [], []⟩) (S' := ⟨qT now d S told e due t l n r b, hp, [], [Cc w 300 (.ref 430) hp [.ref 3, .str "application", .int (S - 25), .int S, .int now] (frO d told e (C6 due now)) hp]⟩) (d8 (w := w) (d := 299) (l := [(430, f9 (frO d told e (C6 due now)))])) (by decide) M hm (by kernel_rfl) (.mk h .nil)
 refine E1.ite (b := false) ?_ (fun q => by cases q) (fun _ => .nil)
 clear h
 cases told with
 | nil => exact Te.cmp2 (hm.less (by decide)) hl (B4 (v := .lst []) (fr' := qT now d S [] e due t l n r b) (hp' := hp) M hm1 (by kernel_rfl)) (by kernel_rfl) (by kernel_rfl)
 | cons x xs =>
  cases due with
  | none => exact Te.cmp2 (hm.less (by decide)) hl (B4 (v := .lst []) (fr' := qT now d S (x :: xs) e none t l n r b) (hp' := hp) M hm1 (by kernel_rfl)) (by kernel_rfl) (by kernel_rfl)
  | some y =>
   by_cases q : y ≤ now
   · rw [show C6 (some y) now = true from dT q] at hl
     exact Te.cmp2 (hm.less (by decide)) hl (eO (v := .lst [e5 d (x :: xs) e]) (fr' := qT now d S (x :: xs) e (some y) t l n r b) (hp' := hp) M hm1 (as := [(771, 110, true)]) (as' := []) (ob := [decide (y ≤ now) = true]) (by kernel_rfl) (.mk (dT q) .nil)) (ie _ _ _ _) (by kernel_rfl)
   · rw [show C6 (some y) now = false from dF q] at hl
     exact Te.cmp2 (hm.less (by decide)) hl (eO (v := .lst []) (fr' := qT now d S (x :: xs) e (some y) t l n r b) (hp' := hp) M hm1 (as := [(771, 110, false)]) (as' := []) (ob := [decide (y ≤ now) = false]) (by kernel_rfl) (.mk (dF q) .nil)) (by kernel_rfl) (by kernel_rfl)
theorem FN (M : Mt X lwK) (hm : Rm X 330) (hp : List O) (h : b = true -> 12 ≤ S - 35 -> Cc w 300 (.ref 430) hp [.ref 3, .str "handshake", .int (S - 35), .int S, .int now] (.lst [e5 ((now - 30).fdiv 8) [(5, 5)] none]) hp) :
 E1 w X ⟨("second", .lst [e5 ((now - 30).fdiv 8) [(5, 5)] none]) :: qT now d S told e due t l n r b, hp⟩ (nS lwB 5) .next ⟨("second", .lst [e5 ((now - 30).fdiv 8) [(5, 5)] none]) :: qT now d S told e due t l n r b, hp⟩ := by
 rw [yL]
 have hm1 : Rm X 61 := hm.less (by decide)
 refine E1.ite (b := false) (σ' := ⟨("second", .lst [e5 ((now - 30).fdiv 8) [(5, 5)] none]) :: qT now d S told e due t l n r b, hp⟩) ?_ (fun q => by cases q) (fun _ => .nil)
 have t1 : Te w X ⟨("second", .lst [e5 ((now - 30).fdiv 8) [(5, 5)] none]) :: qT now d S told e due t l n r b, hp⟩ (eN O7 0) b ⟨("second", .lst [e5 ((now - 30).fdiv 8) [(5, 5)] none]) :: qT now d S told e due t l n r b, hp⟩ := by
  cases b
  · exact X4 M hm1 (by kernel_rfl)
  · exact X4 M hm1 (by kernel_rfl)
 refine Te.and t1 (fun hb => ?_) (fun hb => ⟨rfl, rfl⟩)
 have t2 : ∀ c, decide (S - 35 ≥ 12) = c -> Te w X ⟨("second", .lst [e5 ((now - 30).fdiv 8) [(5, 5)] none]) :: qT now d S told e due t l n r b, hp⟩ (eN O7 1) c ⟨("second", .lst [e5 ((now - 30).fdiv 8) [(5, 5)] none]) :: qT now d S told e due t l n r b, hp⟩ := fun c hc =>
  pB M hm1 (as := [(774, 26, c)]) (as' := []) (ob := [decide (S - 35 ≥ 12) = c]) (by kernel_rfl) (.mk hc .nil)
 refine Te.and (t2 _ rfl) (fun hc => ?_) (fun hc => ⟨rfl, rfl⟩)
 have hc : 12 ≤ S - 35 := dO hc
 have h := h hb hc
 have hl : Ev w X ⟨("second", .lst [e5 ((now - 30).fdiv 8) [(5, 5)] none]) :: qT now d S told e due t l n r b, hp⟩ (eN (eN O7 2) 0) (.lst [e5 ((now - 30).fdiv 8) [(5, 5)] none]) ⟨("second", .lst [e5 ((now - 30).fdiv 8) [(5, 5)] none]) :: qT now d S told e due t l n r b, hp⟩ :=
  y8 (n := 30) (S := ⟨("second", .lst [e5 ((now - 30).fdiv 8) [(5, 5)] none]) :: qT now d S told e due t l n r b, hp, [], []⟩) (S' := ⟨("second", .lst [e5 ((now - 30).fdiv 8) [(5, 5)] none]) :: qT now d S told e due t l n r b, hp, [], [Cc w 300 (.ref 430) hp [.ref 3, .str "handshake", .int (S - 35), .int S, .int now] (.lst [e5 ((now - 30).fdiv 8) [(5, 5)] none]) hp]⟩) (d8 (w := w) (d := 299) (l := [(430, f9 (.lst [e5 ((now - 30).fdiv 8) [(5, 5)] none]))])) (by decide) M hm (by kernel_rfl) (.mk h .nil)
 have hr : Ev w X ⟨("second", .lst [e5 ((now - 30).fdiv 8) [(5, 5)] none]) :: qT now d S told e due t l n r b, hp⟩ (eN (eN O7 2) 1) (.lst [e5 ((now - 30).fdiv 8) [(5, 5)] none]) ⟨("second", .lst [e5 ((now - 30).fdiv 8) [(5, 5)] none]) :: qT now d S told e due t l n r b, hp⟩ := B4 M hm1 (by kernel_rfl)
 exact Te.and (Te.cmp2 (hm.less (by decide)) hl hr (ie _ _ _ _) (by kernel_rfl)) (fun q => by cases q) (fun _ => ⟨rfl, rfl⟩)
theorem yK : lwB = [nS lwB 0, nS lwB 1, nS lwB 2, nS lwB 3, nS lwB 4, nS lwB 5] := by kernel_rfl
theorem mH (M : Mt X lwK) (hm : Rm X 330) (F : Fz l n t r fu m0 m1 m2) (hg : dg ≤ 12000) (hS : S = dgS pv dg rc) (hn : t ≤ now ∧ now ≤ t + 1000000) :
 Ex w X ⟨("now", .int now) :: qL S (m8 fu wn) t l n r b, HQ l n t r fu un wn m0 m1 m2 bx dg pv rc b tl⟩ lwB .next ⟨qL S (m8 fu wn) t l n r b, HQ l n t r fu un wn m0 m1 m2 bx dg pv rc b tl⟩ := by
 have hm1 : Rm X 61 := hm.less (by decide)
 have hz := F.z
 have ht := F.t
 rw [yK]
 have c1 := (dJ (w := w) (dg := dg) (pv := pv) (rc := rc) (hs := hsB b) (e1 := zz3) (tl := tl) (a := fA l n t r fu un wn m0 m1 m2) (bx := bx) (d := (now - t).fdiv 8) (room := S - 25) (lo := l) (hi := n) (rest := r) (m0 := m0) (m1 := m1) (m2 := m2) (by lia)).deep (show 124 ≤ 300 by decide)
 have c2 := (k430 (w := w) (bx := bx) (pv := pv) (rc := rc) (b := b) (tl := tl) (un := un) (wn := wn) F hg (room := S - 25) (size := S) (now := now) ⟨hn.1, by lia⟩).deep (show 232 ≤ 300 by decide)
 have s0 : E1 w X ⟨("now", .int now) :: qL S (m8 fu wn) t l n r b, HQ l n t r fu un wn m0 m1 m2 bx dg pv rc b tl⟩ (nS lwB 0) .next ⟨("delay", .int ((now - t).fdiv 8)) :: ("now", .int now) :: qL S (m8 fu wn) t l n r b, HQ l n t r fu un wn m0 m1 m2 bx dg pv rc b tl⟩ := k9 M hm1 (by kernel_rfl)
 generalize hH : HQ l n t r fu un wn m0 m1 m2 bx dg pv rc b tl = H at s0 c1 c2 ⊢
 have c1 : Cc w 300 (.ref 1016) H [Rv ((l, n) :: r), .int ((now - t).fdiv 8), .ref 30, .int (S - 25)] (Rv (p0 ((now - t).fdiv 8) ((l, n) :: r) (mks m0 m1 m2) (S - 25))) H := hH ▸ c1
 generalize p0 ((now - t).fdiv 8) ((l, n) :: r) (mks m0 m1 m2) (S - 25) = told at c1 c2
 generalize hdu : m8 fu wn = due at s0 c2 ⊢
 generalize hdd : (now - t).fdiv 8 = d at s0 c1 c2
 have s1 : E1 w X ⟨("delay", .int d) :: ("now", .int now) :: qL S due t l n r b, H⟩ (nS lwB 1) .next ⟨("told", Rv told) :: ("delay", .int d) :: ("now", .int now) :: qL S due t l n r b, H⟩ :=
  p8 (n := 30) (S := ⟨("delay", .int d) :: ("now", .int now) :: qL S due t l n r b, H, [], []⟩) (S' := ⟨("told", Rv told) :: ("delay", .int d) :: ("now", .int now) :: qL S due t l n r b, H, [], [Cc w 300 (.ref 1016) H [Rv ((l, n) :: r), .int d, .ref 30, .int (S - 25)] (Rv told) H]⟩) (d8 (w := w) (d := 299) (l := [(1016, f9 (Rv told))])) (by decide) M hm (by kernel_rfl) (.mk c1 .nil)
 have s2 : E1 w X ⟨("told", Rv told) :: ("delay", .int d) :: ("now", .int now) :: qL S due t l n r b, H⟩ (nS lwB 2) .next ⟨qT now d S told (mkE m0 m1 m2) due t l n r b, H⟩ := by
  rw [← hH]
  unfold qT mkE
  by_cases q : 0 < [m0, m1, m2].sum
  · rw [if_pos q]; exact x9 M hm1 (as := [(770, 55, true)]) (as' := []) (ob := [decide (0 < [m0, m1, m2].sum) = true]) (by kernel_rfl) (.mk (dT q) .nil)
  · rw [if_neg q]; exact x9 M hm1 (as := [(770, 55, false)]) (as' := []) (ob := [decide (0 < [m0, m1, m2].sum) = false]) (by kernel_rfl) (.mk (dF q) .nil)
 have s3 := FO (w := w) (t := t) (l := l) (n := n) (r := r) (b := b) M hm H c2
 have s4 : E1 w X ⟨qT now d S told (mkE m0 m1 m2) due t l n r b, H⟩ (nS lwB 4) .next ⟨("second", .lst [e5 ((now - 30).fdiv 8) [(5, 5)] none]) :: qT now d S told (mkE m0 m1 m2) due t l n r b, H⟩ := k9 M hm1 (by kernel_rfl)
 have s5 := FN (w := w) (now := now) (d := d) (S := S) (told := told) (e := mkE m0 m1 m2) (due := due) (t := t) (l := l) (n := n) (r := r) (b := b) M hm H (fun hb hc => by
  subst hb
  have z := (Gn (w := w) (bx := bx) (pv := pv) (rc := rc) (tl := tl) (l := l) (n := n) (t := t) (r := r) (fu := fu) (un := un) (wn := wn) (m0 := m0) (m1 := m1) (m2 := m2) hg (room := S - 35) (size := S) (now := now) hc ⟨by lia, by lia⟩).deep (show 232 ≤ 300 by decide)
  rw [hH] at z
  exact z)
 exact Ex.sub (.cons s0 (.cons s1 (.cons s2 (.cons s3 (.cons s4 (.cons s5 .nil)))))) (by refine ⟨?_, ?_, ?_, ?_, ?_, ?_, ?_, ?_, ?_, trivial⟩ <;> kernel_rfl)
theorem cx (M : Mt X lwK) (hm : Rm X 330) (F : Fz l n t r fu m0 m1 m2) (hg : dg ≤ 12000) (hS : S = dgS pv dg rc) : ∀ (ns : List Int), (∀ now ∈ ns, t ≤ now ∧ now ≤ t + 1000000) →
 Lp w X (p7 L3) lwB (ns.map .int) ⟨qL S (m8 fu wn) t l n r b, HQ l n t r fu un wn m0 m1 m2 bx dg pv rc b tl⟩ .next ⟨qL S (m8 fu wn) t l n r b, HQ l n t r fu un wn m0 m1 m2 bx dg pv rc b tl⟩
 | [], _ => .done
 | now :: ns, h => by
  have hA : As w X ⟨qL S (m8 fu wn) t l n r b, HQ l n t r fu un wn m0 m1 m2 bx dg pv rc b tl⟩ (p7 L3) (.int now) ⟨("now", .int now) :: qL S (m8 fu wn) t l n r b, HQ l n t r fu un wn m0 m1 m2 bx dg pv rc b tl⟩ := X5 M (hm.less (by decide)) (by kernel_rfl)
  exact .step hA (mH M hm F hg hS (h _ (.head _))) (.inl rfl) (cx M hm F hg hS ns fun x hx => h x (.tail _ hx))
end
section
variable {w : World} {X : Cf} {bx : List V} {dg : Int} {pv : Bool} {rc : Int} {b : Bool} {tl : List O} {l n t : Int} {r : List (Int × Int)} {fu : Option Int} {un : Int} {wn : Bool} {m0 m1 m2 S now d c : Int} {due : Option Int} {xs : List Int}
noncomputable def q3 (dg : Int) : List (Str × V) := [("conn", .ref 3), ("datagram", .int dg), ("box", .ref 1)]
def q4 (b : Bool) (dg : Int) : List (Str × V) := ("has_second", .bool b) :: q3 dg
def q5 (wn : Bool) (fu : Option Int) (t l n : Int) (r : List (Int × Int)) (b : Bool) (dg : Int) : List (Str × V) := ("at_once", .bool wn) :: ("first", oV fu) :: ("last", .int t) :: ("marks", .ref 30) :: ("ranges", Rv ((l, n) :: r)) :: q4 b dg
noncomputable def rmV (pv : Bool) (rc : Int) : V := bif pv then .none else .int (if 3 * rc - 0 > 0 then 3 * rc - 0 else 0)
def q7 (S : Int) (pv : Bool) (rc : Int) (wn : Bool) (fu : Option Int) (t l n : Int) (r : List (Int × Int)) (b : Bool) (dg : Int) : List (Str × V) := ("size", .int S) :: ("room", rmV pv rc) :: q5 wn fu t l n r b dg
def q9 (due : Option Int) (S : Int) (pv : Bool) (rc : Int) (wn : Bool) (fu : Option Int) (t l n : Int) (r : List (Int × Int)) (b : Bool) (dg : Int) : List (Str × V) := ("due", oV due) :: ("left", .int (S - 25)) :: ("times", .ref 31) :: q7 S pv rc wn fu t l n r b dg
def q11 (due : Option Int) (S : Int) (pv : Bool) (rc : Int) (wn : Bool) (fu : Option Int) (t l n : Int) (r : List (Int × Int)) (b : Bool) (dg : Int) : List (Str × V) := ("rest", .int (S - 35)) :: q9 due S pv rc wn fu t l n r b dg
theorem lw_3 (M : Mt X lwK) (hm : Rm X 330) (hc : 0 ≤ c) (hc2 : c < 1000) : ∃ c', c' = c + 1 ∧ E1 w X ⟨q3 dg, a00.H (bxV xs c) dg pv rc hsN zz3 []⟩ (nS b7.1 3) .next ⟨q4 (tk xs c 2 == 1) dg, a00.H (bxV xs c') dg pv rc hsN zz3 []⟩ :=
 ⟨_, rfl, p8 (n := 30) (S := ⟨q3 dg, a00.H (bxV xs c) dg pv rc hsN zz3 [], [], []⟩) (S' := ⟨q4 (tk xs c 2 == 1) dg, a00.H (bxV xs (c + 1)) dg pv rc hsN zz3 [], [], [Cc w 300 (.ref 994) (a00.H (bxV xs c) dg pv rc hsN zz3 []) [.ref 1, .int 2] (.int (tk xs c 2)) (a00.H (bxV xs (c + 1)) dg pv rc hsN zz3 [])]⟩) (d8 (w := w) (d := 299) (l := [(994, fun _ _ => (.int (tk xs c 2), a00.H (bxV xs (c + 1)) dg pv rc hsN zz3 []))])) (by decide) M hm (by kernel_rfl) (.mk ((t7 hc (by lia) (by decide)).deep (by decide)) .nil)⟩
theorem lw_4 (M : Mt X lwK) (hm : Rm X 330) : E1 w X ⟨q4 b dg, a00.H bx dg pv rc hsN zz3 []⟩ (nS b7.1 4) .next ⟨q4 b dg, a00.H bx dg pv rc (hsB b) zz3 []⟩ := by
 have hm1 : Rm X 61 := hm.less (by decide)
 cases b
 · exact k9 M hm1 (by kernel_rfl)
 · have c : Cc w 270 (.ref 815) (a00.H bx dg pv rc hsN zz3 []) [Rv [], .int 5] (Rv [(5, 5)]) (a00.H bx dg pv rc hsN zz3 []) := (E5 (w := w) (rs := []) (n := 5) trivial (fun p hp => by cases hp) (by decide)).deep (by decide)
   exact p8 (n := 60) (S := ⟨q4 true dg, a00.H bx dg pv rc hsN zz3 [], [], []⟩) (S' := ⟨q4 true dg, a00.H bx dg pv rc hsD zz3 [], [], [Cc w 270 (.ref 815) (a00.H bx dg pv rc hsN zz3 []) [Rv [], .int 5] (Rv [(5, 5)]) (a00.H bx dg pv rc hsN zz3 [])]⟩) (d8 (w := w) (d := 269) (l := [(815, f9 (Rv [(5, 5)]))])) (by decide) M hm (by kernel_rfl) (.mk c .nil)
theorem lw_5 (M : Mt X lwK) (hm : Rm X 330) {k : Nat} {bx' : List V} (h : Cc w 125 (.ref 1023) (a00.H bx dg pv rc (hsB b) zz3 []) [.ref 1, .ref 18] (.tup [Rv ((l, n) :: r), .ref 30, .int t, oV fu, .bool wn]) (HQ l n t r fu un wn m0 m1 m2 bx' dg pv rc b [])) :
 E1 w X ⟨q4 b dg, a00.H bx dg pv rc (hsB b) zz3 []⟩ (nS b7.1 5) .next ⟨q5 wn fu t l n r b dg, HQ l n t r fu un wn m0 m1 m2 bx' dg pv rc b []⟩ :=
 p8 (n := 30) (S := ⟨q4 b dg, a00.H bx dg pv rc (hsB b) zz3 [], [], []⟩) (S' := ⟨q5 wn fu t l n r b dg, HQ l n t r fu un wn m0 m1 m2 bx' dg pv rc b [], [], [Cc w 300 (.ref 1023) (a00.H bx dg pv rc (hsB b) zz3 []) [.ref 1, .ref 18] (.tup [Rv ((l, n) :: r), .ref 30, .int t, oV fu, .bool wn]) (HQ l n t r fu un wn m0 m1 m2 bx' dg pv rc b [])]⟩) (d8 (w := w) (d := 299) (l := [(1023, fun _ _ => (.tup [Rv ((l, n) :: r), .ref 30, .int t, oV fu, .bool wn], HQ l n t r fu un wn m0 m1 m2 bx' dg pv rc b []))])) (by decide) M hm (by kernel_rfl) (.mk (h.deep (by decide)) .nil)
theorem lw_6 (M : Mt X lwK) (hm : Rm X 61) : E1 w X ⟨q5 wn fu t l n r b dg, HQ l n t r fu un wn m0 m1 m2 bx dg pv rc b tl⟩ (nS b7.1 6) .next ⟨("room", rmV pv rc) :: q5 wn fu t l n r b dg, HQ l n t r fu un wn m0 m1 m2 bx dg pv rc b tl⟩ := by
 cases pv
 · exact k9 M hm (by kernel_rfl)
 · exact k9 M hm (by kernel_rfl)
theorem lw_7 (M : Mt X lwK) (hm : Rm X 61) (hp : List O) : E1 w X ⟨("room", rmV pv rc) :: q5 wn fu t l n r b dg, hp⟩ (nS b7.1 7) .next ⟨q7 (dgS pv dg rc) pv rc wn fu t l n r b dg, hp⟩ := by
 cases pv
 · exact k9 M hm (by kernel_rfl)
 · exact k9 M hm (by kernel_rfl)
theorem lw_8 (M : Mt X lwK) (hm : Rm X 330) : E1 w X ⟨q7 S pv rc wn fu t l n r b dg, HQ l n t r fu un wn m0 m1 m2 bx dg pv rc b []⟩ (nS b7.1 8) .next ⟨("left", .int (S - 25)) :: ("times", .ref 31) :: q7 S pv rc wn fu t l n r b dg, HQ l n t r fu un wn m0 m1 m2 bx dg pv rc b [.list []]⟩ :=
 p8 (n := 30) (S := ⟨q7 S pv rc wn fu t l n r b dg, HQ l n t r fu un wn m0 m1 m2 bx dg pv rc b [], [], []⟩) (S' := ⟨("left", .int (S - 25)) :: ("times", .ref 31) :: q7 S pv rc wn fu t l n r b dg, HQ l n t r fu un wn m0 m1 m2 bx dg pv rc b [.list []], [], [Cc w 300 (.ref 340) (HQ l n t r fu un wn m0 m1 m2 bx dg pv rc b []) [.ref 3, .str "application"] (.int 25) (HQ l n t r fu un wn m0 m1 m2 bx dg pv rc b [])]⟩) (d8 (w := w) (d := 299) (l := [(340, f9 (.int 25))])) (by decide) M hm (by kernel_rfl) (.mk (oX.deep (by decide)) .nil)
theorem lw_9 (M : Mt X lwK) (hm : Rm X 61) (hp : List O) : E1 w X ⟨("left", .int (S - 25)) :: ("times", .ref 31) :: q7 S pv rc wn fu t l n r b dg, hp⟩ (nS b7.1 9) .next ⟨q9 (m8 fu wn) S pv rc wn fu t l n r b dg, hp⟩ := by
 cases fu with
 | none => exact k9 M hm (by kernel_rfl)
 | some f =>
  cases wn
  · exact k9 M hm (by kernel_rfl)
  · exact k9 M hm (by kernel_rfl)
noncomputable def ts1 (due : Option Int) (ra : Bool) : List Int := match due with
 | none => []
 | some x => bif ra then [x] else []
def ts2 (due : Option Int) (ra b rh : Bool) : List Int := bif b && rh then ts1 due ra ++ [30] else ts1 due ra
theorem FU (M : Mt X lwK) (hm : Rm X 330) (hz : r.length < 18) {Z : Int} (hZ : Z = t8 4611686018427387903 [(l, n)] (mks m0 m1 m2)) : E1 w X ⟨q9 due S pv rc wn fu t l n r b dg, HQ l n t r fu un wn m0 m1 m2 bx dg pv rc b [.list []]⟩ (nS b7.1 10) .next ⟨q9 due S pv rc wn fu t l n r b dg, HQ l n t r fu un wn m0 m1 m2 bx dg pv rc b [.list ((ts1 due (decide (4 < S - 25) && decide (Z ≤ S - 25))).map .int)]⟩ := by
 have hm1 : Rm X 61 := hm.less (by decide)
 have hs := (L7 (w := w) (dg := dg) (pv := pv) (rc := rc) (hs := hsB b) (e1 := zz3) (tl := [.list []]) (a := fA l n t r fu un wn m0 m1 m2) (bx := bx) (d := 4611686018427387903) (lo := l) (hi := n) (rest := []) (m0 := m0) (m1 := m1) (m2 := m2) (by decide)).deep (show 93 ≤ 300 by decide)
 rw [← hZ] at hs
 cases due with
 | none => exact k9 M hm1 (by kernel_rfl)
 | some x =>
  by_cases q : 4 < S - 25
  · by_cases q2 : Z ≤ S - 25
    · rw [dT q, dT q2]
      exact p8 (n := 30) (S := ⟨q9 (some x) S pv rc wn fu t l n r b dg, HQ l n t r fu un wn m0 m1 m2 bx dg pv rc b [.list []], [(760, 27, true), (760, 41, true)], []⟩) (S' := ⟨q9 (some x) S pv rc wn fu t l n r b dg, HQ l n t r fu un wn m0 m1 m2 bx dg pv rc b [.list [.int x]], [], [0 < big, decide (Z ≤ S - 25) = true, Cc w 300 (.ref 1011) (HQ l n t r fu un wn m0 m1 m2 bx dg pv rc b [.list []]) [Rv [(l, n)], .int 4611686018427387903, .ref 30] (.int Z) (HQ l n t r fu un wn m0 m1 m2 bx dg pv rc b [.list []]), decide (4 < S - 25) = true]⟩) (d8 (w := w) (d := 299) (l := [(1011, f9 (.int Z))])) (by decide) M hm (by kernel_rfl) (.mk (by decide) (.mk (dT q2) (.mk hs (.mk (dT q) .nil))))
    · rw [dT q, dF q2]
      exact p8 (n := 30) (S := ⟨q9 (some x) S pv rc wn fu t l n r b dg, HQ l n t r fu un wn m0 m1 m2 bx dg pv rc b [.list []], [(760, 27, true), (760, 41, false)], []⟩) (S' := ⟨q9 (some x) S pv rc wn fu t l n r b dg, HQ l n t r fu un wn m0 m1 m2 bx dg pv rc b [.list []], [], [decide (Z ≤ S - 25) = false, Cc w 300 (.ref 1011) (HQ l n t r fu un wn m0 m1 m2 bx dg pv rc b [.list []]) [Rv [(l, n)], .int 4611686018427387903, .ref 30] (.int Z) (HQ l n t r fu un wn m0 m1 m2 bx dg pv rc b [.list []]), decide (4 < S - 25) = true]⟩) (d8 (w := w) (d := 299) (l := [(1011, f9 (.int Z))])) (by decide) M hm (by kernel_rfl) (.mk (dF q2) (.mk hs (.mk (dT q) .nil)))
  · rw [dF q]
    exact x9 M hm1 (as := [(760, 27, false)]) (as' := []) (ob := [decide (4 < S - 25) = false]) (by kernel_rfl) (.mk (dF q) .nil)
theorem FT (M : Mt X lwK) (hm : Rm X 330) {ts : List V} : E1 w X ⟨q9 due S pv rc wn fu t l n r b dg, HQ l n t r fu un wn m0 m1 m2 bx dg pv rc b [.list ts]⟩ (nS b7.1 11) .next ⟨q11 due S pv rc wn fu t l n r b dg, HQ l n t r fu un wn m0 m1 m2 bx dg pv rc b [.list ts]⟩ :=
 p8 (n := 30) (S := ⟨q9 due S pv rc wn fu t l n r b dg, HQ l n t r fu un wn m0 m1 m2 bx dg pv rc b [.list ts], [], []⟩) (S' := ⟨q11 due S pv rc wn fu t l n r b dg, HQ l n t r fu un wn m0 m1 m2 bx dg pv rc b [.list ts], [], [Cc w 300 (.ref 340) (HQ l n t r fu un wn m0 m1 m2 bx dg pv rc b [.list ts]) [.ref 3, .str "handshake"] (.int 35) (HQ l n t r fu un wn m0 m1 m2 bx dg pv rc b [.list ts])]⟩) (d8 (w := w) (d := 299) (l := [(340, f9 (.int 35))])) (by decide) M hm (by kernel_rfl) (.mk (Go.deep (by decide)) .nil)
theorem lR (due : Option Int) (ra : Bool) : (ts1 due ra).length ≤ 1 := by
 cases due with
 | none => exact Nat.zero_le _
 | some x =>
  cases ra
  · exact Nat.zero_le _
  · exact Nat.le_refl 1
theorem FS (M : Mt X lwK) (hm : Rm X 61) {ra : Bool} : E1 w X ⟨q11 due S pv rc wn fu t l n r b dg, HQ l n t r fu un wn m0 m1 m2 bx dg pv rc b [.list ((ts1 due ra).map .int)]⟩ (nS b7.1 12) .next ⟨q11 due S pv rc wn fu t l n r b dg, HQ l n t r fu un wn m0 m1 m2 bx dg pv rc b [.list ((ts2 due ra b (decide (12 ≤ S - 35))).map .int)]⟩ := by
 have hl := lR due ra
 unfold ts2
 generalize ts1 due ra = ts at hl ⊢
 cases b with
 | false => exact k9 M hm (by kernel_rfl)
 | true =>
  by_cases q : 12 ≤ S - 35
  · rw [dT q]
    show E1 w X _ _ _ ⟨_, HQ l n t r fu un wn m0 m1 m2 bx dg pv rc true [.list ((ts ++ [30]).map .int)]⟩
    rw [List.map_append]
    exact x9 M hm (as := [(763, 22, true)]) (as' := []) (ob := [(ts.map V.int).length < big, decide (S - 35 ≥ 12) = true]) (by kernel_rfl) (.mk (by rw [List.length_map]; show _ < 100000; lia) (.mk (dT q) .nil))
  · rw [dF q]
    exact x9 M hm (as := [(763, 22, false)]) (as' := []) (ob := [decide (S - 35 ≥ 12) = false]) (by kernel_rfl) (.mk (dF q) .nil)
abbrev mN : Stmt := nS b7.1 13
theorem mM : nS b7.1 13 = .If (sN mN 0) (kB mN) [] (sP mN) := by kernel_rfl
theorem FR (M : Mt X lwK) (hm : Rm X 330) (F : Fz l n t r fu m0 m1 m2) (hS : S = dgS pv dg rc) {ra rh : Bool} (hra : ra = (decide (4 < S - 25) && decide (t8 4611686018427387903 [(l, n)] (mks m0 m1 m2) ≤ S - 25))) (hrh : rh = decide (12 ≤ S - 35)) :
 E1 w X ⟨q11 (m8 fu wn) S pv rc wn fu t l n r b dg, HQ l n t r fu un wn m0 m1 m2 bx dg pv rc b [.list ((ts2 (m8 fu wn) ra b rh).map .int)]⟩ (nS b7.1 13) .next ⟨qL S (m8 fu wn) t l n r b, HQ l n t r fu un wn m0 m1 m2 bx dg pv rc b [.list ((ts2 (m8 fu wn) ra b rh).map .int)]⟩ := by
 have c := (k373 (w := w) (bx := bx) (dg := dg) (pv := pv) (rc := rc) (b := b) (tl := [.list ((ts2 (m8 fu wn) ra b rh).map .int)]) (un := un) (wn := wn) F).deep (show 292 ≤ 300 by decide)
 rw [← hS, ← hra, ← hrh] at c
 refine E1.sub (fr := q11 (m8 fu wn) S pv rc wn fu t l n r b dg) ?_ (by refine ⟨?_, ?_, ?_, ?_, ?_, ?_, ?_, ?_, ?_, trivial⟩ <;> kernel_rfl)
 rw [mM]
 refine E1.ite (b := false) ?_ (fun q => by cases q) (fun _ => .nil)
 have key : ∀ (due : Option Int) (nt : Option Int) (ts : List Int) (H : List O), H = HQ l n t r fu un wn m0 m1 m2 bx dg pv rc b [.list (ts.map .int)] -> Cc w 300 (.ref 373) H [.ref 3] (oV nt) H -> ((nt = none ∧ ts = []) ∨ (∃ x, nt = some x ∧ ts = [x]) ∨ (∃ x, nt = some 30 ∧ ts = [x, 30] ∧ 30 ≤ x)) -> Te w X ⟨q11 due S pv rc wn fu t l n r b dg, H⟩ (sN mN 0) false ⟨q11 due S pv rc wn fu t l n r b dg, H⟩ := fun due nt ts H hH c h => by
  subst hH
  rcases h with ⟨rfl, rfl⟩ | ⟨x, rfl, rfl⟩ | ⟨x, rfl, rfl, hx⟩
  · exact gZ (n := 30) (S := ⟨q11 due S pv rc wn fu t l n r b dg, HQ l n t r fu un wn m0 m1 m2 bx dg pv rc b [.list []], [], []⟩) (S' := ⟨q11 due S pv rc wn fu t l n r b dg, HQ l n t r fu un wn m0 m1 m2 bx dg pv rc b [.list []], [], [Cc w 300 (.ref 373) (HQ l n t r fu un wn m0 m1 m2 bx dg pv rc b [.list []]) [.ref 3] .none (HQ l n t r fu un wn m0 m1 m2 bx dg pv rc b [.list []])]⟩) (d8 (w := w) (d := 299) (l := [(373, f9 .none)])) (by decide) M hm (by kernel_rfl) (.mk c .nil)
  · exact gZ (n := 30) (S := ⟨q11 due S pv rc wn fu t l n r b dg, HQ l n t r fu un wn m0 m1 m2 bx dg pv rc b [.list [.int x]], [(765, 7, false)], []⟩) (S' := ⟨q11 due S pv rc wn fu t l n r b dg, HQ l n t r fu un wn m0 m1 m2 bx dg pv rc b [.list [.int x]], [], [(!(x == x)) = false, Cc w 300 (.ref 373) (HQ l n t r fu un wn m0 m1 m2 bx dg pv rc b [.list [.int x]]) [.ref 3] (.int x) (HQ l n t r fu un wn m0 m1 m2 bx dg pv rc b [.list [.int x]])]⟩) (d8 (w := w) (d := 299) (l := [(373, f9 (.int x))])) (by decide) M hm (by kernel_rfl) (.mk (by rw [beq_self_eq_true]; rfl) (.mk c .nil))
  · exact gZ (n := 30) (S := ⟨q11 due S pv rc wn fu t l n r b dg, HQ l n t r fu un wn m0 m1 m2 bx dg pv rc b [.list [.int x, .int 30]], [(765, 7, false)], []⟩) (S' := ⟨q11 due S pv rc wn fu t l n r b dg, HQ l n t r fu un wn m0 m1 m2 bx dg pv rc b [.list [.int x, .int 30]], [], [(!((30 : Int) == min x 30)) = false, Cc w 300 (.ref 373) (HQ l n t r fu un wn m0 m1 m2 bx dg pv rc b [.list [.int x, .int 30]]) [.ref 3] (.int 30) (HQ l n t r fu un wn m0 m1 m2 bx dg pv rc b [.list [.int x, .int 30]])]⟩) (d8 (w := w) (d := 299) (l := [(373, f9 (.int 30))])) (by decide) M hm (by kernel_rfl) (.mk (by rw [Int.min_eq_right hx]; rfl) (.mk c .nil))
 refine key (m8 fu wn) _ _ _ rfl c ?_
 cases hd : m8 fu wn with
 | none =>
  cases b with
  | false => exact .inl ⟨rfl, rfl⟩
  | true => cases rh with
   | false => exact .inl ⟨rfl, rfl⟩
   | true => exact .inr (.inl ⟨30, rfl, rfl⟩)
 | some x =>
  have hx := jb F hd
  cases b with
  | false => cases ra with
   | false => exact .inl ⟨rfl, rfl⟩
   | true => exact .inr (.inl ⟨x, rfl, rfl⟩)
  | true => cases rh with
   | false => cases ra with
    | false => exact .inl ⟨rfl, rfl⟩
    | true => exact .inr (.inl ⟨x, rfl, rfl⟩)
   | true => cases ra with
    | false => exact .inr (.inl ⟨30, rfl, rfl⟩)
    | true => exact .inr (.inr ⟨x, rfl, rfl, by lia⟩)
theorem mK : nS b7.1 14 = .For (p7 L3) (r6 L3) lwB [] (D1 L3) := by kernel_rfl
theorem FQ (M : Mt X lwK) (hco : X.co = none) (hm : Rm X 330) (F : Fz l n t r fu m0 m1 m2) (hg : dg ≤ 12000) (hS : S = dgS pv dg rc) : E1 w X ⟨qL S (m8 fu wn) t l n r b, HQ l n t r fu un wn m0 m1 m2 bx dg pv rc b tl⟩ (nS b7.1 14) .next ⟨qL S (m8 fu wn) t l n r b, HQ l n t r fu un wn m0 m1 m2 bx dg pv rc b tl⟩ := by
 rw [mK]
 have hi : Ev w X ⟨qL S (m8 fu wn) t l n r b, HQ l n t r fu un wn m0 m1 m2 bx dg pv rc b tl⟩ (r6 L3) (.tup ([t, t + 500, t + 26000, t + 1000000].map .int)) ⟨qL S (m8 fu wn) t l n r b, HQ l n t r fu un wn m0 m1 m2 bx dg pv rc b tl⟩ := B4 M (hm.less (by decide)) (by kernel_rfl)
 refine E1.for hco hi rfl (cx M hm F hg hS [t, t + 500, t + 26000, t + 1000000] fun now h => ?_) (by kernel_rfl)
 simp only [List.mem_cons, List.not_mem_nil, or_false] at h
 lia
theorem FP (M : Mt X lwK) (hm : Rm X 61) (fr : List (Str × V)) (hp : List O) : E1 w X ⟨fr, hp⟩ (nS b7.1 15) (.ret (.bool true)) ⟨fr, hp⟩ := k9 M hm (by kernel_rfl)
end
section
variable {w : World} {X : Cf} {dg : Int} {pv : Bool} {rc : Int} {b : Bool} {c : Int} {xs : List Int}
theorem bd : b7.1.drop 3 = [nS b7.1 3, nS b7.1 4, nS b7.1 5, nS b7.1 6, nS b7.1 7, nS b7.1 8, nS b7.1 9, nS b7.1 10, nS b7.1 11, nS b7.1 12, nS b7.1 13, nS b7.1 14, nS b7.1 15] := by kernel_rfl
theorem mI (M : Mt X lwK) (hco : X.co = none) (hm : Rm X 330) (hg : dg ≤ 12000) {k : Nat} {a : Ap} {n : Int} (I : Iv k a n) (hk : 1 ≤ k ∧ k ≤ 18) {bx bx' : List V}
 (h : Cc w 125 (.ref 1023) (a00.H bx dg pv rc (hsB b) zz3 []) [.ref 1, .ref 18] (.tup [Rv a.rs, .ref 30, .int (40 * (k : Int)), oV a.fu, .bool a.wn]) (a.H bx' dg pv rc (hsB b) zz3 [a.E])) :
 ∃ fr' H', Ex w X ⟨q4 b dg, a00.H bx dg pv rc (hsB b) zz3 []⟩ [nS b7.1 5, nS b7.1 6, nS b7.1 7, nS b7.1 8, nS b7.1 9, nS b7.1 10, nS b7.1 11, nS b7.1 12, nS b7.1 13, nS b7.1 14, nS b7.1 15] (.ret (.bool true)) ⟨fr', .tab [(714, 0), (713, 0), (712, 0)] :: H'⟩ := by
 obtain ⟨rs, ls, lt, fu, un, wn, hn, m0, m1, m2⟩ := a
 obtain ⟨hd, hcase, hps, hn0, hn1, hlen, hfu, hmm⟩ := I
 rcases hcase with ⟨_, _, hk0⟩ | ⟨l, r, e1, e2, e3, e4, _⟩
 · omega
 dsimp only at e1 e2 e3 e4 hd hps hlen hfu hmm h
 subst e1 e2 e3 e4
 generalize ht : 40 * (k : Int) = t at h hfu
 have F : Fz l n t r fu m0 m1 m2 := ⟨hd, fun p hp => (hps p hp).1, by omega, by rw [List.length_cons] at hlen; omega, by omega, fun f hf => (hfu f hf).1, by omega⟩
 have hm1 : Rm X 61 := hm.less (by decide)
 have s5 := lw_5 (w := w) (l := l) (n := n) (t := t) (r := r) (fu := fu) (un := un) (wn := wn) (m0 := m0) (m1 := m1) (m2 := m2) (k := 0) (bx' := bx') M hm h
 have s6 := lw_6 (w := w) (bx := bx') (dg := dg) (pv := pv) (rc := rc) (b := b) (tl := []) (l := l) (n := n) (t := t) (r := r) (fu := fu) (un := un) (wn := wn) (m0 := m0) (m1 := m1) (m2 := m2) M hm1
 have s7 := lw_7 (w := w) (dg := dg) (pv := pv) (rc := rc) (b := b) (l := l) (n := n) (t := t) (r := r) (fu := fu) (wn := wn) M hm1 (HQ l n t r fu un wn m0 m1 m2 bx' dg pv rc b [])
 generalize hS : dgS pv dg rc = S at s7
 have s8 := lw_8 (w := w) (bx := bx') (dg := dg) (pv := pv) (rc := rc) (b := b) (l := l) (n := n) (t := t) (r := r) (fu := fu) (un := un) (wn := wn) (m0 := m0) (m1 := m1) (m2 := m2) (S := S) M hm
 have s9 := lw_9 (w := w) (dg := dg) (pv := pv) (rc := rc) (b := b) (l := l) (n := n) (t := t) (r := r) (fu := fu) (wn := wn) (S := S) M hm1 (HQ l n t r fu un wn m0 m1 m2 bx' dg pv rc b [.list []])
 have s10 := FU (w := w) (bx := bx') (dg := dg) (pv := pv) (rc := rc) (b := b) (l := l) (n := n) (t := t) (r := r) (fu := fu) (un := un) (wn := wn) (m0 := m0) (m1 := m1) (m2 := m2) (S := S) (due := m8 fu wn) M hm F.z rfl
 have s11 := FT (w := w) (bx := bx') (dg := dg) (pv := pv) (rc := rc) (b := b) (l := l) (n := n) (t := t) (r := r) (fu := fu) (un := un) (wn := wn) (m0 := m0) (m1 := m1) (m2 := m2) (S := S) (due := m8 fu wn) (ts := (ts1 (m8 fu wn) (decide (4 < S - 25) && decide (t8 4611686018427387903 [(l, n)] (mks m0 m1 m2) ≤ S - 25))).map .int) M hm
 have s12 := FS (w := w) (bx := bx') (dg := dg) (pv := pv) (rc := rc) (b := b) (l := l) (n := n) (t := t) (r := r) (fu := fu) (un := un) (wn := wn) (m0 := m0) (m1 := m1) (m2 := m2) (S := S) (due := m8 fu wn) (ra := decide (4 < S - 25) && decide (t8 4611686018427387903 [(l, n)] (mks m0 m1 m2) ≤ S - 25)) M hm1
 have s13 := FR (w := w) (bx := bx') (dg := dg) (pv := pv) (rc := rc) (b := b) (l := l) (n := n) (t := t) (r := r) (fu := fu) (un := un) (wn := wn) (m0 := m0) (m1 := m1) (m2 := m2) (S := S) M hm F hS.symm (ra := decide (4 < S - 25) && decide (t8 4611686018427387903 [(l, n)] (mks m0 m1 m2) ≤ S - 25)) (rh := decide (12 ≤ S - 35)) rfl rfl
 have s14 := FQ (w := w) (bx := bx') (dg := dg) (pv := pv) (rc := rc) (b := b) (l := l) (n := n) (t := t) (r := r) (fu := fu) (un := un) (wn := wn) (m0 := m0) (m1 := m1) (m2 := m2) (S := S) (tl := [.list ((ts2 (m8 fu wn) (decide (4 < S - 25) && decide (t8 4611686018427387903 [(l, n)] (mks m0 m1 m2) ≤ S - 25)) b (decide (12 ≤ S - 35))).map .int)]) M hco hm F hg hS.symm
 have s15 := FP (w := w) M hm1 (qL S (m8 fu wn) t l n r b) (HQ l n t r fu un wn m0 m1 m2 bx' dg pv rc b [.list ((ts2 (m8 fu wn) (decide (4 < S - 25) && decide (t8 4611686018427387903 [(l, n)] (mks m0 m1 m2) ≤ S - 25)) b (decide (12 ≤ S - 35))).map .int)])
 exact ⟨_, _, .cons s5 (.cons s6 (.cons s7 (.cons s8 (.cons s9 (.cons s10 (.cons s11 (.cons s12 (.cons s13 (.cons s14 (.stop s15 (by intro q; cases q)))))))))))⟩
theorem ir (M : Mt X lwK) (hco : X.co = none) (hm : Rm X 330) (hg : dg ≤ 12000) (hc : 0 ≤ c) (hc2 : c < 1000) :
 ∃ fr' H', Ex w X ⟨q3 dg, a00.H (bxV xs c) dg pv rc hsN zz3 []⟩ (b7.1.drop 3) (.ret (.bool true)) ⟨fr', .tab [(714, 0), (713, 0), (712, 0)] :: H'⟩ := by
 rw [bd]
 obtain ⟨c', rfl, s3⟩ := lw_3 (w := w) (dg := dg) (pv := pv) (rc := rc) (c := c) (xs := xs) M hm hc hc2
 have s4 := lw_4 (w := w) (bx := bxV xs (c + 1)) (dg := dg) (pv := pv) (rc := rc) (b := tk xs c 2 == 1) M hm
 obtain ⟨I, i2, i3, i4⟩ := nx xs (c + 1) (by omega)
 have hf := bg (w := w) (dg := dg) (pv := pv) (rc := rc) (hs := hsB (tk xs c 2 == 1)) (e1 := zz3) xs (c + 1) (by omega) (by omega)
 obtain ⟨fr', H', z⟩ := mI (w := w) (dg := dg) (pv := pv) (rc := rc) (b := tk xs c 2 == 1) M hco hm hg I ⟨i3, i4⟩ hf
 exact ⟨fr', H', .cons s3 (.cons s4 z)⟩
end
section
variable {w : World} {X : Cf} {G : Gam} {σ σ' σ₁ l6 : St} {s : Shared} {xs : List Int}
theorem mY {P : Params} {us : List Value} {ns : List Int} (h : IntsAre us ns) : d9 (RV P G) (ns.map .int) us := by
 induction h with
 | nil => exact .nil
 | cons n t _ ih => exact .cons ⟨t, rfl⟩ ih
theorem Ev.sliceH {value : Expr} {upper : Option Expr} {hi : Option Int} {a : Addr} {us : List Value} {ns : List Int} {x y : Nat} {p pos : Pos} (hl : Ev w X σ value (.val (.ref a)) σ₁) (h2 : Pt w X σ₁ upper hi l6) (hL : X.h₀.IsList a us.toArray) (hi' : IntsAre us ns) (hz : ns.length ≤ 100000)
 (hb : sliceBounds none hi none ns.length = (((x : Nat) : Int), ((y : Nat) : Int), 1)) :
 Ev w X σ (.Subscript value (.Slice none upper none p) pos) (.lst (((ns.map .int).drop x).take (y - x))) l6 := fun G s h Q E hq => by
 refine u4 (hl G s h _ _ fun b8 u a7 c0 k₁ hu b9 => ?_)
 cases hu
 refine bE (cC (evalPart_none_step (h2 _ a7 k₁ _ _ fun n9 vu f7 m5 I6 pu n8 => cC (evalPart_none_step ?_))))
 have hus : d9 (RV w.params n9) (ns.map .int) us := mY hi'
 have hlen : us.length = ns.length := by rw [← hus.len, List.length_map]
 have hL3 : f7.heap.IsList a us.toArray := by
  obtain ⟨m, obs, C, -⟩ := id I6
  obtain ⟨o, ho, r⟩ := hL
  exact ⟨o, C.F.keep _ _ ho, r⟩
 have ep : (slicePick us.toArray none hi none).toList = (us.drop x).take (y - x) := by
  rw [kmk_pick_nat _ (a := x) (b := y) (by rw [List.size_toArray, hlen]; exact hb)]
 refine cC <| I6.newI (a := f7.heap.objs.size + 1) (tk := f7.toks) (ob := { cls := .type "list", data := .seq (slicePick us.toArray none hi none) }) (Nat.le_succ _) (Value.ref (f7.heap.objs.size + 1)) Q E (fun s' k' W1 => ?_)
  fun m news F N hk => P6 F N hL3 .none pu (fun h' F' N' => hk h' F' N') (by rw [List.size_toArray, hlen, sizeLine_eq]; lia)
 refine hq _ _ s' ((c0.trans m5).trans (Gam.le_imm ..)) k' ?_ (b9.trans (n8.trans W1))
 have := Ok.newL (a := f7.heap.objs.size + 1) (n := 0) n9 ((hus.drop x).take (y - x)) (by show _ ≤ 100000; rw [List.length_take, List.length_drop, List.length_map]; lia)
 rw [← ep] at this
 simpa using this
abbrev im : Expr := sN (nS b7.1 0) 1
abbrev io : Expr := eN im 0
abbrev il : Expr := eN io 1
abbrev mO : Expr := eN il 1
abbrev O8 : Expr := sN (nS b7.1 1) 1
def yO : Nat × Nat := match nS b7.1 1 with
 | .Assign [.Tuple _ k _] (.Tuple _ k2 _) _ => (k, k2)
 | _ => (0, 0)
theorem yP : nS b7.1 0 = .Assign [.Name "box" (sN (nS b7.1 0) 0).pos] (.List [.Call (.Name "list" (eN io 0).pos) [.Subscript (.Name "script" (eN il 0).pos) (.Slice none (some (eN mO 0)) none mO.pos) il.pos] [] io.pos, eN im 1] im.pos) (sP (nS b7.1 0)) := by kernel_rfl
theorem yN : nS b7.1 1 = .Assign [.Tuple (kE (sN (nS b7.1 1) 0)) yO.1 (sN (nS b7.1 1) 0).pos] (.Tuple [eN O8 0, eN O8 1] yO.2 O8.pos) (sP (nS b7.1 1)) := by kernel_rfl
theorem lw_0 (M : Mt X lwK) (hm : Rm X 330) (hco : X.co = none) {a : Addr} {us : List Value} {ns : List Int} (hL : X.h₀.IsList a us.toArray) (hi' : IntsAre us ns) (hz : ns.length ≤ 63) :
 E1 w X ⟨[("script", .val (.ref a))], [.tab []]⟩ (nS b7.1 0) .next ⟨[("box", .ref 1), ("script", .val (.ref a))], [.tab [], .list (bxV (ns.take 48) 0)]⟩ := by
 have hm1 : Rm X 61 := hm.less (by decide)
 obtain ⟨m1', m2', m3'⟩ := M.k rfl
 rw [yP]
 have es := Ev.nmT M (x := "script") (p := (eN il 0).pos) (c := .val (.ref a)) (fr := [("script", .val (.ref a))]) (hp := [.tab []]) (w := w) (by kernel_rfl)
 have e48 : Ev w X ⟨[("script", .val (.ref a))], [.tab []]⟩ (eN mO 0) (.int 48) ⟨[("script", .val (.ref a))], [.tab []]⟩ := B4 M hm1 (by kernel_rfl)
 obtain ⟨x, y, b1, b2⟩ := E0 (xs := ns.map V.int) (ys := (ns.map V.int).take 48) (lo := none) (hi := some 48) rfl
 rw [List.length_map] at b1
 have e1 := Ev.sliceH (w := w) (p := mO.pos) (pos := il.pos) es (Pt.at e48) hL hi' (by lia) b1
 rw [← b2, ← List.map_take] at e1
 have ec := Ev.callN (w := w) (k := 1) (X := X) (Ev.nmT M (x := "list") (p := (eN io 0).pos) (c := .val (.type "list")) (fr := [("script", .val (.ref a))]) (hp := [.tab []]) (by kernel_rfl)) (Es.cons e1 .nil (g0 rfl)) (pos := io.pos) (bf rfl) (hm.less (by decide)) (.inr (.inr ⟨_, rfl⟩)) rfl
 have e0 : Ev w X ⟨[("script", .val (.ref a))], [.tab []]⟩ (eN im 1) (.int 0) ⟨[("script", .val (.ref a))], [.tab []]⟩ := B4 M hm1 (by kernel_rfl)
 have el := Ev.mkList (pos := im.pos) (Es.cons ec (Es.cons e0 .nil (g0 (by kernel_rfl))) (g0 rfl)) (by show 2 ≤ 100000; decide)
 exact E1.assign el hco m2' ((m3' _).trans (by kernel_rfl)) (v8 rfl)
noncomputable def dgO (k : Int) : Int := if k = 0 then 60 else if k = 1 then 90 else 1200
noncomputable def cmO (k : Int) : Option Int := if k = 0 then none else if k = 1 then some 0 else if k = 2 then some 14 else if k = 3 then some 17 else if k = 4 then some 20 else some 28
theorem zH (k : Int) : dgO k ≤ 12000 := by unfold dgO; split <;> (try split) <;> decide
theorem lw_1 (M : Mt X lwK) (hm : Rm X 330) {v : V} : E1 w X ⟨[("box", .ref 1), ("script", v)], [.tab [], .list (bxV xs 0)]⟩ (nS b7.1 1) .next ⟨[("datagram", .int (dgO (tk xs 0 3))), ("came", oV (cmO (tk xs 1 6))), ("box", .ref 1), ("script", v)], [.tab [], .list (bxV xs 2)]⟩ := by
 have r1 := y6 (xs := xs) (c := 0) (m := 3) (by decide)
 have r2 := y6 (xs := xs) (c := 1) (m := 6) (by decide)
 have c1 : Cc w 300 (.ref 994) [.tab [], .list (bxV xs 0)] [.ref 1, .int 3] (.int (tk xs 0 3)) [.tab [], .list (bxV xs 1)] := (w7 (by decide) (by decide) (by decide)).deep (by decide)
 have c2 : Cc w 300 (.ref 994) [.tab [], .list (bxV xs 1)] [.ref 1, .int 6] (.int (tk xs 1 6)) [.tab [], .list (bxV xs 2)] := (w7 (by decide) (by decide) (by decide)).deep (by decide)
 have e1 : Ev w X ⟨[("box", .ref 1), ("script", v)], [.tab [], .list (bxV xs 0)]⟩ (eN O8 0) (.int (dgO (tk xs 0 3))) ⟨[("box", .ref 1), ("script", v)], [.tab [], .list (bxV xs 1)]⟩ := by
  have key : ∀ k, tk xs 0 3 = k -> (rn (mkT (spG w 299 [(994, fun _ _ => (.int k, [.tab [], .list (bxV xs 1)]))])) 30).ev lwK (eN O8 0) ⟨[("box", .ref 1), ("script", v)], [.tab [], .list (bxV xs 0)], [], []⟩ = some (.int (dgO k), ⟨[("box", .ref 1), ("script", v)], [.tab [], .list (bxV xs 1)], [], [Cc w 300 (.ref 994) [.tab [], .list (bxV xs 0)] [.ref 1, .int 3] (.int k) [.tab [], .list (bxV xs 1)]]⟩) -> Ev w X ⟨[("box", .ref 1), ("script", v)], [.tab [], .list (bxV xs 0)]⟩ (eN O8 0) (.int (dgO k)) ⟨[("box", .ref 1), ("script", v)], [.tab [], .list (bxV xs 1)]⟩ := fun k hk h =>
   y8 (d8 (w := w) (d := 299)) (by decide) M hm h (.mk (hk ▸ c1) .nil)
  have : tk xs 0 3 = 0 ∨ tk xs 0 3 = 1 ∨ tk xs 0 3 = 2 := by lia
  rcases this with e | e | e <;> (rw [e]; exact key _ e (by kernel_rfl))
 have e2 : Ev w X ⟨[("box", .ref 1), ("script", v)], [.tab [], .list (bxV xs 1)]⟩ (eN O8 1) (oV (cmO (tk xs 1 6))) ⟨[("box", .ref 1), ("script", v)], [.tab [], .list (bxV xs 2)]⟩ := by
  have key : ∀ k, tk xs 1 6 = k -> (rn (mkT (spG w 299 [(994, fun _ _ => (.int k, [.tab [], .list (bxV xs 2)]))])) 30).ev lwK (eN O8 1) ⟨[("box", .ref 1), ("script", v)], [.tab [], .list (bxV xs 1)], [], []⟩ = some (oV (cmO k), ⟨[("box", .ref 1), ("script", v)], [.tab [], .list (bxV xs 2)], [], [Cc w 300 (.ref 994) [.tab [], .list (bxV xs 1)] [.ref 1, .int 6] (.int k) [.tab [], .list (bxV xs 2)]]⟩) -> Ev w X ⟨[("box", .ref 1), ("script", v)], [.tab [], .list (bxV xs 1)]⟩ (eN O8 1) (oV (cmO k)) ⟨[("box", .ref 1), ("script", v)], [.tab [], .list (bxV xs 2)]⟩ := fun k hk h =>
   y8 (d8 (w := w) (d := 299)) (by decide) M hm h (.mk (hk ▸ c2) .nil)
  have : tk xs 1 6 = 0 ∨ tk xs 1 6 = 1 ∨ tk xs 1 6 = 2 ∨ tk xs 1 6 = 3 ∨ tk xs 1 6 = 4 ∨ tk xs 1 6 = 5 := by lia
  rcases this with e | e | e | e | e | e <;> (rw [e]; exact key _ e (by kernel_rfl))
 rw [yN]
 have et := Ev.mkTuple (k := yO.2) (pos := O8.pos) (Es.cons e1 (Es.cons e2 .nil (g0 (by kernel_rfl))) (g0 (by kernel_rfl))) (by show 2 ≤ 100000; decide)
 generalize dgO (tk xs 0 3) = dg at et ⊢
 generalize oV (cmO (tk xs 1 6)) = cm at et ⊢
 exact E1.assignS (names := [("datagram" : Str), "came"]) et (U5 (S := ⟨[("box", .ref 1), ("script", v)], [.tab [], .list (bxV xs 2)], [], []⟩) (S' := ⟨[("datagram", .int dg), ("came", cm), ("box", .ref 1), ("script", v)], [.tab [], .list (bxV xs 2)], [], []⟩) M rfl (by kernel_rfl)).2 rfl rfl (J3 M (by kernel_rfl))
theorem iu (M : Mt X lwK) (hco : X.co = none) (hm : Rm X 330) {a : Addr} {us : List Value} {ns : List Int} (hL : X.h₀.IsList a us.toArray) (hi' : IntsAre us ns) (hz : ns.length ≤ 63) :
 ∃ fr' H', Ex w X ⟨[("script", .val (.ref a))], [.tab []]⟩ b7.1 (.ret (.bool true)) ⟨fr', .tab [(714, 0), (713, 0), (712, 0)] :: H'⟩ := by
 have eb : b7.1 = nS b7.1 0 :: nS b7.1 1 :: nS b7.1 2 :: b7.1.drop 3 := by kernel_rfl
 rw [eb]
 have s0 := lw_0 (w := w) M hm hco hL hi' hz
 generalize ns.take 48 = xs at s0
 have s1 := lw_1 (w := w) (xs := xs) (v := .val (.ref a)) M hm
 have hg := zH (tk xs 0 3)
 generalize dgO (tk xs 0 3) = dg at s1 hg
 have fin : ∀ (pv : Bool) (rc c : Int), 0 ≤ c -> c < 1000 -> E1 w X ⟨[("datagram", .int dg), ("came", oV (cmO (tk xs 1 6))), ("box", .ref 1), ("script", .val (.ref a))], [.tab [], .list (bxV xs 2)]⟩ (nS b7.1 2) .next ⟨q3 dg, a00.H (bxV xs c) dg pv rc hsN zz3 []⟩ -> ∃ fr' H', Ex w X ⟨[("script", .val (.ref a))], [.tab []]⟩ (nS b7.1 0 :: nS b7.1 1 :: nS b7.1 2 :: b7.1.drop 3) (.ret (.bool true)) ⟨fr', .tab [(714, 0), (713, 0), (712, 0)] :: H'⟩ := fun pv rc c h0 h1 s2 => by
  obtain ⟨fr', H', z⟩ := ir (w := w) (dg := dg) (pv := pv) (rc := rc) (c := c) (xs := xs) M hco hm hg h0 h1
  exact ⟨fr', H', .cons s0 (.cons s1 (.cons s2 z))⟩
 cases hc : cmO (tk xs 1 6) with
 | none =>
  rw [hc] at fin
  have c3 : Cc w 300 (.ref 999) [.tab [], .list (bxV xs 2)] [.int dg, .none] (.ref 3) (a00.H (bxV xs 2) dg true 0 hsN zz3 []) := by
   unfold Ap.H; rw [List.append_nil]; exact L6.deep (by decide)
  refine fin true 0 2 (by decide) (by decide) (E1.sub (fr := ("conn", .ref 3) :: [("datagram", .int dg), ("came", .none), ("box", .ref 1), ("script", .val (.ref a))]) ?_ (by refine ⟨?_, ?_, ?_, trivial⟩ <;> kernel_rfl))
  exact p8 (n := 30) (S := ⟨[("datagram", .int dg), ("came", .none), ("box", .ref 1), ("script", .val (.ref a))], [.tab [], .list (bxV xs 2)], [], []⟩) (S' := ⟨("conn", .ref 3) :: [("datagram", .int dg), ("came", .none), ("box", .ref 1), ("script", .val (.ref a))], a00.H (bxV xs 2) dg true 0 hsN zz3 [], [], [Cc w 300 (.ref 999) [.tab [], .list (bxV xs 2)] [.int dg, .none] (.ref 3) (a00.H (bxV xs 2) dg true 0 hsN zz3 [])]⟩) (d8 (w := w) (d := 299) (l := [(999, fun _ _ => (.ref 3, a00.H (bxV xs 2) dg true 0 hsN zz3 []))])) (by decide) M hm (by kernel_rfl) (.mk c3 .nil)
 | some cm =>
  rw [hc] at fin
  have c2 : Cc w 300 (.ref 994) [.tab [], .list (bxV xs 2)] [.ref 1, .int 9] (.int (tk xs 2 9)) [.tab [], .list (bxV xs 3)] := (w7 (by decide) (by decide) (by decide)).deep (by decide)
  generalize tk xs 2 9 = k at c2
  have c3 : Cc w 300 (.ref 999) [.tab [], .list (bxV xs 3)] [.int dg, .int (cm + k)] (.ref 3) (a00.H (bxV xs 3) dg false (0 + (cm + k)) hsN zz3 []) := by
   unfold Ap.H; rw [List.append_nil]; exact L5.deep (by decide)
  refine fin false (0 + (cm + k)) 3 (by decide) (by decide) (E1.sub (fr := ("conn", .ref 3) :: [("datagram", .int dg), ("came", .int cm), ("box", .ref 1), ("script", .val (.ref a))]) ?_ (by refine ⟨?_, ?_, ?_, trivial⟩ <;> kernel_rfl))
  exact p8 (n := 30) (S := ⟨[("datagram", .int dg), ("came", .int cm), ("box", .ref 1), ("script", .val (.ref a))], [.tab [], .list (bxV xs 2)], [], []⟩) (S' := ⟨("conn", .ref 3) :: [("datagram", .int dg), ("came", .int cm), ("box", .ref 1), ("script", .val (.ref a))], a00.H (bxV xs 3) dg false (0 + (cm + k)) hsN zz3 [], [], [Cc w 300 (.ref 999) [.tab [], .list (bxV xs 3)] [.int dg, .int (cm + k)] (.ref 3) (a00.H (bxV xs 3) dg false (0 + (cm + k)) hsN zz3 []), Cc w 300 (.ref 994) [.tab [], .list (bxV xs 2)] [.ref 1, .int 9] (.int k) [.tab [], .list (bxV xs 3)]]⟩) (d8 (w := w) (d := 299) (l := [(994, fun _ _ => (.int k, [.tab [], .list (bxV xs 3)])), (999, fun _ _ => (.ref 3, a00.H (bxV xs 3) dg false (0 + (cm + k)) hsN zz3 []))])) (by decide) M hm (by kernel_rfl) (.mk c3 (.mk c2 .nil))
end
set_option backward.match.sparseCases true
theorem mD (P : Params) : noTabs (K P) = true := by kernel_rfl
theorem bB : al.Below callerA := ⟨rfl, Nat.zero_le _, fun l hl => by cases hl; rfl, fun g hg => by cases hg; rfl, Nat.zero_le _⟩
theorem na {w : World} {a7 s' : Shared} {cl : Str -> Option Addr} {mean : ExcName -> Option Value} {args : List WData} {v : Value} (hT : TabsAt [(998, 996)] a7.heap)
 (h : GoodW PySem.Challenge.rw_rg0261_01.row.toRowW.claim cl mean args { a7 with heap := ghostOf a7.heap [(998, 996)] } (.ok (.ret v)) s') (hgr : GrownAll [(998, 996)] s'.heap) : GoodWG PySem.Challenge.rw_rg0261_01.row.toRowW.claim cl mean args a7 (.ok (.ret v)) s' := by
 let M : Model := { mdl w with den := fun _ => pure (.done (.ret v)) }
 have z := kn_post (M := M) (A := callerA) (cd := al.code) (s := s') hT (fun _ _ => rfl) (codeAny_of_tree (M := M) (A := callerA) (c := al.code) (wpAny_pure ⟨h, hgr⟩))
 have y := z al default rfl bB
 rw [wpCode_iff_wp] at y
 exact y
theorem lK {M : Model} {A B : Around} {α : Type} {m : Sem α} {Q : α -> Shared -> Prop} {E : VP} {s : Shared} (h : A = B) (x : wpC M B m Q E s) : wpC M A m Q E s := h ▸ x
theorem walk_C : pw := by
 intro w I4 a7 mg mb G Y hg args vals as hpre hlay hrd hwl hlo
 obtain ⟨KX, Y6⟩ := Y
 refine Ground.open G ?_
 intro T B D TE TW
 have hT : TabsAt [(998, 996)] a7.heap := List.forall_mem_cons.mpr ⟨⟨codeHd_of_K KX (by kernel_rfl), Y6⟩, fun _ h => nomatch h⟩
 wrow_args hpre hlay hrd hwl hlo
 rename_i ns _ _ _ _ _ _ _ sa us _ hL _ _ _ hI _ hlen _
 have hz : ns.length ≤ 63 := by omega
 clear B D TE TW
 refine H7 (kM (R := GoodWG PySem.Challenge.rw_rg0261_01.row.toRowW.claim (classAt I4.heap) (ExcName.means I4.heap) [ofPy (PyData.list (List.map PyData.int ns))] a7) ?_ fun res s' g => by rcases g.1 with ⟨v, _, _, rfl, _⟩ | ⟨e, _, _, rfl, _⟩ <;> exact g)
 refine iz (body := b7.1) (by decide) (KX _ _ (iW w.params)) rfl (by kernel_rfl) (by kernel_rfl) rfl (codeRec_of KX (by kernel_rfl)) ?_
 refine BindsTo.of_eq (binds := [(("script" : Str), .ref sa)]) (by kernel_rfl) _ _ _ _ ?_
 refine wpAny_newFunctionEnv (by decide +kernel) (fun y hy => by rw [List.mem_singleton.mp hy]; kernel_rfl) (fun b6 E9 B7 => ⟨T.nolimit.fresh _ B7, oW ?_⟩) (by kernel_rfl)
 have cK : ∀ b o, a7.heap.get? b = some o -> b6.get? b = some o := fun b o e => B7.extBut b o (Nat.ne_of_lt (Heap.lt_size e)) (Heap.get?_push_of_some _ e)
 have F0 : Fr a7.heap a7.heap.objs.size b6 _ := ⟨E9, cK, Nat.le_refl _⟩
 let X : Cf := { p := topProg, loose := looseW qv z5 ++ (recsOf qv).map (·.name) ++ (litsOf qv).map (·.1) ++ (clssOf qv (looseW qv z5)).map (·.name), mean := ExcName.means I4.heap, mg := mg, mb := mb, dp := 302, un := 7, gd := some [], cn := "law", cs := aW.1, a := 1030, ccd := .ref 1029, cl := [], cf := [], co := none, outer := [], A₀ := callerA, base := ghostOf a7.heap [(998, 996)], h₀ := ghostOf a7.heap [(998, 996)], L := a7.heap.objs.size }
 have M : Mt X lwK := ⟨fun x => rfl, by kernel_rfl, rfl, fun _ => rfl⟩
 have hm : Rm X 330 := ⟨by show 302 + 330 < 900; decide, by show 7 + 3 * 330 < 9000; decide, rfl⟩
 have hst : Ok w X ⟨[], [996], []⟩ ⟨[("script", .val (.ref sa))], [.tab []]⟩ { a7 with heap := b6, toks := a7.toks + 1 } := by
  refine ⟨_, [tabObj #[]], ⟨below_caller _, ghost_fr hT F0, ghost_K hT KX (mD _), ghost_news (news := []) hT F0 (fun p hp => by cases hp), ghost_top hT T, rfl⟩, rfl, ⟨by decide, (fun p hp => by cases hp), (fun p hp => by cases hp), fun p hp => by cases hp⟩, .cons ⟨#[], rfl, trivial, fun q _ => rfl, rfl⟩ .nil, ?_, fun x v e => by cases e⟩
  intro x v e
  by_cases q : x = "script"
  · subst q
    rw [List.lookup_cons_self] at e
    cases e
    exact ⟨.ref sa, by kernel_rfl, rfl⟩
  · rw [List.lookup_cons, beq_eq_false_iff_ne.mpr q] at e
    cases e
 obtain ⟨fr', H', hx⟩ := iu (w := w) (X := X) M rfl hm (ghost_list hT hL) hI hz
 refine lK (B := tp X) (by kernel_rfl) ?_
 refine hx _ _ hst _ _ fun G' f s' l k hf hsame => ?_
 obtain ⟨u, rfl, hu⟩ := hf
 cases hu
 obtain ⟨a, ob, k1, k2, ps, rfl, -, -, k3⟩ := k.at (l := 0) (o := .tab [(714, 0), (713, 0), (712, 0)]) rfl
 obtain ⟨m, obs, C, -⟩ := id k
 refine na (w := w) hT (goodW_bool C.F (hsame.1.trans hg) (raisesW_false fun ct h => nomatch h) (postW_of (by wrow_shape) (w_eq_bool (w_res rfl) w_lit) (by first | rfl | w_fin)) hsame.2.2) ⟨⟨ps, ?_⟩, trivial⟩
 have e : a = 996 := by
  cases hr : G'.ρ with
  | nil => rw [hr] at k3; cases k3
  | cons b r => rw [hr] at k3 k1; cases k3; cases k1; rfl
 rw [← e]
 exact k2
end
end Mine
theorem PySem.Challenge.cw_rg0261_01_holds : PySem.Challenge.rw_rg0261_01.Holds :=
  Mine.head1 Mine.walk_C
