import PyProof.Rows.All
import Wide.All
import OpenK.AllK
import Wide.FinOn
import Lean
import PySem.Challenge.RW_sj0119_01
open PySem PySem.W PyProof.Rows PySem.Calls
set_option Elab.async false
set_option maxRecDepth 100000
namespace Mine
abbrev PR : Program := PySem.Challenge.pw_sj0119_01
def inTop (i : Nat) : Stmt := PR.main.body.getD i default
def clsBody : Stmt → List Stmt
  | .ClassDef _ _ _ b .. => b
  | _ => []
def inCls (i j : Nat) : Stmt := (clsBody (inTop i)).getD j default
def fobj (q : Str) (s : Stmt) (pm cd : Value) : Obj := match s with
  | .FunctionDef n a b _ _ _ sc _ _ _ => { cls := .type "function", data := .func { name := n, qualname := q, params := a, body := .stmts b, scope := sc, globals := 3, closure := [], defaults := .none, kwdefaults := .none, pyModule := pm, code := cd } }
  | _ => default
abbrev ent (P : Params) (k : Str) (t : Tok) (v : Value) : DictEntry := { hash := PyData.keyHash P k, key := Value.str k t, val := v }
noncomputable def o28 : Obj := fobj "loss_delay" (inTop 6) (.str "quic.loss" 196) (.ref 27)
noncomputable def o35 : Obj := fobj "is_lost" (inTop 7) (.str "quic.loss" 196) (.ref 34)
noncomputable def o42 : Obj := fobj "detect_lost" (inTop 8) (.str "quic.loss" 196) (.ref 41)
noncomputable def o49 : Obj := fobj "newest_time" (inTop 9) (.str "quic.loss" 196) (.ref 48)
noncomputable def o54 : Obj := fobj "flight_size" (inTop 10) (.str "quic.loss" 196) (.ref 53)
noncomputable def o61 : Obj := fobj "initial_window" (inTop 17) (.str "quic.newreno" 253) (.ref 60)
noncomputable def o68 : Obj := fobj "least_window" (inTop 18) (.str "quic.newreno" 253) (.ref 67)
noncomputable def o82 : Obj := fobj "NewReno.__init__" (inCls 19 0) (.str "quic.newreno" 253) (.ref 81)
noncomputable def o96 : Obj := fobj "NewReno.is_slow_start" (inCls 19 2) (.str "quic.newreno" 253) (.ref 95)
noncomputable def o103 : Obj := fobj "NewReno.in_recovery" (inCls 19 3) (.str "quic.newreno" 253) (.ref 102)
noncomputable def o110 : Obj := fobj "NewReno.on_sent" (inCls 19 4) (.str "quic.newreno" 253) (.ref 109)
noncomputable def o124 : Obj := fobj "NewReno.on_acked" (inCls 19 6) (.str "quic.newreno" 253) (.ref 123)
noncomputable def o131 : Obj := fobj "NewReno.widen" (inCls 19 7) (.str "quic.newreno" 253) (.ref 130)
noncomputable def o138 : Obj := fobj "NewReno.on_congestion" (inCls 19 8) (.str "quic.newreno" 253) (.ref 137)
noncomputable def o145 : Obj := fobj "NewReno.on_lost" (inCls 19 9) (.str "quic.newreno" 253) (.ref 144)
noncomputable def o167 : Obj := fobj "is_eliciting" (inTop 22) (.str "quic.framerules" 399) (.ref 166)
noncomputable def o174 : Obj := fobj "counts_in_flight" (inTop 23) (.str "quic.framerules" 399) (.ref 173)
noncomputable def o179 : Obj := fobj "any_eliciting" (inTop 24) (.str "quic.framerules" 399) (.ref 178)
noncomputable def o184 : Obj := fobj "any_in_flight" (inTop 25) (.str "quic.framerules" 399) (.ref 183)
noncomputable def o189 : Obj := fobj "has_number" (inTop 27) (.str "quic.ranges" 431) (.ref 188)
noncomputable def o194 : Obj := fobj "newly_acked" (inTop 28) (.str "quic.ranges" 431) (.ref 193)
noncomputable def o208 : Obj := fobj "SentPacket.__init__" (inCls 30 0) (.str "quic.spaces" 445) (.ref 207)
noncomputable def o229 : Obj := fobj "Space.__init__" (inCls 31 0) (.str "quic.spaces" 445) (.ref 228)
noncomputable def o271 : Obj := fobj "Space.take_number" (inCls 31 6) (.str "quic.spaces" 445) (.ref 270)
noncomputable def o278 : Obj := fobj "Space.on_sent" (inCls 31 7) (.str "quic.spaces" 445) (.ref 277)
noncomputable def o283 : Obj := fobj "Space.take" (inCls 31 8) (.str "quic.spaces" 445) (.ref 282)
noncomputable def o290 : Obj := fobj "Space.acked_by" (inCls 31 9) (.str "quic.spaces" 445) (.ref 289)
noncomputable def o318 : Obj := fobj "Space.note_largest" (inCls 31 13) (.str "quic.spaces" 445) (.ref 317)
noncomputable def o337 : Obj := fobj "Space.octets_out" (inCls 31 16) (.str "quic.spaces" 445) (.ref 336)
noncomputable def o344 : Obj := fobj "Space.sent_rows" (inCls 31 17) (.str "quic.spaces" 445) (.ref 343)
noncomputable def o365 : Obj := fobj "_law_take" (inTop 33) (.str "law_sj0119_01" 673) (.ref 364)
noncomputable def o370 : Obj := fobj "_law_look" (inTop 34) (.str "law_sj0119_01" 673) (.ref 369)
noncomputable def o375 : Obj := fobj "_law_told" (inTop 35) (.str "law_sj0119_01" 673) (.ref 374)
noncomputable def o382 : Obj := fobj "_law_run" (inTop 36) (.str "law_sj0119_01" 673) (.ref 381)
noncomputable def o387 : Obj := fobj "law" (inTop 37) (.str "law_sj0119_01" 673) (.ref 386)
noncomputable def o27 : Obj := { cls := .type "code", data := .fields #[Value.str (Str.ofString "loss_delay") 204, Value.str (Str.ofString "loss_delay") 205, Value.str (Str.ofString "/claim/cut.py") 206, Value.int 9 0, Value.int 2 0, Value.int 0 0, Value.int 0 0, Value.int 3 0, Value.ref 22, Value.bool true, Value.int 181 0, Value.ref 23, Value.none, Value.ref 24, Value.ref 25, Value.ref 26, Value.int 209 0, Value.int 9 0, Value.str (Str.ofString "/claim/cut.py") 210] }
noncomputable def o34 : Obj := { cls := .type "code", data := .fields #[Value.str (Str.ofString "is_lost") 212, Value.str (Str.ofString "is_lost") 213, Value.str (Str.ofString "/claim/cut.py") 214, Value.int 11 0, Value.int 5 0, Value.int 0 0, Value.int 0 0, Value.int 3 0, Value.ref 29, Value.bool true, Value.int 181 0, Value.ref 30, Value.none, Value.ref 31, Value.ref 32, Value.ref 33, Value.int 220 0, Value.int 11 0, Value.str (Str.ofString "/claim/cut.py") 221] }
noncomputable def o41 : Obj := { cls := .type "code", data := .fields #[Value.str (Str.ofString "detect_lost") 223, Value.str (Str.ofString "detect_lost") 224, Value.str (Str.ofString "/claim/cut.py") 225, Value.int 13 0, Value.int 4 0, Value.int 0 0, Value.int 0 0, Value.int 3 0, Value.ref 36, Value.bool true, Value.int 181 0, Value.ref 37, Value.none, Value.ref 38, Value.ref 39, Value.ref 40, Value.int 234 0, Value.int 13 0, Value.str (Str.ofString "/claim/cut.py") 235] }
noncomputable def o48 : Obj := { cls := .type "code", data := .fields #[Value.str (Str.ofString "newest_time") 237, Value.str (Str.ofString "newest_time") 238, Value.str (Str.ofString "/claim/cut.py") 239, Value.int 24 0, Value.int 2 0, Value.int 0 0, Value.int 0 0, Value.int 3 0, Value.ref 43, Value.bool true, Value.int 181 0, Value.ref 44, Value.none, Value.ref 45, Value.ref 46, Value.ref 47, Value.int 244 0, Value.int 24 0, Value.str (Str.ofString "/claim/cut.py") 245] }
noncomputable def o53 : Obj := { cls := .type "code", data := .fields #[Value.str (Str.ofString "flight_size") 247, Value.str (Str.ofString "flight_size") 248, Value.str (Str.ofString "/claim/cut.py") 249, Value.int 30 0, Value.int 2 0, Value.int 0 0, Value.int 0 0, Value.int 3 0, Value.ref 50, Value.bool true, Value.int 181 0, Value.ref 51, Value.none, Value.none, Value.none, Value.ref 52, Value.int 250 0, Value.int 30 0, Value.str (Str.ofString "/claim/cut.py") 251] }
noncomputable def o60 : Obj := { cls := .type "code", data := .fields #[Value.str (Str.ofString "initial_window") 265, Value.str (Str.ofString "initial_window") 266, Value.str (Str.ofString "/claim/cut.py") 267, Value.int 38 0, Value.int 1 0, Value.int 0 0, Value.int 0 0, Value.int 3 0, Value.ref 55, Value.bool true, Value.int 181 0, Value.ref 56, Value.none, Value.ref 57, Value.ref 58, Value.ref 59, Value.int 269 0, Value.int 38 0, Value.str (Str.ofString "/claim/cut.py") 270] }
noncomputable def o67 : Obj := { cls := .type "code", data := .fields #[Value.str (Str.ofString "least_window") 272, Value.str (Str.ofString "least_window") 273, Value.str (Str.ofString "/claim/cut.py") 274, Value.int 40 0, Value.int 1 0, Value.int 0 0, Value.int 0 0, Value.int 3 0, Value.ref 62, Value.bool true, Value.int 181 0, Value.ref 63, Value.none, Value.ref 64, Value.ref 65, Value.ref 66, Value.int 276 0, Value.int 40 0, Value.str (Str.ofString "/claim/cut.py") 277] }
noncomputable def o81 : Obj := { cls := .type "code", data := .fields #[Value.str (Str.ofString "__init__") 291, Value.str (Str.ofString "NewReno.__init__") 292, Value.str (Str.ofString "/claim/cut.py") 293, Value.int 44 0, Value.int 2 0, Value.int 0 0, Value.int 0 0, Value.int 3 0, Value.ref 76, Value.bool true, Value.int 181 0, Value.ref 77, Value.none, Value.ref 78, Value.ref 79, Value.ref 80, Value.int 296 0, Value.int 44 0, Value.str (Str.ofString "/claim/cut.py") 297] }
noncomputable def o95 : Obj := { cls := .type "code", data := .fields #[Value.str (Str.ofString "is_slow_start") 307, Value.str (Str.ofString "NewReno.is_slow_start") 308, Value.str (Str.ofString "/claim/cut.py") 309, Value.int 55 0, Value.int 1 0, Value.int 0 0, Value.int 0 0, Value.int 3 0, Value.ref 90, Value.bool true, Value.int 181 0, Value.ref 91, Value.none, Value.ref 92, Value.ref 93, Value.ref 94, Value.int 311 0, Value.int 55 0, Value.str (Str.ofString "/claim/cut.py") 312] }
noncomputable def o102 : Obj := { cls := .type "code", data := .fields #[Value.str (Str.ofString "in_recovery") 314, Value.str (Str.ofString "NewReno.in_recovery") 315, Value.str (Str.ofString "/claim/cut.py") 316, Value.int 58 0, Value.int 2 0, Value.int 0 0, Value.int 0 0, Value.int 3 0, Value.ref 97, Value.bool true, Value.int 181 0, Value.ref 98, Value.none, Value.ref 99, Value.ref 100, Value.ref 101, Value.int 319 0, Value.int 58 0, Value.str (Str.ofString "/claim/cut.py") 320] }
noncomputable def o109 : Obj := { cls := .type "code", data := .fields #[Value.str (Str.ofString "on_sent") 322, Value.str (Str.ofString "NewReno.on_sent") 323, Value.str (Str.ofString "/claim/cut.py") 324, Value.int 61 0, Value.int 2 0, Value.int 0 0, Value.int 0 0, Value.int 3 0, Value.ref 104, Value.bool true, Value.int 181 0, Value.ref 105, Value.none, Value.ref 106, Value.ref 107, Value.ref 108, Value.int 327 0, Value.int 61 0, Value.str (Str.ofString "/claim/cut.py") 328] }
noncomputable def o123 : Obj := { cls := .type "code", data := .fields #[Value.str (Str.ofString "on_acked") 338, Value.str (Str.ofString "NewReno.on_acked") 339, Value.str (Str.ofString "/claim/cut.py") 340, Value.int 67 0, Value.int 6 0, Value.int 0 0, Value.int 0 0, Value.int 3 0, Value.ref 118, Value.bool true, Value.int 181 0, Value.ref 119, Value.none, Value.ref 120, Value.ref 121, Value.ref 122, Value.int 347 0, Value.int 67 0, Value.str (Str.ofString "/claim/cut.py") 348] }
noncomputable def o130 : Obj := { cls := .type "code", data := .fields #[Value.str (Str.ofString "widen") 350, Value.str (Str.ofString "NewReno.widen") 351, Value.str (Str.ofString "/claim/cut.py") 352, Value.int 76 0, Value.int 2 0, Value.int 0 0, Value.int 0 0, Value.int 3 0, Value.ref 125, Value.bool true, Value.int 181 0, Value.ref 126, Value.none, Value.ref 127, Value.ref 128, Value.ref 129, Value.int 356 0, Value.int 76 0, Value.str (Str.ofString "/claim/cut.py") 357] }
noncomputable def o137 : Obj := { cls := .type "code", data := .fields #[Value.str (Str.ofString "on_congestion") 359, Value.str (Str.ofString "NewReno.on_congestion") 360, Value.str (Str.ofString "/claim/cut.py") 361, Value.int 82 0, Value.int 3 0, Value.int 0 0, Value.int 0 0, Value.int 3 0, Value.ref 132, Value.bool true, Value.int 181 0, Value.ref 133, Value.none, Value.ref 134, Value.ref 135, Value.ref 136, Value.int 365 0, Value.int 82 0, Value.str (Str.ofString "/claim/cut.py") 366] }
noncomputable def o144 : Obj := { cls := .type "code", data := .fields #[Value.str (Str.ofString "on_lost") 368, Value.str (Str.ofString "NewReno.on_lost") 369, Value.str (Str.ofString "/claim/cut.py") 370, Value.int 90 0, Value.int 4 0, Value.int 0 0, Value.int 0 0, Value.int 3 0, Value.ref 139, Value.bool true, Value.int 181 0, Value.ref 140, Value.none, Value.ref 141, Value.ref 142, Value.ref 143, Value.int 375 0, Value.int 90 0, Value.str (Str.ofString "/claim/cut.py") 376] }
noncomputable def o166 : Obj := { cls := .type "code", data := .fields #[Value.str (Str.ofString "is_eliciting") 405, Value.str (Str.ofString "is_eliciting") 406, Value.str (Str.ofString "/claim/cut.py") 407, Value.int 99 0, Value.int 1 0, Value.int 0 0, Value.int 0 0, Value.int 3 0, Value.ref 161, Value.bool true, Value.int 181 0, Value.ref 162, Value.none, Value.ref 163, Value.ref 164, Value.ref 165, Value.int 409 0, Value.int 99 0, Value.str (Str.ofString "/claim/cut.py") 410] }
noncomputable def o173 : Obj := { cls := .type "code", data := .fields #[Value.str (Str.ofString "counts_in_flight") 412, Value.str (Str.ofString "counts_in_flight") 413, Value.str (Str.ofString "/claim/cut.py") 414, Value.int 101 0, Value.int 1 0, Value.int 0 0, Value.int 0 0, Value.int 3 0, Value.ref 168, Value.bool true, Value.int 181 0, Value.ref 169, Value.none, Value.ref 170, Value.ref 171, Value.ref 172, Value.int 416 0, Value.int 101 0, Value.str (Str.ofString "/claim/cut.py") 417] }
noncomputable def o178 : Obj := { cls := .type "code", data := .fields #[Value.str (Str.ofString "any_eliciting") 419, Value.str (Str.ofString "any_eliciting") 420, Value.str (Str.ofString "/claim/cut.py") 421, Value.int 103 0, Value.int 1 0, Value.int 0 0, Value.int 0 0, Value.int 3 0, Value.ref 175, Value.bool true, Value.int 181 0, Value.ref 176, Value.none, Value.none, Value.none, Value.ref 177, Value.int 422 0, Value.int 103 0, Value.str (Str.ofString "/claim/cut.py") 423] }
noncomputable def o183 : Obj := { cls := .type "code", data := .fields #[Value.str (Str.ofString "any_in_flight") 425, Value.str (Str.ofString "any_in_flight") 426, Value.str (Str.ofString "/claim/cut.py") 427, Value.int 105 0, Value.int 1 0, Value.int 0 0, Value.int 0 0, Value.int 3 0, Value.ref 180, Value.bool true, Value.int 181 0, Value.ref 181, Value.none, Value.none, Value.none, Value.ref 182, Value.int 428 0, Value.int 105 0, Value.str (Str.ofString "/claim/cut.py") 429] }
noncomputable def o188 : Obj := { cls := .type "code", data := .fields #[Value.str (Str.ofString "has_number") 433, Value.str (Str.ofString "has_number") 434, Value.str (Str.ofString "/claim/cut.py") 435, Value.int 108 0, Value.int 2 0, Value.int 0 0, Value.int 0 0, Value.int 3 0, Value.ref 185, Value.bool true, Value.int 181 0, Value.ref 186, Value.none, Value.none, Value.none, Value.ref 187, Value.int 436 0, Value.int 108 0, Value.str (Str.ofString "/claim/cut.py") 437] }
noncomputable def o193 : Obj := { cls := .type "code", data := .fields #[Value.str (Str.ofString "newly_acked") 439, Value.str (Str.ofString "newly_acked") 440, Value.str (Str.ofString "/claim/cut.py") 441, Value.int 110 0, Value.int 2 0, Value.int 0 0, Value.int 0 0, Value.int 3 0, Value.ref 190, Value.bool true, Value.int 181 0, Value.ref 191, Value.none, Value.none, Value.none, Value.ref 192, Value.int 442 0, Value.int 110 0, Value.str (Str.ofString "/claim/cut.py") 443] }
noncomputable def o207 : Obj := { cls := .type "code", data := .fields #[Value.str (Str.ofString "__init__") 459, Value.str (Str.ofString "SentPacket.__init__") 460, Value.str (Str.ofString "/claim/cut.py") 461, Value.int 115 0, Value.int 5 0, Value.int 0 0, Value.int 0 0, Value.int 3 0, Value.ref 202, Value.bool true, Value.int 181 0, Value.ref 203, Value.none, Value.ref 204, Value.ref 205, Value.ref 206, Value.int 467 0, Value.int 115 0, Value.str (Str.ofString "/claim/cut.py") 468] }
noncomputable def o228 : Obj := { cls := .type "code", data := .fields #[Value.str (Str.ofString "__init__") 496, Value.str (Str.ofString "Space.__init__") 497, Value.str (Str.ofString "/claim/cut.py") 498, Value.int 124 0, Value.int 2 0, Value.int 0 0, Value.int 0 0, Value.int 3 0, Value.ref 223, Value.bool true, Value.int 181 0, Value.ref 224, Value.none, Value.ref 225, Value.ref 226, Value.ref 227, Value.int 501 0, Value.int 124 0, Value.str (Str.ofString "/claim/cut.py") 502] }
noncomputable def o270 : Obj := { cls := .type "code", data := .fields #[Value.str (Str.ofString "take_number") 546, Value.str (Str.ofString "Space.take_number") 547, Value.str (Str.ofString "/claim/cut.py") 548, Value.int 158 0, Value.int 1 0, Value.int 0 0, Value.int 0 0, Value.int 3 0, Value.ref 265, Value.bool true, Value.int 181 0, Value.ref 266, Value.none, Value.ref 267, Value.ref 268, Value.ref 269, Value.int 550 0, Value.int 158 0, Value.str (Str.ofString "/claim/cut.py") 551] }
noncomputable def o277 : Obj := { cls := .type "code", data := .fields #[Value.str (Str.ofString "on_sent") 553, Value.str (Str.ofString "Space.on_sent") 554, Value.str (Str.ofString "/claim/cut.py") 555, Value.int 162 0, Value.int 5 0, Value.int 0 0, Value.int 0 0, Value.int 3 0, Value.ref 272, Value.bool true, Value.int 181 0, Value.ref 273, Value.none, Value.ref 274, Value.ref 275, Value.ref 276, Value.int 562 0, Value.int 162 0, Value.str (Str.ofString "/claim/cut.py") 563] }
noncomputable def o282 : Obj := { cls := .type "code", data := .fields #[Value.str (Str.ofString "take") 565, Value.str (Str.ofString "Space.take") 566, Value.str (Str.ofString "/claim/cut.py") 567, Value.int 169 0, Value.int 2 0, Value.int 0 0, Value.int 0 0, Value.int 3 0, Value.ref 279, Value.bool true, Value.int 181 0, Value.ref 280, Value.none, Value.none, Value.none, Value.ref 281, Value.int 568 0, Value.int 169 0, Value.str (Str.ofString "/claim/cut.py") 569] }
noncomputable def o289 : Obj := { cls := .type "code", data := .fields #[Value.str (Str.ofString "acked_by") 571, Value.str (Str.ofString "Space.acked_by") 572, Value.str (Str.ofString "/claim/cut.py") 573, Value.int 173 0, Value.int 2 0, Value.int 0 0, Value.int 0 0, Value.int 3 0, Value.ref 284, Value.bool true, Value.int 181 0, Value.ref 285, Value.none, Value.ref 286, Value.ref 287, Value.ref 288, Value.int 576 0, Value.int 173 0, Value.str (Str.ofString "/claim/cut.py") 577] }
noncomputable def o317 : Obj := { cls := .type "code", data := .fields #[Value.str (Str.ofString "note_largest") 603, Value.str (Str.ofString "Space.note_largest") 604, Value.str (Str.ofString "/claim/cut.py") 605, Value.int 185 0, Value.int 2 0, Value.int 0 0, Value.int 0 0, Value.int 3 0, Value.ref 312, Value.bool true, Value.int 181 0, Value.ref 313, Value.none, Value.ref 314, Value.ref 315, Value.ref 316, Value.int 608 0, Value.int 185 0, Value.str (Str.ofString "/claim/cut.py") 609] }
noncomputable def o336 : Obj := { cls := .type "code", data := .fields #[Value.str (Str.ofString "octets_out") 625, Value.str (Str.ofString "Space.octets_out") 626, Value.str (Str.ofString "/claim/cut.py") 627, Value.int 195 0, Value.int 1 0, Value.int 0 0, Value.int 0 0, Value.int 3 0, Value.ref 333, Value.bool true, Value.int 181 0, Value.ref 334, Value.none, Value.none, Value.none, Value.ref 335, Value.int 628 0, Value.int 195 0, Value.str (Str.ofString "/claim/cut.py") 629] }
noncomputable def o343 : Obj := { cls := .type "code", data := .fields #[Value.str (Str.ofString "sent_rows") 631, Value.str (Str.ofString "Space.sent_rows") 632, Value.str (Str.ofString "/claim/cut.py") 633, Value.int 198 0, Value.int 1 0, Value.int 0 0, Value.int 0 0, Value.int 3 0, Value.ref 338, Value.bool true, Value.int 181 0, Value.ref 339, Value.none, Value.ref 340, Value.ref 341, Value.ref 342, Value.int 638 0, Value.int 198 0, Value.str (Str.ofString "/claim/cut.py") 639] }
noncomputable def o364 : Obj := { cls := .type "code", data := .fields #[Value.str (Str.ofString "_law_take") 675, Value.str (Str.ofString "_law_take") 676, Value.str (Str.ofString "/claim/cut.py") 677, Value.int 208 0, Value.int 2 0, Value.int 0 0, Value.int 0 0, Value.int 3 0, Value.ref 359, Value.bool true, Value.int 181 0, Value.ref 360, Value.none, Value.ref 361, Value.ref 362, Value.ref 363, Value.int 680 0, Value.int 208 0, Value.str (Str.ofString "/claim/cut.py") 681] }
noncomputable def o369 : Obj := { cls := .type "code", data := .fields #[Value.str (Str.ofString "_law_look") 683, Value.str (Str.ofString "_law_look") 684, Value.str (Str.ofString "/claim/cut.py") 685, Value.int 213 0, Value.int 2 0, Value.int 0 0, Value.int 0 0, Value.int 3 0, Value.ref 366, Value.bool true, Value.int 181 0, Value.ref 367, Value.none, Value.none, Value.none, Value.ref 368, Value.int 686 0, Value.int 213 0, Value.str (Str.ofString "/claim/cut.py") 687] }
noncomputable def o374 : Obj := { cls := .type "code", data := .fields #[Value.str (Str.ofString "_law_told") 689, Value.str (Str.ofString "_law_told") 690, Value.str (Str.ofString "/claim/cut.py") 691, Value.int 223 0, Value.int 3 0, Value.int 0 0, Value.int 0 0, Value.int 3 0, Value.ref 371, Value.bool true, Value.int 181 0, Value.ref 372, Value.none, Value.none, Value.none, Value.ref 373, Value.int 692 0, Value.int 223 0, Value.str (Str.ofString "/claim/cut.py") 693] }
noncomputable def o381 : Obj := { cls := .type "code", data := .fields #[Value.str (Str.ofString "_law_run") 695, Value.str (Str.ofString "_law_run") 696, Value.str (Str.ofString "/claim/cut.py") 697, Value.int 231 0, Value.int 5 0, Value.int 0 0, Value.int 0 0, Value.int 3 0, Value.ref 376, Value.bool true, Value.int 181 0, Value.ref 377, Value.none, Value.ref 378, Value.ref 379, Value.ref 380, Value.int 713 0, Value.int 231 0, Value.str (Str.ofString "/claim/cut.py") 714] }
noncomputable def o386 : Obj := { cls := .type "code", data := .fields #[Value.str (Str.ofString "law") 716, Value.str (Str.ofString "law") 717, Value.str (Str.ofString "/claim/cut.py") 718, Value.int 250 0, Value.int 1 0, Value.int 0 0, Value.int 0 0, Value.int 3 0, Value.ref 383, Value.bool true, Value.int 181 0, Value.ref 384, Value.none, Value.none, Value.none, Value.ref 385, Value.int 719 0, Value.int 250 0, Value.str (Str.ofString "/claim/cut.py") 720] }
namespace hd
noncomputable def heap_39 : Params → Frag := fun P =>
  (nat_lit 2, { cls := Value.none, data := Data.dict #[] }) ::
    (nat_lit 3, { cls := Value.type "dict", data := Data.dict #[ent P "__name__" 165 (Value.str (Str.ofString "law_sj0119_01") 673), ent P "__doc__" 166 Value.none, ent P "__package__" 167 Value.none, ent P "__loader__" 168 (Value.builtin "__main__.__loader__#opaque"), ent P "__spec__" 169 Value.none, ent P "__annotations__" 170 (Value.ref 6), ent P "__builtins__" 171 (Value.ref 4), ent P "__file__" 173 (Value.str (Str.ofString "/claim/cut.py") 172), ent P "__cached__" 174 Value.none, ent P "_wall" 193 (Value.ref 21), ent P "GRANULARITY" 195 (Value.int 1000 194), ent P "PACKET_THRESHOLD" 199 (Value.int 3 198), ent P "TIME_TOP" 201 (Value.int 9 200), ent P "TIME_BOTTOM" 203 (Value.int 8 202), ent P "loss_delay" 211 (Value.ref 28), ent P "is_lost" 222 (Value.ref 35), ent P "detect_lost" 236 (Value.ref 42), ent P "newest_time" 246 (Value.ref 49), ent P "flight_size" 252 (Value.ref 54), ent P "INITIAL_PACKETS" 256 (Value.int 10 255), ent P "INITIAL_OCTETS" 258 (Value.int 14720 257), ent P "LEAST_PACKETS" 260 (Value.int 2 259), ent P "LOSS_TOP" 262 (Value.int 1 261), ent P "LOSS_BOTTOM" 264 (Value.int 2 263), ent P "initial_window" 271 (Value.ref 61), ent P "least_window" 278 (Value.ref 68), ent P "NewReno" 398 (Value.ref 155), ent P "NOT_ELICITING" 404 (Value.ref 160), ent P "is_eliciting" 411 (Value.ref 167), ent P "counts_in_flight" 418 (Value.ref 174), ent P "any_eliciting" 424 (Value.ref 179), ent P "any_in_flight" 430 (Value.ref 184), ent P "has_number" 438 (Value.ref 189), ent P "newly_acked" 444 (Value.ref 194), ent P "SentPacket" 483 (Value.ref 211), ent P "Space" 672 (Value.ref 354), ent P "_law_take" 682 (Value.ref 365), ent P "_law_look" 688 (Value.ref 370), ent P "_law_told" 694 (Value.ref 375), ent P "_law_run" 715 (Value.ref 382), ent P "law" 721 (Value.ref 387)] 41 }) ::
    (nat_lit 27, o27) ::
    (nat_lit 28, o28) ::
    (nat_lit 34, o34) ::
    (nat_lit 35, o35) ::
    (nat_lit 41, o41) ::
    (nat_lit 42, o42) ::
    (nat_lit 48, o48) ::
    (nat_lit 49, o49) ::
    (nat_lit 53, o53) ::
    (nat_lit 54, o54) ::
    (nat_lit 60, o60) ::
    (nat_lit 61, o61) ::
    (nat_lit 67, o67) ::
    (nat_lit 68, o68) ::
    (nat_lit 81, o81) ::
    (nat_lit 82, o82) ::
    (nat_lit 95, o95) ::
    (nat_lit 96, o96) ::
    (nat_lit 102, o102) ::
    (nat_lit 103, o103) ::
    (nat_lit 109, o109) ::
    (nat_lit 110, o110) ::
    (nat_lit 123, o123) ::
    (nat_lit 124, o124) ::
    (nat_lit 130, o130) ::
    (nat_lit 131, o131) ::
    (nat_lit 137, o137) ::
    (nat_lit 138, o138) ::
    (nat_lit 144, o144) ::
    (nat_lit 145, o145) ::
    (nat_lit 154, { cls := Value.type "dict", data := Data.dict #[ent P "__module__" 286 (Value.str (Str.ofString "quic.newreno") 253), ent P "__firstlineno__" 290 (Value.int 42 289), ent P "__init__" 298 (Value.ref 82), ent P "may_send" 306 (Value.ref 89), ent P "is_slow_start" 313 (Value.ref 96), ent P "in_recovery" 321 (Value.ref 103), ent P "on_sent" 329 (Value.ref 110), ent P "on_discarded" 337 (Value.ref 117), ent P "on_acked" 349 (Value.ref 124), ent P "widen" 358 (Value.ref 131), ent P "on_congestion" 367 (Value.ref 138), ent P "on_lost" 377 (Value.ref 145), ent P "on_persistent" 384 (Value.ref 152), ent P "__static_attributes__" 391 (Value.ref 153), ent P "__dict__" 393 (Value.ref 156), ent P "__weakref__" 395 (Value.ref 157), ent P "__doc__" 396 Value.none] 4 }) ::
    (nat_lit 155, { cls := Value.type "type", data := Data.cls { name := Str.ofString "NewReno", bases := [Value.type "object"], mro := [Value.ref 155, Value.type "object"], ns := 154, qualname := Str.ofString "NewReno" }, slots := #[none, none, some (Value.str (Str.ofString "NewReno") 279), some (Value.str (Str.ofString "NewReno") 287), some (Value.builtin "object.__new__"), some (Value.bool true)] }) ::
    (nat_lit 160, { cls := Value.type "tuple", data := Data.seq #[Value.str (Str.ofString "ack") 401, Value.str (Str.ofString "padding") 402, Value.str (Str.ofString "close") 403] }) ::
    (nat_lit 166, o166) ::
    (nat_lit 167, o167) ::
    (nat_lit 173, o173) ::
    (nat_lit 174, o174) ::
    (nat_lit 178, o178) ::
    (nat_lit 179, o179) ::
    (nat_lit 183, o183) ::
    (nat_lit 184, o184) ::
    (nat_lit 188, o188) ::
    (nat_lit 189, o189) ::
    (nat_lit 193, o193) ::
    (nat_lit 194, o194) ::
    (nat_lit 207, o207) ::
    (nat_lit 208, o208) ::
    (nat_lit 210, { cls := Value.type "dict", data := Data.dict #[ent P "__module__" 454 (Value.str (Str.ofString "quic.spaces") 445), ent P "__firstlineno__" 458 (Value.int 113 457), ent P "__init__" 469 (Value.ref 208), ent P "__static_attributes__" 476 (Value.ref 209), ent P "__dict__" 478 (Value.ref 212), ent P "__weakref__" 480 (Value.ref 213), ent P "__doc__" 481 Value.none] 4 }) ::
    (nat_lit 211, { cls := Value.type "type", data := Data.cls { name := Str.ofString "SentPacket", bases := [Value.type "object"], mro := [Value.ref 211, Value.type "object"], ns := 210, qualname := Str.ofString "SentPacket" }, slots := #[none, none, some (Value.str (Str.ofString "SentPacket") 447), some (Value.str (Str.ofString "SentPacket") 455), some (Value.builtin "object.__new__"), some (Value.bool true)] }) ::
    (nat_lit 228, o228) ::
    (nat_lit 229, o229) ::
    (nat_lit 270, o270) ::
    (nat_lit 271, o271) ::
    (nat_lit 277, o277) ::
    (nat_lit 278, o278) ::
    (nat_lit 282, o282) ::
    (nat_lit 283, o283) ::
    (nat_lit 289, o289) ::
    (nat_lit 290, o290) ::
    (nat_lit 317, o317) ::
    (nat_lit 318, o318) ::
    (nat_lit 336, o336) ::
    (nat_lit 337, o337) ::
    (nat_lit 343, o343) ::
    (nat_lit 344, o344) ::
    (nat_lit 353, { cls := Value.type "dict", data := Data.dict #[ent P "__module__" 491 (Value.str (Str.ofString "quic.spaces") 445), ent P "__firstlineno__" 495 (Value.int 122 494), ent P "__init__" 503 (Value.ref 229), ent P "is_known" 511 (Value.ref 236), ent P "on_received" 522 (Value.ref 243), ent P "ack_frame" 531 (Value.ref 250), ent P "on_ack_sent" 538 (Value.ref 257), ent P "owes_ack" 545 (Value.ref 264), ent P "take_number" 552 (Value.ref 271), ent P "on_sent" 564 (Value.ref 278), ent P "take" 570 (Value.ref 283), ent P "acked_by" 578 (Value.ref 290), ent P "note_acked" 586 (Value.ref 297), ent P "note_ranges" 594 (Value.ref 304), ent P "is_beyond" 602 (Value.ref 311), ent P "note_largest" 610 (Value.ref 318), ent P "eliciting_left" 617 (Value.ref 325), ent P "bare_numbers" 624 (Value.ref 332), ent P "octets_out" 630 (Value.ref 337), ent P "sent_rows" 640 (Value.ref 344), ent P "forget" 647 (Value.ref 351), ent P "__static_attributes__" 665 (Value.ref 352), ent P "__dict__" 667 (Value.ref 355), ent P "__weakref__" 669 (Value.ref 356), ent P "__doc__" 670 Value.none] 4 }) ::
    (nat_lit 354, { cls := Value.type "type", data := Data.cls { name := Str.ofString "Space", bases := [Value.type "object"], mro := [Value.ref 354, Value.type "object"], ns := 353, qualname := Str.ofString "Space" }, slots := #[none, none, some (Value.str (Str.ofString "Space") 484), some (Value.str (Str.ofString "Space") 492), some (Value.builtin "object.__new__"), some (Value.bool true)] }) ::
    (nat_lit 364, o364) ::
    (nat_lit 365, o365) ::
    (nat_lit 369, o369) ::
    (nat_lit 370, o370) ::
    (nat_lit 374, o374) ::
    (nat_lit 375, o375) ::
    (nat_lit 381, o381) ::
    (nat_lit 382, o382) ::
    (nat_lit 386, o386) ::
    (nat_lit 387, o387) :: []
noncomputable def view_39 : Program := view PR [0, 1, 3, 4, 5, 6, 7, 8, 9, 10, 12, 13, 14, 15, 16, 17, 18, 19, 21, 22, 23, 24, 25, 27, 28, 30, 31, 33, 34, 35, 36, 37]
end hd
noncomputable def adrs : List Addr := [2, 3, 27, 28, 34, 35, 41, 42, 48, 49, 53, 54, 60, 61, 67, 68, 81, 82, 95, 96, 102, 103, 109, 110, 123, 124, 130, 131, 137, 138, 144, 145, 154, 155, 160, 166, 167, 173, 174, 178, 179, 183, 184, 188, 189, 193, 194, 207, 208, 210, 211, 228, 229, 270, 271, 277, 278, 282, 283, 289, 290, 317, 318, 336, 337, 343, 344, 353, 354, 364, 365, 369, 370, 374, 375, 381, 382, 386, 387]
def topRunT (tb : String → Option Builtin) (p : Program) (w : World) (n₀ : Nat) (ann : Option Value) : Nat → SharedT → Thread → Option SharedT
  | 0, _, _ => none
  | n + 1, s, t => match through t with
    | true => some s
    | false => match stepOk n₀ ann t with
      | false => none
      | true => match stepT (denote tb) p w s t with
        | some (s', t') => topRunT tb p w n₀ ann n s' t'
        | none => none
theorem topRun_of {tb p w n₀ ann} : ∀ {n : Nat} {s s' : SharedT} {t : Thread}, topRunT tb p w n₀ ann n s t = some s' → topRun tb p w n₀ ann n s.abs t = some s'.abs
  | 0, _, _, _, h => by cases h
  | n + 1, s, s', t, h => by
    unfold topRunT at h
    unfold topRun
    cases he : through t with
    | true => rw [he] at h; cases h; rfl
    | false =>
      rw [he] at h
      cases hk : stepOk n₀ ann t with
      | false => rw [hk] at h; cases h
      | true =>
        rw [hk] at h
        cases hs : stepT (denote tb) p w s t with
        | none => rw [hs] at h; cases h
        | some r => obtain ⟨s₂, t₂⟩ := r; rw [hs] at h; rw [stepT_spec hs]; exact topRun_of h
def toTree : Nat → BT → List Obj → BT
  | _, t, [] => t
  | n, t, o :: l => toTree (n + 1) (t.ins n o) l
theorem left_of_run {p q : Program} {loose : List Str} {Xt : Shared → Bool} {α : Type} {Yf : Shared → α} {Ya : World → α} {N : Nat} {g0 : Bool} {m₀ : Nat} {ann : Option Value}
    (e : opening p = plainProg p.main.scope.names) (hN : Nat.ble 600 N = true) (f : ∀ s, fenceModules? p s = some s)
    (size : ∀ P : Params, ((boot_heap P).isNs mainGlobals, (boot_heap P).objs.size, (boot_heap P).nsMap mainGlobals "__annotations__") = (true, m₀, ann))
    (run : ∀ (w : World) (os : OsState), ∃ s : SharedT, topRun treeTable p w m₀ ann N ⟨boot_heap w.params, Array.mk [], boot_drawn, boot_toks, os⟩ (topStub p) = some s.abs ∧
      (staticsOk (importedModules p.main.body) (boot_heap w.params) s.abs.heap && namesBound p s.abs.heap && gensDone s.abs && laidKept (boot_heap w.params) s.abs.heap,
        openSeen q loose (importedModules p.main.body) Xt g0 s.abs, Yf s.abs) = (true, openGood q loose, Ya w)) : LeftO p q loose Xt Yf Ya N g0 := fun w => by
  obtain ⟨⟨h, gs, d, k, os⟩, e, e'⟩ := Option.map_eq_some_iff.mp (boot_open e hN f w)
  obtain ⟨rfl, rfl, rfl, rfl⟩ : h = boot_heap w.params ∧ gs = Array.mk [] ∧ d = boot_drawn ∧ k = boot_toks := by simpa using e'
  obtain ⟨z1, z2, z3⟩ : _ ∧ _ ∧ _ := by simpa only [Prod.mk.injEq] using size w.params
  obtain ⟨s, r, hl⟩ := run w os
  obtain ⟨l1, l2, l3⟩ : _ ∧ _ ∧ _ := by simpa only [Prod.mk.injEq] using hl
  have t : topFrom treeTable p w N ⟨boot_heap w.params, Array.mk [], boot_drawn, boot_toks, os⟩ = some s.abs := by
    unfold topFrom
    dsimp only
    rw [z1, z2, z3, r]
    show (match staticsOk (importedModules p.main.body) (boot_heap w.params) s.abs.heap && namesBound p s.abs.heap && gensDone s.abs && laidKept (boot_heap w.params) s.abs.heap with | true => _ | false => _) = _
    rw [l1]
  unfold openEnds
  rw [e]
  show (topFrom treeTable p w N _).map _ = _
  rw [t]
  exact congrArg some (Prod.ext l2 l3)
theorem boot_size : ∀ P : Params, ((boot_heap P).isNs mainGlobals, (boot_heap P).objs.size, (boot_heap P).nsMap mainGlobals "__annotations__") = (true, 11, some (.ref 6)) := by intro P; kernel_rfl
theorem boot_plain' : opening PR = plainProg PR.main.scope.names := by kernel_rfl
theorem boot_fence : ∀ s, fenceModules? PR s = some s := by intro s; kernel_rfl
theorem adrs_eq (P : Params) : adrs = (hd.heap_39 P).map (·.1) := by kernel_rfl
noncomputable abbrev HK : Hook := kHook hd.heap_39 adrs adrs_eq
namespace tp
def pobj (q : Str) (s : Stmt) : Obj := match s with
  | .FunctionDef n a b _ _ _ sc _ _ _ => { cls := .none, data := .func { name := n, qualname := q, params := a, body := .stmts b, scope := sc, globals := 0, closure := [], defaults := .none, kwdefaults := .none } }
  | _ => default
abbrev eT : Obj := { cls := Value.type "tuple", data := Data.seq #[] }
abbrev eF : Obj := { cls := Value.none, data := Data.fields #[] }
abbrev cO (f : Array Value) : Obj := { cls := Value.type "code", data := Data.fields f }
abbrev tU (f : Array Value) : Obj := { cls := Value.type "tuple", data := Data.seq f }
abbrev sV (s : Str) (t : Tok) : Value := Value.str s t
noncomputable def ob13 : List Obj :=
  cO #[sV "<module>" 182, sV "<module>" 183, sV "/claim/cut.py" 184, Value.int 1 0, Value.int 0 0, Value.int 0 0, Value.int 0 0, Value.int 0 0, Value.ref 11, Value.bool false, Value.int 181 0, Value.ref 12, Value.none, Value.none, Value.none, Value.none, Value.int 185 0, Value.int 1 0, sV "/claim/cut.py" 186] ::
  { cls := Value.type "frame", slots := #[some (Value.ref 13), some (Value.ref 3), some (Value.ref 3), none, some (sV "__main__" 164), none, some (Value.ref 0)] } :: []
noncomputable def obA (P : Params) : List Obj :=
  eT ::
  eF ::
  tU #[sV "k" 190] ::
  eT ::
  pobj "_wall" (inTop 0) ::
  cO #[sV "_wall" 187, sV "_wall" 188, sV "/claim/cut.py" 189, Value.int 1 0, Value.int 1 0, Value.int 0 0, Value.int 0 0, Value.int 3 0, Value.ref 15, Value.bool true, Value.int 181 0, Value.ref 16, Value.none, Value.ref 17, Value.ref 18, Value.ref 19, Value.int 191 0, Value.int 1 0, sV "/claim/cut.py" 192] ::
  fobj "_wall" (inTop 0) (sV "__main__" 164) (Value.ref 20) ::
  eT ::
  eF ::
  tU #[sV "latest" 207, sV "smoothed" 208] ::
  eT ::
  pobj "loss_delay" (inTop 6) ::
  cO #[sV "loss_delay" 204, sV "loss_delay" 205, sV "/claim/cut.py" 206, Value.int 9 0, Value.int 2 0, Value.int 0 0, Value.int 0 0, Value.int 3 0, Value.ref 22, Value.bool true, Value.int 181 0, Value.ref 23, Value.none, Value.ref 24, Value.ref 25, Value.ref 26, Value.int 209 0, Value.int 9 0, sV "/claim/cut.py" 210] ::
  fobj "loss_delay" (inTop 6) (sV "quic.loss" 196) (Value.ref 27) ::
  eT ::
  eF ::
  tU #[sV "number" 215, sV "sent_at" 216, sV "largest" 217, sV "now" 218, sV "delay" 219] ::
  eT ::
  pobj "is_lost" (inTop 7) ::
  cO #[sV "is_lost" 212, sV "is_lost" 213, sV "/claim/cut.py" 214, Value.int 11 0, Value.int 5 0, Value.int 0 0, Value.int 0 0, Value.int 3 0, Value.ref 29, Value.bool true, Value.int 181 0, Value.ref 30, Value.none, Value.ref 31, Value.ref 32, Value.ref 33, Value.int 220 0, Value.int 11 0, sV "/claim/cut.py" 221] ::
  fobj "is_lost" (inTop 7) (sV "quic.loss" 196) (Value.ref 34) ::
  eT ::
  eF ::
  tU #[sV "sent" 226, sV "largest" 227, sV "now" 228, sV "delay" 229, sV "lost" 230, sV "later" 231, sV "number" 232, sV "sent_at" 233] ::
  eT ::
  pobj "detect_lost" (inTop 8) ::
  cO #[sV "detect_lost" 223, sV "detect_lost" 224, sV "/claim/cut.py" 225, Value.int 13 0, Value.int 4 0, Value.int 0 0, Value.int 0 0, Value.int 3 0, Value.ref 36, Value.bool true, Value.int 181 0, Value.ref 37, Value.none, Value.ref 38, Value.ref 39, Value.ref 40, Value.int 234 0, Value.int 13 0, sV "/claim/cut.py" 235] ::
  fobj "detect_lost" (inTop 8) (sV "quic.loss" 196) (Value.ref 41) ::
  eT ::
  eF ::
  tU #[sV "sent" 240, sV "numbers" 241, sV "found" 242, sV "number" 243] ::
  eT ::
  pobj "newest_time" (inTop 9) ::
  cO #[sV "newest_time" 237, sV "newest_time" 238, sV "/claim/cut.py" 239, Value.int 24 0, Value.int 2 0, Value.int 0 0, Value.int 0 0, Value.int 3 0, Value.ref 43, Value.bool true, Value.int 181 0, Value.ref 44, Value.none, Value.ref 45, Value.ref 46, Value.ref 47, Value.int 244 0, Value.int 24 0, sV "/claim/cut.py" 245] ::
  fobj "newest_time" (inTop 9) (sV "quic.loss" 196) (Value.ref 48) ::
  eT ::
  eF ::
  pobj "flight_size" (inTop 10) ::
  cO #[sV "flight_size" 247, sV "flight_size" 248, sV "/claim/cut.py" 249, Value.int 30 0, Value.int 2 0, Value.int 0 0, Value.int 0 0, Value.int 3 0, Value.ref 50, Value.bool true, Value.int 181 0, Value.ref 51, Value.none, Value.none, Value.none, Value.ref 52, Value.int 250 0, Value.int 30 0, sV "/claim/cut.py" 251] ::
  fobj "flight_size" (inTop 10) (sV "quic.loss" 196) (Value.ref 53) ::
  eT ::
  eF ::
  tU #[sV "datagram" 268] ::
  eT ::
  pobj "initial_window" (inTop 17) ::
  cO #[sV "initial_window" 265, sV "initial_window" 266, sV "/claim/cut.py" 267, Value.int 38 0, Value.int 1 0, Value.int 0 0, Value.int 0 0, Value.int 3 0, Value.ref 55, Value.bool true, Value.int 181 0, Value.ref 56, Value.none, Value.ref 57, Value.ref 58, Value.ref 59, Value.int 269 0, Value.int 38 0, sV "/claim/cut.py" 270] ::
  fobj "initial_window" (inTop 17) (sV "quic.newreno" 253) (Value.ref 60) ::
  eT ::
  eF ::
  tU #[sV "datagram" 275] ::
  eT ::
  pobj "least_window" (inTop 18) ::
  cO #[sV "least_window" 272, sV "least_window" 273, sV "/claim/cut.py" 274, Value.int 40 0, Value.int 1 0, Value.int 0 0, Value.int 0 0, Value.int 3 0, Value.ref 62, Value.bool true, Value.int 181 0, Value.ref 63, Value.none, Value.ref 64, Value.ref 65, Value.ref 66, Value.int 276 0, Value.int 40 0, sV "/claim/cut.py" 277] ::
  fobj "least_window" (inTop 18) (sV "quic.newreno" 253) (Value.ref 67) ::
  eT ::
  { cls := Value.type "builtin_function_or_method", data := Data.fields #[Value.builtin "type.__prepare__", Value.type "type"] } ::
  { cls := Value.type "dict", data := Data.dict #[ent P "__module__" 286 (sV "quic.newreno" 253), ent P "__qualname__" 288 (sV "NewReno" 287), ent P "__firstlineno__" 290 (Value.int 42 289), ent P "__init__" 298 (Value.ref 82), ent P "may_send" 306 (Value.ref 89), ent P "is_slow_start" 313 (Value.ref 96), ent P "in_recovery" 321 (Value.ref 103), ent P "on_sent" 329 (Value.ref 110), ent P "on_discarded" 337 (Value.ref 117), ent P "on_acked" 349 (Value.ref 124), ent P "widen" 358 (Value.ref 131), ent P "on_congestion" 367 (Value.ref 138), ent P "on_lost" 377 (Value.ref 145), ent P "on_persistent" 384 (Value.ref 152), ent P "__static_attributes__" 391 (Value.ref 153)] 15 } ::
  eT ::
  { cls := Value.none, data := Data.fields #[Value.int 44 0, Value.int 4 0, Value.ref 81, Value.int 52 0, Value.int 4 0, Value.ref 88, Value.int 55 0, Value.int 4 0, Value.ref 95, Value.int 58 0, Value.int 4 0, Value.ref 102, Value.int 61 0, Value.int 4 0, Value.ref 109, Value.int 64 0, Value.int 4 0, Value.ref 116, Value.int 67 0, Value.int 4 0, Value.ref 123, Value.int 76 0, Value.int 4 0, Value.ref 130, Value.int 82 0, Value.int 4 0, Value.ref 137, Value.int 90 0, Value.int 4 0, Value.ref 144, Value.int 95 0, Value.int 4 0, Value.ref 151] } ::
  cO #[sV "NewReno" 281, sV "NewReno" 282, sV "/claim/cut.py" 283, Value.int 42 0, Value.int 0 0, Value.int 0 0, Value.int 0 0, Value.int 0 0, Value.ref 72, Value.bool false, Value.int 181 0, Value.ref 73, Value.none, Value.none, Value.none, Value.none, Value.int 284 0, Value.int 42 0, sV "/claim/cut.py" 285] ::
  { cls := Value.type "frame", slots := #[some (Value.ref 74), some (Value.ref 3), some (Value.ref 71), none, some (sV "quic.newreno" 253), none, some (Value.ref 0)] } ::
  eT ::
  eF ::
  tU #[sV "self" 294, sV "datagram" 295] ::
  eT ::
  pobj "NewReno.__init__" (inCls 19 0) ::
  cO #[sV "__init__" 291, sV "NewReno.__init__" 292, sV "/claim/cut.py" 293, Value.int 44 0, Value.int 2 0, Value.int 0 0, Value.int 0 0, Value.int 3 0, Value.ref 76, Value.bool true, Value.int 181 0, Value.ref 77, Value.none, Value.ref 78, Value.ref 79, Value.ref 80, Value.int 296 0, Value.int 44 0, sV "/claim/cut.py" 297] ::
  fobj "NewReno.__init__" (inCls 19 0) (sV "quic.newreno" 253) (Value.ref 81) ::
  eT ::
  eF ::
  tU #[sV "self" 302, sV "size" 303] ::
  eT ::
  pobj "NewReno.may_send" (inCls 19 1) ::
  cO #[sV "may_send" 299, sV "NewReno.may_send" 300, sV "/claim/cut.py" 301, Value.int 52 0, Value.int 2 0, Value.int 0 0, Value.int 0 0, Value.int 3 0, Value.ref 83, Value.bool true, Value.int 181 0, Value.ref 84, Value.none, Value.ref 85, Value.ref 86, Value.ref 87, Value.int 304 0, Value.int 52 0, sV "/claim/cut.py" 305] ::
  fobj "NewReno.may_send" (inCls 19 1) (sV "quic.newreno" 253) (Value.ref 88) ::
  eT ::
  eF ::
  tU #[sV "self" 310] ::
  eT ::
  pobj "NewReno.is_slow_start" (inCls 19 2) ::
  cO #[sV "is_slow_start" 307, sV "NewReno.is_slow_start" 308, sV "/claim/cut.py" 309, Value.int 55 0, Value.int 1 0, Value.int 0 0, Value.int 0 0, Value.int 3 0, Value.ref 90, Value.bool true, Value.int 181 0, Value.ref 91, Value.none, Value.ref 92, Value.ref 93, Value.ref 94, Value.int 311 0, Value.int 55 0, sV "/claim/cut.py" 312] ::
  fobj "NewReno.is_slow_start" (inCls 19 2) (sV "quic.newreno" 253) (Value.ref 95) ::
  eT ::
  eF ::
  tU #[sV "self" 317, sV "sent_at" 318] ::
  eT ::
  pobj "NewReno.in_recovery" (inCls 19 3) ::
  cO #[sV "in_recovery" 314, sV "NewReno.in_recovery" 315, sV "/claim/cut.py" 316, Value.int 58 0, Value.int 2 0, Value.int 0 0, Value.int 0 0, Value.int 3 0, Value.ref 97, Value.bool true, Value.int 181 0, Value.ref 98, Value.none, Value.ref 99, Value.ref 100, Value.ref 101, Value.int 319 0, Value.int 58 0, sV "/claim/cut.py" 320] ::
  fobj "NewReno.in_recovery" (inCls 19 3) (sV "quic.newreno" 253) (Value.ref 102) ::
  eT ::
  eF ::
  tU #[sV "self" 325, sV "size" 326] ::
  eT ::
  pobj "NewReno.on_sent" (inCls 19 4) ::
  cO #[sV "on_sent" 322, sV "NewReno.on_sent" 323, sV "/claim/cut.py" 324, Value.int 61 0, Value.int 2 0, Value.int 0 0, Value.int 0 0, Value.int 3 0, Value.ref 104, Value.bool true, Value.int 181 0, Value.ref 105, Value.none, Value.ref 106, Value.ref 107, Value.ref 108, Value.int 327 0, Value.int 61 0, sV "/claim/cut.py" 328] ::
  fobj "NewReno.on_sent" (inCls 19 4) (sV "quic.newreno" 253) (Value.ref 109) ::
  eT ::
  eF ::
  tU #[sV "self" 333, sV "size" 334] ::
  eT ::
  pobj "NewReno.on_discarded" (inCls 19 5) ::
  cO #[sV "on_discarded" 330, sV "NewReno.on_discarded" 331, sV "/claim/cut.py" 332, Value.int 64 0, Value.int 2 0, Value.int 0 0, Value.int 0 0, Value.int 3 0, Value.ref 111, Value.bool true, Value.int 181 0, Value.ref 112, Value.none, Value.ref 113, Value.ref 114, Value.ref 115, Value.int 335 0, Value.int 64 0, sV "/claim/cut.py" 336] ::
  fobj "NewReno.on_discarded" (inCls 19 5) (sV "quic.newreno" 253) (Value.ref 116) ::
  eT ::
  eF ::
  tU #[sV "self" 341, sV "size" 342, sV "sent_at" 343, sV "is_limited" 344, sV "now" 345, sV "smoothed" 346] ::
  eT ::
  pobj "NewReno.on_acked" (inCls 19 6) ::
  cO #[sV "on_acked" 338, sV "NewReno.on_acked" 339, sV "/claim/cut.py" 340, Value.int 67 0, Value.int 6 0, Value.int 0 0, Value.int 0 0, Value.int 3 0, Value.ref 118, Value.bool true, Value.int 181 0, Value.ref 119, Value.none, Value.ref 120, Value.ref 121, Value.ref 122, Value.int 347 0, Value.int 67 0, sV "/claim/cut.py" 348] ::
  fobj "NewReno.on_acked" (inCls 19 6) (sV "quic.newreno" 253) (Value.ref 123) ::
  eT ::
  eF ::
  tU #[sV "self" 353, sV "size" 354, sV "more" 355] ::
  eT ::
  pobj "NewReno.widen" (inCls 19 7) ::
  cO #[sV "widen" 350, sV "NewReno.widen" 351, sV "/claim/cut.py" 352, Value.int 76 0, Value.int 2 0, Value.int 0 0, Value.int 0 0, Value.int 3 0, Value.ref 125, Value.bool true, Value.int 181 0, Value.ref 126, Value.none, Value.ref 127, Value.ref 128, Value.ref 129, Value.int 356 0, Value.int 76 0, sV "/claim/cut.py" 357] ::
  fobj "NewReno.widen" (inCls 19 7) (sV "quic.newreno" 253) (Value.ref 130) ::
  eT ::
  eF ::
  tU #[sV "self" 362, sV "sent_at" 363, sV "now" 364] ::
  eT ::
  pobj "NewReno.on_congestion" (inCls 19 8) ::
  cO #[sV "on_congestion" 359, sV "NewReno.on_congestion" 360, sV "/claim/cut.py" 361, Value.int 82 0, Value.int 3 0, Value.int 0 0, Value.int 0 0, Value.int 3 0, Value.ref 132, Value.bool true, Value.int 181 0, Value.ref 133, Value.none, Value.ref 134, Value.ref 135, Value.ref 136, Value.int 365 0, Value.int 82 0, sV "/claim/cut.py" 366] ::
  fobj "NewReno.on_congestion" (inCls 19 8) (sV "quic.newreno" 253) (Value.ref 137) ::
  eT ::
  eF ::
  tU #[sV "self" 371, sV "size" 372, sV "newest" 373, sV "now" 374] ::
  eT ::
  pobj "NewReno.on_lost" (inCls 19 9) ::
  cO #[sV "on_lost" 368, sV "NewReno.on_lost" 369, sV "/claim/cut.py" 370, Value.int 90 0, Value.int 4 0, Value.int 0 0, Value.int 0 0, Value.int 3 0, Value.ref 139, Value.bool true, Value.int 181 0, Value.ref 140, Value.none, Value.ref 141, Value.ref 142, Value.ref 143, Value.int 375 0, Value.int 90 0, sV "/claim/cut.py" 376] ::
  fobj "NewReno.on_lost" (inCls 19 9) (sV "quic.newreno" 253) (Value.ref 144) ::
  eT ::
  eF ::
  tU #[sV "self" 381] ::
  eT ::
  pobj "NewReno.on_persistent" (inCls 19 10) ::
  cO #[sV "on_persistent" 378, sV "NewReno.on_persistent" 379, sV "/claim/cut.py" 380, Value.int 95 0, Value.int 1 0, Value.int 0 0, Value.int 0 0, Value.int 3 0, Value.ref 146, Value.bool true, Value.int 181 0, Value.ref 147, Value.none, Value.ref 148, Value.ref 149, Value.ref 150, Value.int 382 0, Value.int 95 0, sV "/claim/cut.py" 383] ::
  fobj "NewReno.on_persistent" (inCls 19 10) (sV "quic.newreno" 253) (Value.ref 151) ::
  tU #[sV "credit" 385, sV "datagram" 386, sV "in_flight" 387, sV "recovery_at" 388, sV "threshold" 389, sV "window" 390] ::
  { cls := Value.type "dict", data := Data.dict #[ent P "__module__" 286 (sV "quic.newreno" 253), ent P "__firstlineno__" 290 (Value.int 42 289), ent P "__init__" 298 (Value.ref 82), ent P "may_send" 306 (Value.ref 89), ent P "is_slow_start" 313 (Value.ref 96), ent P "in_recovery" 321 (Value.ref 103), ent P "on_sent" 329 (Value.ref 110), ent P "on_discarded" 337 (Value.ref 117), ent P "on_acked" 349 (Value.ref 124), ent P "widen" 358 (Value.ref 131), ent P "on_congestion" 367 (Value.ref 138), ent P "on_lost" 377 (Value.ref 145), ent P "on_persistent" 384 (Value.ref 152), ent P "__static_attributes__" 391 (Value.ref 153), ent P "__dict__" 393 (Value.ref 156), ent P "__weakref__" 395 (Value.ref 157), ent P "__doc__" 396 Value.none] 4 } ::
  { cls := Value.type "type", data := Data.cls { name := Str.ofString "NewReno", bases := [Value.type "object"], mro := [Value.ref 155, Value.type "object"], ns := 154, qualname := Str.ofString "NewReno" }, slots := #[none, none, some (sV "NewReno" 279), some (sV "NewReno" 287), some (Value.builtin "object.__new__"), some (Value.bool true)] } ::
  { cls := Value.type "getset_descriptor", data := Data.fields #[sV "__dict__" 392, Value.ref 155, Value.builtin "function.__dict__", Value.builtin "function.__dict__#set"] } ::
  { cls := Value.type "getset_descriptor", data := Data.fields #[sV "__weakref__" 394, Value.ref 155, Value.builtin "ExceptionGroup.__weakref__", Value.none] } ::
  { cls := Value.type "super", data := Data.fields #[Value.ref 155, Value.ref 155, Value.ref 155] } ::
  { cls := Value.type "builtin_function_or_method", data := Data.fields #[Value.builtin "object.__init_subclass__", Value.ref 155] } ::
  tU #[sV "ack" 401, sV "padding" 402, sV "close" 403] ::
  eT ::
  eF ::
  tU #[sV "f" 408] ::
  eT ::
  pobj "is_eliciting" (inTop 22) ::
  cO #[sV "is_eliciting" 405, sV "is_eliciting" 406, sV "/claim/cut.py" 407, Value.int 99 0, Value.int 1 0, Value.int 0 0, Value.int 0 0, Value.int 3 0, Value.ref 161, Value.bool true, Value.int 181 0, Value.ref 162, Value.none, Value.ref 163, Value.ref 164, Value.ref 165, Value.int 409 0, Value.int 99 0, sV "/claim/cut.py" 410] ::
  fobj "is_eliciting" (inTop 22) (sV "quic.framerules" 399) (Value.ref 166) ::
  eT ::
  eF ::
  tU #[sV "f" 415] ::
  eT ::
  pobj "counts_in_flight" (inTop 23) ::
  cO #[sV "counts_in_flight" 412, sV "counts_in_flight" 413, sV "/claim/cut.py" 414, Value.int 101 0, Value.int 1 0, Value.int 0 0, Value.int 0 0, Value.int 3 0, Value.ref 168, Value.bool true, Value.int 181 0, Value.ref 169, Value.none, Value.ref 170, Value.ref 171, Value.ref 172, Value.int 416 0, Value.int 101 0, sV "/claim/cut.py" 417] ::
  fobj "counts_in_flight" (inTop 23) (sV "quic.framerules" 399) (Value.ref 173) ::
  eT ::
  eF ::
  pobj "any_eliciting" (inTop 24) ::
  cO #[sV "any_eliciting" 419, sV "any_eliciting" 420, sV "/claim/cut.py" 421, Value.int 103 0, Value.int 1 0, Value.int 0 0, Value.int 0 0, Value.int 3 0, Value.ref 175, Value.bool true, Value.int 181 0, Value.ref 176, Value.none, Value.none, Value.none, Value.ref 177, Value.int 422 0, Value.int 103 0, sV "/claim/cut.py" 423] ::
  fobj "any_eliciting" (inTop 24) (sV "quic.framerules" 399) (Value.ref 178) ::
  eT ::
  eF ::
  pobj "any_in_flight" (inTop 25) ::
  cO #[sV "any_in_flight" 425, sV "any_in_flight" 426, sV "/claim/cut.py" 427, Value.int 105 0, Value.int 1 0, Value.int 0 0, Value.int 0 0, Value.int 3 0, Value.ref 180, Value.bool true, Value.int 181 0, Value.ref 181, Value.none, Value.none, Value.none, Value.ref 182, Value.int 428 0, Value.int 105 0, sV "/claim/cut.py" 429] ::
  fobj "any_in_flight" (inTop 25) (sV "quic.framerules" 399) (Value.ref 183) ::
  eT ::
  eF ::
  pobj "has_number" (inTop 27) ::
  cO #[sV "has_number" 433, sV "has_number" 434, sV "/claim/cut.py" 435, Value.int 108 0, Value.int 2 0, Value.int 0 0, Value.int 0 0, Value.int 3 0, Value.ref 185, Value.bool true, Value.int 181 0, Value.ref 186, Value.none, Value.none, Value.none, Value.ref 187, Value.int 436 0, Value.int 108 0, sV "/claim/cut.py" 437] ::
  fobj "has_number" (inTop 27) (sV "quic.ranges" 431) (Value.ref 188) ::
  eT ::
  eF ::
  pobj "newly_acked" (inTop 28) ::
  cO #[sV "newly_acked" 439, sV "newly_acked" 440, sV "/claim/cut.py" 441, Value.int 110 0, Value.int 2 0, Value.int 0 0, Value.int 0 0, Value.int 3 0, Value.ref 190, Value.bool true, Value.int 181 0, Value.ref 191, Value.none, Value.none, Value.none, Value.ref 192, Value.int 442 0, Value.int 110 0, sV "/claim/cut.py" 443] ::
  fobj "newly_acked" (inTop 28) (sV "quic.ranges" 431) (Value.ref 193) ::
  eT ::
  { cls := Value.type "builtin_function_or_method", data := Data.fields #[Value.builtin "type.__prepare__", Value.type "type"] } ::
  { cls := Value.type "dict", data := Data.dict #[ent P "__module__" 454 (sV "quic.spaces" 445), ent P "__qualname__" 456 (sV "SentPacket" 455), ent P "__firstlineno__" 458 (Value.int 113 457), ent P "__init__" 469 (Value.ref 208), ent P "__static_attributes__" 476 (Value.ref 209)] 5 } ::
  eT ::
  { cls := Value.none, data := Data.fields #[Value.int 115 0, Value.int 4 0, Value.ref 207] } ::
  cO #[sV "SentPacket" 449, sV "SentPacket" 450, sV "/claim/cut.py" 451, Value.int 113 0, Value.int 0 0, Value.int 0 0, Value.int 0 0, Value.int 0 0, Value.ref 198, Value.bool false, Value.int 181 0, Value.ref 199, Value.none, Value.none, Value.none, Value.none, Value.int 452 0, Value.int 113 0, sV "/claim/cut.py" 453] ::
  { cls := Value.type "frame", slots := #[some (Value.ref 200), some (Value.ref 3), some (Value.ref 197), none, some (sV "quic.spaces" 445), none, some (Value.ref 0)] } ::
  eT ::
  eF ::
  tU #[sV "self" 462, sV "number" 463, sV "time" 464, sV "size" 465, sV "frames" 466] ::
  eT ::
  pobj "SentPacket.__init__" (inCls 30 0) ::
  cO #[sV "__init__" 459, sV "SentPacket.__init__" 460, sV "/claim/cut.py" 461, Value.int 115 0, Value.int 5 0, Value.int 0 0, Value.int 0 0, Value.int 3 0, Value.ref 202, Value.bool true, Value.int 181 0, Value.ref 203, Value.none, Value.ref 204, Value.ref 205, Value.ref 206, Value.int 467 0, Value.int 115 0, sV "/claim/cut.py" 468] ::
  fobj "SentPacket.__init__" (inCls 30 0) (sV "quic.spaces" 445) (Value.ref 207) ::
  tU #[sV "frames" 470, sV "in_flight" 471, sV "is_eliciting" 472, sV "number" 473, sV "size" 474, sV "time" 475] ::
  { cls := Value.type "dict", data := Data.dict #[ent P "__module__" 454 (sV "quic.spaces" 445), ent P "__firstlineno__" 458 (Value.int 113 457), ent P "__init__" 469 (Value.ref 208), ent P "__static_attributes__" 476 (Value.ref 209), ent P "__dict__" 478 (Value.ref 212), ent P "__weakref__" 480 (Value.ref 213), ent P "__doc__" 481 Value.none] 4 } ::
  { cls := Value.type "type", data := Data.cls { name := Str.ofString "SentPacket", bases := [Value.type "object"], mro := [Value.ref 211, Value.type "object"], ns := 210, qualname := Str.ofString "SentPacket" }, slots := #[none, none, some (sV "SentPacket" 447), some (sV "SentPacket" 455), some (Value.builtin "object.__new__"), some (Value.bool true)] } ::
  { cls := Value.type "getset_descriptor", data := Data.fields #[sV "__dict__" 477, Value.ref 211, Value.builtin "function.__dict__", Value.builtin "function.__dict__#set"] } ::
  { cls := Value.type "getset_descriptor", data := Data.fields #[sV "__weakref__" 479, Value.ref 211, Value.builtin "ExceptionGroup.__weakref__", Value.none] } ::
  { cls := Value.type "super", data := Data.fields #[Value.ref 211, Value.ref 211, Value.ref 211] } ::
  { cls := Value.type "builtin_function_or_method", data := Data.fields #[Value.builtin "object.__init_subclass__", Value.ref 211] } :: []
noncomputable def obB (P : Params) : List Obj :=
  eT ::
  { cls := Value.type "builtin_function_or_method", data := Data.fields #[Value.builtin "type.__prepare__", Value.type "type"] } ::
  { cls := Value.type "dict", data := Data.dict #[ent P "__module__" 491 (sV "quic.spaces" 445), ent P "__qualname__" 493 (sV "Space" 492), ent P "__firstlineno__" 495 (Value.int 122 494), ent P "__init__" 503 (Value.ref 229), ent P "is_known" 511 (Value.ref 236), ent P "on_received" 522 (Value.ref 243), ent P "ack_frame" 531 (Value.ref 250), ent P "on_ack_sent" 538 (Value.ref 257), ent P "owes_ack" 545 (Value.ref 264), ent P "take_number" 552 (Value.ref 271), ent P "on_sent" 564 (Value.ref 278), ent P "take" 570 (Value.ref 283), ent P "acked_by" 578 (Value.ref 290), ent P "note_acked" 586 (Value.ref 297), ent P "note_ranges" 594 (Value.ref 304), ent P "is_beyond" 602 (Value.ref 311), ent P "note_largest" 610 (Value.ref 318), ent P "eliciting_left" 617 (Value.ref 325), ent P "bare_numbers" 624 (Value.ref 332), ent P "octets_out" 630 (Value.ref 337), ent P "sent_rows" 640 (Value.ref 344), ent P "forget" 647 (Value.ref 351), ent P "__static_attributes__" 665 (Value.ref 352)] 23 } ::
  eT ::
  { cls := Value.none, data := Data.fields #[Value.int 124 0, Value.int 4 0, Value.ref 228, Value.int 143 0, Value.int 4 0, Value.ref 235, Value.int 146 0, Value.int 4 0, Value.ref 242, Value.int 149 0, Value.int 4 0, Value.ref 249, Value.int 152 0, Value.int 4 0, Value.ref 256, Value.int 155 0, Value.int 4 0, Value.ref 263, Value.int 158 0, Value.int 4 0, Value.ref 270, Value.int 162 0, Value.int 4 0, Value.ref 277, Value.int 169 0, Value.int 4 0, Value.ref 282, Value.int 173 0, Value.int 4 0, Value.ref 289, Value.int 176 0, Value.int 4 0, Value.ref 296, Value.int 179 0, Value.int 4 0, Value.ref 303, Value.int 182 0, Value.int 4 0, Value.ref 310, Value.int 185 0, Value.int 4 0, Value.ref 317, Value.int 189 0, Value.int 4 0, Value.ref 324, Value.int 192 0, Value.int 4 0, Value.ref 331, Value.int 195 0, Value.int 4 0, Value.ref 336, Value.int 198 0, Value.int 4 0, Value.ref 343, Value.int 205 0, Value.int 4 0, Value.ref 350] } ::
  cO #[sV "Space" 486, sV "Space" 487, sV "/claim/cut.py" 488, Value.int 122 0, Value.int 0 0, Value.int 0 0, Value.int 0 0, Value.int 0 0, Value.ref 219, Value.bool false, Value.int 181 0, Value.ref 220, Value.none, Value.none, Value.none, Value.none, Value.int 489 0, Value.int 122 0, sV "/claim/cut.py" 490] ::
  { cls := Value.type "frame", slots := #[some (Value.ref 221), some (Value.ref 3), some (Value.ref 218), none, some (sV "quic.spaces" 445), none, some (Value.ref 0)] } ::
  eT ::
  eF ::
  tU #[sV "self" 499, sV "name" 500] ::
  eT ::
  pobj "Space.__init__" (inCls 31 0) ::
  cO #[sV "__init__" 496, sV "Space.__init__" 497, sV "/claim/cut.py" 498, Value.int 124 0, Value.int 2 0, Value.int 0 0, Value.int 0 0, Value.int 3 0, Value.ref 223, Value.bool true, Value.int 181 0, Value.ref 224, Value.none, Value.ref 225, Value.ref 226, Value.ref 227, Value.int 501 0, Value.int 124 0, sV "/claim/cut.py" 502] ::
  fobj "Space.__init__" (inCls 31 0) (sV "quic.spaces" 445) (Value.ref 228) ::
  eT ::
  eF ::
  tU #[sV "self" 507, sV "number" 508] ::
  eT ::
  pobj "Space.is_known" (inCls 31 1) ::
  cO #[sV "is_known" 504, sV "Space.is_known" 505, sV "/claim/cut.py" 506, Value.int 143 0, Value.int 2 0, Value.int 0 0, Value.int 0 0, Value.int 3 0, Value.ref 230, Value.bool true, Value.int 181 0, Value.ref 231, Value.none, Value.ref 232, Value.ref 233, Value.ref 234, Value.int 509 0, Value.int 143 0, sV "/claim/cut.py" 510] ::
  fobj "Space.is_known" (inCls 31 1) (sV "quic.spaces" 445) (Value.ref 235) ::
  eT ::
  eF ::
  tU #[sV "self" 515, sV "number" 516, sV "now" 517, sV "has_eliciting" 518, sV "mark" 519] ::
  eT ::
  pobj "Space.on_received" (inCls 31 2) ::
  cO #[sV "on_received" 512, sV "Space.on_received" 513, sV "/claim/cut.py" 514, Value.int 146 0, Value.int 5 0, Value.int 0 0, Value.int 0 0, Value.int 3 0, Value.ref 237, Value.bool true, Value.int 181 0, Value.ref 238, Value.none, Value.ref 239, Value.ref 240, Value.ref 241, Value.int 520 0, Value.int 146 0, sV "/claim/cut.py" 521] ::
  fobj "Space.on_received" (inCls 31 2) (sV "quic.spaces" 445) (Value.ref 242) ::
  eT ::
  eF ::
  tU #[sV "self" 526, sV "now" 527, sV "exponent" 528] ::
  eT ::
  pobj "Space.ack_frame" (inCls 31 3) ::
  cO #[sV "ack_frame" 523, sV "Space.ack_frame" 524, sV "/claim/cut.py" 525, Value.int 149 0, Value.int 3 0, Value.int 0 0, Value.int 0 0, Value.int 3 0, Value.ref 244, Value.bool true, Value.int 181 0, Value.ref 245, Value.none, Value.ref 246, Value.ref 247, Value.ref 248, Value.int 529 0, Value.int 149 0, sV "/claim/cut.py" 530] ::
  fobj "Space.ack_frame" (inCls 31 3) (sV "quic.spaces" 445) (Value.ref 249) ::
  eT ::
  eF ::
  tU #[sV "self" 535] ::
  eT ::
  pobj "Space.on_ack_sent" (inCls 31 4) ::
  cO #[sV "on_ack_sent" 532, sV "Space.on_ack_sent" 533, sV "/claim/cut.py" 534, Value.int 152 0, Value.int 1 0, Value.int 0 0, Value.int 0 0, Value.int 3 0, Value.ref 251, Value.bool true, Value.int 181 0, Value.ref 252, Value.none, Value.ref 253, Value.ref 254, Value.ref 255, Value.int 536 0, Value.int 152 0, sV "/claim/cut.py" 537] ::
  fobj "Space.on_ack_sent" (inCls 31 4) (sV "quic.spaces" 445) (Value.ref 256) ::
  eT ::
  eF ::
  tU #[sV "self" 542] ::
  eT ::
  pobj "Space.owes_ack" (inCls 31 5) ::
  cO #[sV "owes_ack" 539, sV "Space.owes_ack" 540, sV "/claim/cut.py" 541, Value.int 155 0, Value.int 1 0, Value.int 0 0, Value.int 0 0, Value.int 3 0, Value.ref 258, Value.bool true, Value.int 181 0, Value.ref 259, Value.none, Value.ref 260, Value.ref 261, Value.ref 262, Value.int 543 0, Value.int 155 0, sV "/claim/cut.py" 544] ::
  fobj "Space.owes_ack" (inCls 31 5) (sV "quic.spaces" 445) (Value.ref 263) ::
  eT ::
  eF ::
  tU #[sV "self" 549] ::
  eT ::
  pobj "Space.take_number" (inCls 31 6) ::
  cO #[sV "take_number" 546, sV "Space.take_number" 547, sV "/claim/cut.py" 548, Value.int 158 0, Value.int 1 0, Value.int 0 0, Value.int 0 0, Value.int 3 0, Value.ref 265, Value.bool true, Value.int 181 0, Value.ref 266, Value.none, Value.ref 267, Value.ref 268, Value.ref 269, Value.int 550 0, Value.int 158 0, sV "/claim/cut.py" 551] ::
  fobj "Space.take_number" (inCls 31 6) (sV "quic.spaces" 445) (Value.ref 270) ::
  eT ::
  eF ::
  tU #[sV "self" 556, sV "number" 557, sV "now" 558, sV "size" 559, sV "frames" 560, sV "packet" 561] ::
  eT ::
  pobj "Space.on_sent" (inCls 31 7) ::
  cO #[sV "on_sent" 553, sV "Space.on_sent" 554, sV "/claim/cut.py" 555, Value.int 162 0, Value.int 5 0, Value.int 0 0, Value.int 0 0, Value.int 3 0, Value.ref 272, Value.bool true, Value.int 181 0, Value.ref 273, Value.none, Value.ref 274, Value.ref 275, Value.ref 276, Value.int 562 0, Value.int 162 0, sV "/claim/cut.py" 563] ::
  fobj "Space.on_sent" (inCls 31 7) (sV "quic.spaces" 445) (Value.ref 277) ::
  eT ::
  eF ::
  pobj "Space.take" (inCls 31 8) ::
  cO #[sV "take" 565, sV "Space.take" 566, sV "/claim/cut.py" 567, Value.int 169 0, Value.int 2 0, Value.int 0 0, Value.int 0 0, Value.int 3 0, Value.ref 279, Value.bool true, Value.int 181 0, Value.ref 280, Value.none, Value.none, Value.none, Value.ref 281, Value.int 568 0, Value.int 169 0, sV "/claim/cut.py" 569] ::
  fobj "Space.take" (inCls 31 8) (sV "quic.spaces" 445) (Value.ref 282) ::
  eT ::
  eF ::
  tU #[sV "self" 574, sV "ranges" 575] ::
  eT ::
  pobj "Space.acked_by" (inCls 31 9) ::
  cO #[sV "acked_by" 571, sV "Space.acked_by" 572, sV "/claim/cut.py" 573, Value.int 173 0, Value.int 2 0, Value.int 0 0, Value.int 0 0, Value.int 3 0, Value.ref 284, Value.bool true, Value.int 181 0, Value.ref 285, Value.none, Value.ref 286, Value.ref 287, Value.ref 288, Value.int 576 0, Value.int 173 0, sV "/claim/cut.py" 577] ::
  fobj "Space.acked_by" (inCls 31 9) (sV "quic.spaces" 445) (Value.ref 289) ::
  eT ::
  eF ::
  tU #[sV "self" 582, sV "numbers" 583] ::
  eT ::
  pobj "Space.note_acked" (inCls 31 10) ::
  cO #[sV "note_acked" 579, sV "Space.note_acked" 580, sV "/claim/cut.py" 581, Value.int 176 0, Value.int 2 0, Value.int 0 0, Value.int 0 0, Value.int 3 0, Value.ref 291, Value.bool true, Value.int 181 0, Value.ref 292, Value.none, Value.ref 293, Value.ref 294, Value.ref 295, Value.int 584 0, Value.int 176 0, sV "/claim/cut.py" 585] ::
  fobj "Space.note_acked" (inCls 31 10) (sV "quic.spaces" 445) (Value.ref 296) ::
  eT ::
  eF ::
  tU #[sV "self" 590, sV "ranges" 591] ::
  eT ::
  pobj "Space.note_ranges" (inCls 31 11) ::
  cO #[sV "note_ranges" 587, sV "Space.note_ranges" 588, sV "/claim/cut.py" 589, Value.int 179 0, Value.int 2 0, Value.int 0 0, Value.int 0 0, Value.int 3 0, Value.ref 298, Value.bool true, Value.int 181 0, Value.ref 299, Value.none, Value.ref 300, Value.ref 301, Value.ref 302, Value.int 592 0, Value.int 179 0, sV "/claim/cut.py" 593] ::
  fobj "Space.note_ranges" (inCls 31 11) (sV "quic.spaces" 445) (Value.ref 303) ::
  eT ::
  eF ::
  tU #[sV "self" 598, sV "ranges" 599] ::
  eT ::
  pobj "Space.is_beyond" (inCls 31 12) ::
  cO #[sV "is_beyond" 595, sV "Space.is_beyond" 596, sV "/claim/cut.py" 597, Value.int 182 0, Value.int 2 0, Value.int 0 0, Value.int 0 0, Value.int 3 0, Value.ref 305, Value.bool true, Value.int 181 0, Value.ref 306, Value.none, Value.ref 307, Value.ref 308, Value.ref 309, Value.int 600 0, Value.int 182 0, sV "/claim/cut.py" 601] ::
  fobj "Space.is_beyond" (inCls 31 12) (sV "quic.spaces" 445) (Value.ref 310) ::
  eT ::
  eF ::
  tU #[sV "self" 606, sV "number" 607] ::
  eT ::
  pobj "Space.note_largest" (inCls 31 13) ::
  cO #[sV "note_largest" 603, sV "Space.note_largest" 604, sV "/claim/cut.py" 605, Value.int 185 0, Value.int 2 0, Value.int 0 0, Value.int 0 0, Value.int 3 0, Value.ref 312, Value.bool true, Value.int 181 0, Value.ref 313, Value.none, Value.ref 314, Value.ref 315, Value.ref 316, Value.int 608 0, Value.int 185 0, sV "/claim/cut.py" 609] ::
  fobj "Space.note_largest" (inCls 31 13) (sV "quic.spaces" 445) (Value.ref 317) ::
  eT ::
  eF ::
  tU #[sV "self" 614] ::
  eT ::
  pobj "Space.eliciting_left" (inCls 31 14) ::
  cO #[sV "eliciting_left" 611, sV "Space.eliciting_left" 612, sV "/claim/cut.py" 613, Value.int 189 0, Value.int 1 0, Value.int 0 0, Value.int 0 0, Value.int 3 0, Value.ref 319, Value.bool true, Value.int 181 0, Value.ref 320, Value.none, Value.ref 321, Value.ref 322, Value.ref 323, Value.int 615 0, Value.int 189 0, sV "/claim/cut.py" 616] ::
  fobj "Space.eliciting_left" (inCls 31 14) (sV "quic.spaces" 445) (Value.ref 324) ::
  eT ::
  eF ::
  tU #[sV "self" 621] ::
  eT ::
  pobj "Space.bare_numbers" (inCls 31 15) ::
  cO #[sV "bare_numbers" 618, sV "Space.bare_numbers" 619, sV "/claim/cut.py" 620, Value.int 192 0, Value.int 1 0, Value.int 0 0, Value.int 0 0, Value.int 3 0, Value.ref 326, Value.bool true, Value.int 181 0, Value.ref 327, Value.none, Value.ref 328, Value.ref 329, Value.ref 330, Value.int 622 0, Value.int 192 0, sV "/claim/cut.py" 623] ::
  fobj "Space.bare_numbers" (inCls 31 15) (sV "quic.spaces" 445) (Value.ref 331) ::
  eT ::
  eF ::
  pobj "Space.octets_out" (inCls 31 16) ::
  cO #[sV "octets_out" 625, sV "Space.octets_out" 626, sV "/claim/cut.py" 627, Value.int 195 0, Value.int 1 0, Value.int 0 0, Value.int 0 0, Value.int 3 0, Value.ref 333, Value.bool true, Value.int 181 0, Value.ref 334, Value.none, Value.none, Value.none, Value.ref 335, Value.int 628 0, Value.int 195 0, sV "/claim/cut.py" 629] ::
  fobj "Space.octets_out" (inCls 31 16) (sV "quic.spaces" 445) (Value.ref 336) ::
  eT ::
  eF ::
  tU #[sV "self" 634, sV "found" 635, sV "number" 636, sV "packet" 637] ::
  eT ::
  pobj "Space.sent_rows" (inCls 31 17) ::
  cO #[sV "sent_rows" 631, sV "Space.sent_rows" 632, sV "/claim/cut.py" 633, Value.int 198 0, Value.int 1 0, Value.int 0 0, Value.int 0 0, Value.int 3 0, Value.ref 338, Value.bool true, Value.int 181 0, Value.ref 339, Value.none, Value.ref 340, Value.ref 341, Value.ref 342, Value.int 638 0, Value.int 198 0, sV "/claim/cut.py" 639] ::
  fobj "Space.sent_rows" (inCls 31 17) (sV "quic.spaces" 445) (Value.ref 343) ::
  eT ::
  eF ::
  tU #[sV "self" 644] ::
  eT ::
  pobj "Space.forget" (inCls 31 18) ::
  cO #[sV "forget" 641, sV "Space.forget" 642, sV "/claim/cut.py" 643, Value.int 205 0, Value.int 1 0, Value.int 0 0, Value.int 0 0, Value.int 3 0, Value.ref 345, Value.bool true, Value.int 181 0, Value.ref 346, Value.none, Value.ref 347, Value.ref 348, Value.ref 349, Value.int 645 0, Value.int 205 0, sV "/claim/cut.py" 646] ::
  fobj "Space.forget" (inCls 31 18) (sV "quic.spaces" 445) (Value.ref 350) ::
  tU #[sV "acked" 648, sV "ecn" 649, sV "first_unacked" 650, sV "floor" 651, sV "has_new" 652, sV "is_gone" 653, sV "largest_acked" 654, sV "largest_seen" 655, sV "largest_time" 656, sV "last_eliciting_time" 657, sV "loss_time" 658, sV "name" 659, sV "next_number" 660, sV "received" 661, sV "sent" 662, sV "unacked" 663, sV "wants_now" 664] ::
  { cls := Value.type "dict", data := Data.dict #[ent P "__module__" 491 (sV "quic.spaces" 445), ent P "__firstlineno__" 495 (Value.int 122 494), ent P "__init__" 503 (Value.ref 229), ent P "is_known" 511 (Value.ref 236), ent P "on_received" 522 (Value.ref 243), ent P "ack_frame" 531 (Value.ref 250), ent P "on_ack_sent" 538 (Value.ref 257), ent P "owes_ack" 545 (Value.ref 264), ent P "take_number" 552 (Value.ref 271), ent P "on_sent" 564 (Value.ref 278), ent P "take" 570 (Value.ref 283), ent P "acked_by" 578 (Value.ref 290), ent P "note_acked" 586 (Value.ref 297), ent P "note_ranges" 594 (Value.ref 304), ent P "is_beyond" 602 (Value.ref 311), ent P "note_largest" 610 (Value.ref 318), ent P "eliciting_left" 617 (Value.ref 325), ent P "bare_numbers" 624 (Value.ref 332), ent P "octets_out" 630 (Value.ref 337), ent P "sent_rows" 640 (Value.ref 344), ent P "forget" 647 (Value.ref 351), ent P "__static_attributes__" 665 (Value.ref 352), ent P "__dict__" 667 (Value.ref 355), ent P "__weakref__" 669 (Value.ref 356), ent P "__doc__" 670 Value.none] 4 } ::
  { cls := Value.type "type", data := Data.cls { name := Str.ofString "Space", bases := [Value.type "object"], mro := [Value.ref 354, Value.type "object"], ns := 353, qualname := Str.ofString "Space" }, slots := #[none, none, some (sV "Space" 484), some (sV "Space" 492), some (Value.builtin "object.__new__"), some (Value.bool true)] } ::
  { cls := Value.type "getset_descriptor", data := Data.fields #[sV "__dict__" 666, Value.ref 354, Value.builtin "function.__dict__", Value.builtin "function.__dict__#set"] } ::
  { cls := Value.type "getset_descriptor", data := Data.fields #[sV "__weakref__" 668, Value.ref 354, Value.builtin "ExceptionGroup.__weakref__", Value.none] } ::
  { cls := Value.type "super", data := Data.fields #[Value.ref 354, Value.ref 354, Value.ref 354] } ::
  { cls := Value.type "builtin_function_or_method", data := Data.fields #[Value.builtin "object.__init_subclass__", Value.ref 354] } :: []
noncomputable def ob3_M30 (P : Params) : Obj := { cls := Value.type "dict", data := Data.dict #[ent P "__name__" 165 (sV "quic.spaces" 445), ent P "__doc__" 166 Value.none, ent P "__package__" 167 Value.none, ent P "__loader__" 168 (Value.builtin "__main__.__loader__#opaque"), ent P "__spec__" 169 Value.none, ent P "__annotations__" 170 (Value.ref 6), ent P "__builtins__" 171 (Value.ref 4), ent P "__file__" 173 (sV "/claim/cut.py" 172), ent P "__cached__" 174 Value.none, ent P "_wall" 193 (Value.ref 21), ent P "GRANULARITY" 195 (Value.int 1000 194), ent P "PACKET_THRESHOLD" 199 (Value.int 3 198), ent P "TIME_TOP" 201 (Value.int 9 200), ent P "TIME_BOTTOM" 203 (Value.int 8 202), ent P "loss_delay" 211 (Value.ref 28), ent P "is_lost" 222 (Value.ref 35), ent P "detect_lost" 236 (Value.ref 42), ent P "newest_time" 246 (Value.ref 49), ent P "flight_size" 252 (Value.ref 54), ent P "INITIAL_PACKETS" 256 (Value.int 10 255), ent P "INITIAL_OCTETS" 258 (Value.int 14720 257), ent P "LEAST_PACKETS" 260 (Value.int 2 259), ent P "LOSS_TOP" 262 (Value.int 1 261), ent P "LOSS_BOTTOM" 264 (Value.int 2 263), ent P "initial_window" 271 (Value.ref 61), ent P "least_window" 278 (Value.ref 68), ent P "NewReno" 398 (Value.ref 155), ent P "NOT_ELICITING" 404 (Value.ref 160), ent P "is_eliciting" 411 (Value.ref 167), ent P "counts_in_flight" 418 (Value.ref 174), ent P "any_eliciting" 424 (Value.ref 179), ent P "any_in_flight" 430 (Value.ref 184), ent P "has_number" 438 (Value.ref 189), ent P "newly_acked" 444 (Value.ref 194), ent P "SentPacket" 483 (Value.ref 211)] 35 }
noncomputable def ob12_M30 (P : Params) : Obj := { cls := Value.none, data := Data.fields #[Value.int 1 0, Value.int 0 0, Value.ref 20, Value.int 9 0, Value.int 0 0, Value.ref 27, Value.int 11 0, Value.int 0 0, Value.ref 34, Value.int 13 0, Value.int 0 0, Value.ref 41, Value.int 24 0, Value.int 0 0, Value.ref 48, Value.int 30 0, Value.int 0 0, Value.ref 53, Value.int 38 0, Value.int 0 0, Value.ref 60, Value.int 40 0, Value.int 0 0, Value.ref 67, Value.int 42 0, Value.int 0 0, Value.ref 74, Value.int 99 0, Value.int 0 0, Value.ref 166, Value.int 101 0, Value.int 0 0, Value.ref 173, Value.int 103 0, Value.int 0 0, Value.ref 178, Value.int 105 0, Value.int 0 0, Value.ref 183, Value.int 108 0, Value.int 0 0, Value.ref 188, Value.int 110 0, Value.int 0 0, Value.ref 193, Value.int 113 0, Value.int 0 0, Value.ref 200] }
noncomputable def ob3_M31 (P : Params) : Obj := { cls := Value.type "dict", data := Data.dict #[ent P "__name__" 165 (sV "quic.spaces" 445), ent P "__doc__" 166 Value.none, ent P "__package__" 167 Value.none, ent P "__loader__" 168 (Value.builtin "__main__.__loader__#opaque"), ent P "__spec__" 169 Value.none, ent P "__annotations__" 170 (Value.ref 6), ent P "__builtins__" 171 (Value.ref 4), ent P "__file__" 173 (sV "/claim/cut.py" 172), ent P "__cached__" 174 Value.none, ent P "_wall" 193 (Value.ref 21), ent P "GRANULARITY" 195 (Value.int 1000 194), ent P "PACKET_THRESHOLD" 199 (Value.int 3 198), ent P "TIME_TOP" 201 (Value.int 9 200), ent P "TIME_BOTTOM" 203 (Value.int 8 202), ent P "loss_delay" 211 (Value.ref 28), ent P "is_lost" 222 (Value.ref 35), ent P "detect_lost" 236 (Value.ref 42), ent P "newest_time" 246 (Value.ref 49), ent P "flight_size" 252 (Value.ref 54), ent P "INITIAL_PACKETS" 256 (Value.int 10 255), ent P "INITIAL_OCTETS" 258 (Value.int 14720 257), ent P "LEAST_PACKETS" 260 (Value.int 2 259), ent P "LOSS_TOP" 262 (Value.int 1 261), ent P "LOSS_BOTTOM" 264 (Value.int 2 263), ent P "initial_window" 271 (Value.ref 61), ent P "least_window" 278 (Value.ref 68), ent P "NewReno" 398 (Value.ref 155), ent P "NOT_ELICITING" 404 (Value.ref 160), ent P "is_eliciting" 411 (Value.ref 167), ent P "counts_in_flight" 418 (Value.ref 174), ent P "any_eliciting" 424 (Value.ref 179), ent P "any_in_flight" 430 (Value.ref 184), ent P "has_number" 438 (Value.ref 189), ent P "newly_acked" 444 (Value.ref 194), ent P "SentPacket" 483 (Value.ref 211), ent P "Space" 672 (Value.ref 354)] 36 }
noncomputable def ob12_M31 (P : Params) : Obj := { cls := Value.none, data := Data.fields #[Value.int 1 0, Value.int 0 0, Value.ref 20, Value.int 9 0, Value.int 0 0, Value.ref 27, Value.int 11 0, Value.int 0 0, Value.ref 34, Value.int 13 0, Value.int 0 0, Value.ref 41, Value.int 24 0, Value.int 0 0, Value.ref 48, Value.int 30 0, Value.int 0 0, Value.ref 53, Value.int 38 0, Value.int 0 0, Value.ref 60, Value.int 40 0, Value.int 0 0, Value.ref 67, Value.int 42 0, Value.int 0 0, Value.ref 74, Value.int 99 0, Value.int 0 0, Value.ref 166, Value.int 101 0, Value.int 0 0, Value.ref 173, Value.int 103 0, Value.int 0 0, Value.ref 178, Value.int 105 0, Value.int 0 0, Value.ref 183, Value.int 108 0, Value.int 0 0, Value.ref 188, Value.int 110 0, Value.int 0 0, Value.ref 193, Value.int 113 0, Value.int 0 0, Value.ref 200, Value.int 122 0, Value.int 0 0, Value.ref 221] }
noncomputable def obBoot (P : Params) : List Obj := (boot_heap P).objs.toList
noncomputable def lsSA (P : Params) : List Obj := obBoot P ++ (eT :: eF :: ob13)
noncomputable def ls30 (P : Params) : List Obj := (obBoot P).set 3 (ob3_M30 P) ++ (eT :: ob12_M30 P :: (ob13 ++ obA P))
noncomputable def ls31 (P : Params) : List Obj := (obBoot P).set 3 (ob3_M31 P) ++ (eT :: ob12_M31 P :: (ob13 ++ (obA P ++ obB P)))
noncomputable def stSA (P : Params) (os : OsState) : SharedT := ⟨toTree 0 .nil (lsSA P), 15, {}, Array.mk [], {}, 187, os⟩
noncomputable def st30 (P : Params) (os : OsState) : SharedT := ⟨toTree 0 .nil (ls30 P), 216, {}, Array.mk [], {}, 484, os⟩
noncomputable def st31 (P : Params) (os : OsState) : SharedT := ⟨toTree 0 .nil (ls31 P), 359, {}, Array.mk [], {}, 673, os⟩
def p00 : Pos := { line := 0, col := 0, endLine := 0, endCol := 0 }
def p30 : Pos := { line := 113, col := 0, endLine := 121, endCol := 46 }
def p31 : Pos := { line := 122, col := 0, endLine := 206, endCol := 17 }
noncomputable def envM : Env := { scope := PR.main.scope, locals := mainNs, globals := mainNs, cells := [], code := .ref 13, frame := some 14 }
noncomputable def bM : List Stmt := behindTheImports PR
noncomputable def cM : Code := .body bM envM
set_option maxRecDepth 1000000 in
theorem mid_pre : ∀ w : World, (fun os : OsState => topGo treeTable PR w 11 (some (.ref 6)) 12 ⟨boot_heap w.params, Array.mk [], boot_drawn, boot_toks, os⟩ (topStub PR)) = fun os => some ((stSA w.params os).abs, ⟨denote treeTable cM, cM, p00, [topFrame p00]⟩) := by intro w; kernel_rfl
set_option maxRecDepth 1000000 in
theorem mid_block : ∀ w : World, (fun os : OsState => segRun treeTable PR w 11 (some (.ref 6)) 1 1 (stSA w.params os).abs (blockOf bM envM cM p00 [topFrame p00])) = fun os => some (.next, (stSA w.params os).abs, cM, p00) := by intro w; kernel_rfl
set_option maxRecDepth 1000000 in
theorem mid_A : ∀ w : World, (fun os : OsState => segRunT treeTable PR w 11 (some (.ref 6)) 1 1500 (stSA w.params os) (piecesOf (bM.take 31) envM cM p00 [topFrame p00])) = fun os => some (.next, st30 w.params os, cM, p30) := by intro w; kernel_rfl
set_option maxRecDepth 1000000 in
theorem mid_B : ∀ w : World, (fun os : OsState => segRunT treeTable PR w 11 (some (.ref 6)) 1 1000 (st30 w.params os) (piecesOf ((bM.drop 31).take 1) envM cM p30 [topFrame p00])) = fun os => some (.next, st31 w.params os, cM, p31) := by intro w; kernel_rfl
set_option maxRecDepth 1000000 in
theorem mid_C : ∀ w : World, (fun os : OsState => (topRunT treeTable PR w 11 (some (.ref 6)) 2209 (st31 w.params os) (restOf ((bM.drop 31).drop 1) envM cM p31 [topFrame p00])).map fun s =>
      (staticsOk (importedModules PR.main.body) (boot_heap w.params) s.abs.heap && namesBound PR s.abs.heap && gensDone s.abs && laidKept (boot_heap w.params) s.abs.heap,
        openSeen hd.view_39 [] (importedModules PR.main.body) (fun s => xlAt hd.view_39 [] s && recOk PySem.Challenge.rw_sj0119_01.row.records s) true s.abs, Hook.obs HK s.abs)) = fun _ => some (true, openGood hd.view_39 [], Hook.val HK w) := by intro w; kernel_rfl
end tp
theorem left_head : LeftO PR hd.view_39 [] (fun s => xlAt hd.view_39 [] s && recOk PySem.Challenge.rw_sj0119_01.row.records s) (Hook.obs HK) (Hook.val HK) 4722 :=
  left_of_run boot_plain' (by decide) boot_fence boot_size (fun w os => by
    obtain ⟨s, hs, hl⟩ := Option.map_eq_some_iff.mp (congrFun (tp.mid_C w) os)
    refine ⟨s, ?_, hl⟩
    have hC := topRun_of hs
    have hB := piece_app (segRun_of (congrFun (tp.mid_B w) os)) hC
    rw [List.take_append_drop] at hB
    have hA := piece_app (segRun_of (congrFun (tp.mid_A w) os)) hB
    rw [List.take_append_drop] at hA
    have hb := piece_block (congrFun (tp.mid_block w) os) hA
    exact go_top (congrFun (tp.mid_pre w) os) hb)
end Mine
open PySem PySem.W PyProof.Rows PySem.Calls
set_option Elab.async false
set_option maxRecDepth 100000
namespace Mine
section
abbrev PRG : Program := PySem.Challenge.rw_sj0119_01.row.prog
/-- a mark at which the walk stops -/
def Stop (P : Prop) : Prop := P
theorem stop_in {P : Prop} (h : Stop P) : P := h
theorem stop_out {P : Prop} (h : P) : Stop P := h
/-- room around a call: no handled exception, depth and units with n calls to come -/
structure Rm (A : Around) (n : Nat) : Prop where
  handled : A.handled = none
  depth : A.depth + n < 900
  units : A.units + 20 * n < 9000
theorem Rm.deeper {A : Around} {n : Nat} (r : Rm A (n + 1)) (env : Env) : Rm (A.deeper env) n := by
  refine ⟨r.handled, ?_, ?_⟩
  · have := r.depth; show A.depth + 1 + n < 900; omega
  · have := r.units; show A.units + 3 + 20 * n < 9000; omega
theorem Rm.room {A : Around} {n : Nat} (r : Rm A n) : A.depth < recursionLimit := by
  have := r.depth; show A.depth < 1000; omega
theorem Rm.line {A : Around} {n : Nat} (r : Rm A n) : A.units < cLine := by
  have := r.units; show A.units < 9900; omega
theorem Rm.less {A : Around} {n m : Nat} (r : Rm A n) (h : m ≤ n) : Rm A m := by
  refine ⟨r.handled, ?_, ?_⟩
  · have := r.depth; omega
  · have := r.units; omega
theorem Rm.in1 {A : Around} {n : Nat} (r : Rm A (n + 1)) : Rm A.in1 n := by
  refine ⟨r.handled, ?_, ?_⟩
  · have := r.depth; show A.depth + n < 900; omega
  · have := r.units; show A.units + 1 + 20 * n < 9000; omega
theorem Rm.norm {A : Around} {n : Nat} (r : Rm A n) : ∃ d f g u, A = ⟨none, d, f, g, u⟩ := by
  obtain ⟨a, d, f, g, u⟩ := A
  obtain ⟨h, _, _⟩ := r
  cases h
  exact ⟨d, f, g, u, rfl⟩
structure Led (b h : Heap) (S : List (Addr × Obj)) : Prop where
  sub : b.StaysIn h
  mem : ∀ p ∈ S, h.get? p.1 = some p.2 ∧ b.get? p.1 = none
theorem Led.refl (h : Heap) : Led h h [] := ⟨fun _ _ e => e, fun _ hp => nomatch hp⟩
structure Cx (w : World) (mean : ExcName → Option Value) (mg mb : Str → Option Value) (b : Heap) : Prop where
  X : (hd.heap_39 w.params).In b
  T : Top hd.view_39 (looseW hd.view_39 []) mean mg mb b
theorem Cx.keeps {w : World} {mean : ExcName → Option Value} {mg mb : Str → Option Value} {b b' : Heap} (C : Cx w mean mg mb b) (k : b.StaysIn b') : Cx w mean mg mb b' := ⟨C.X.keeps k, C.T.keeps k⟩
theorem call_S {w : World} {A : Around} {s : Shared} {b : Heap} {S : List (Addr × Obj)} {mean : ExcName → Option Value} {mg mb : Str → Option Value}
    {R : Result → Shared → Prop} {name qual : Str} {params : Arguments} {body : List Stmt} {scope : Scope} {dV kV doc pm cdv ct oc : Value} {an od : Option Addr} {osl : Array (Option Value)} {f : Addr} {args : Args} {binds : List (Str × Value)}
    (LD : Led b s.heap S) (hbs : b.objs.size ≤ s.heap.objs.size) (C : Cx w mean mg mb b) (hroom : A.depth < recursionLimit)
    (ho : (hd.heap_39 w.params).lookup f = some ⟨oc, od, .func (fnOf name qual params body scope dV kV doc pm an cdv ct), osl⟩) (hcd : codeIn (hd.heap_39 w.params) cdv qual = true)
    (hbind : BindsTo s (fnOf name qual params body scope dV kV doc pm an cdv ct) args binds) (hloc : ∀ y ∈ binds, scope.names.lookup y.1 = some .local)
    (h : ∀ L' h₁, Fr b L' h₁ (fun y => binds.reverse.lookup y) → News b L' h₁ S → (∀ p ∈ S, p.1 < L') → s.heap.objs.size ≤ L' →
      wpAny (model PRG w) (A.deeper (envOf qual scope L' f cdv)) (execs body (envOf qual scope L' f cdv))
        (fun fl s' => R (.ok (.ret (match fl with | .ret v => v | _ => .none))) s') (fun _ _ => False)
        { s with heap := h₁, toks := s.toks + binds.length })
    (hco : scope.isCoroutine = false := by rfl) (hgen : scope.isGenerator = false := by rfl) (hk : scope.kind = .function := by rfl)
    (hcell : ∀ x ∈ scope.names, x.2 ≠ .cell := by decide) : codeAny (model PRG w) A (.call (.ref f) args) R s := by
  refine codeAny_call_def (fd := fnOf name qual params body scope dV kV doc pm an cdv ct) (body := body) (binds := binds) hroom (LD.sub _ _ (C.X _ _ ho)) rfl (C.T.nolimit.keeps LD.sub) (codeRec_of (C.X.keeps LD.sub) hcd) rfl hbind hcell hloc (fun h₁ hns hk₁ => ?_) hco hgen hk
  exact wpAny_mono (h s.heap.objs.size h₁ ⟨hns, fun b' o e => hk₁ b' o (LD.sub b' o e), hbs⟩
    (fun p hp => ⟨hk₁ _ _ (LD.mem p hp).1, Nat.ne_of_lt (Heap.lt_size (LD.mem p hp).1), (LD.mem p hp).2⟩) (fun p hp => Heap.lt_size (LD.mem p hp).1) (Nat.le_refl _)) (fun _ _ x => x) (fun _ _ x => x.elim)
/-- InstAt, kept -/
theorem inst_keeps {h h' : Heap} {x C : Addr} {ox : Obj} {od : Option Obj} (I : InstAt h x ox C od) (k : ∀ b o, h.get? b = some o → h'.get? b = some o) : InstAt h' x ox C od := by
  obtain ⟨h1, h2, h3, h4⟩ := I
  refine ⟨k _ _ h1, h2, h3, ?_⟩
  cases hd : ox.dict with
  | none => rw [hd] at h4; cases od with
    | none => exact trivial
    | some o => exact h4.elim
  | some dx =>
    rw [hd] at h4
    cases od with
    | none => exact h4.elim
    | some o => exact k _ _ h4
theorem inst_mk {h : Heap} {x C dx : Addr} {od : Obj} (h1 : h.get? x = some (instObj C dx)) (h2 : h.get? dx = some od) : InstAt h x (instObj C dx) C (some od) := ⟨h1, rfl, rfl, h2⟩
theorem inst_mix {b h : Heap} {L x C dx : Addr} {m : Str → Option Value} {od : Obj} {news : List (Addr × Obj)} (hx : b.get? x = some (instObj C dx)) (F : Fr b L h m) (N : News b L h news) (hm : (dx, od) ∈ news) : InstAt h x (instObj C dx) C (some od) :=
  inst_mk (F.keep _ _ hx) (N.get hm)
theorem led_of {b h : Heap} {L : Addr} {m : Str → Option Value} {news S : List (Addr × Obj)} (F : Fr b L h m) (N : News b L h news) (hs : ∀ p ∈ S, p ∈ news) : Led b h S :=
  ⟨F.keep, fun p hp => ⟨(N p (hs p hp)).1, (N p (hs p hp)).2.2⟩⟩
/-- a call's ground: the mutable part S hidden, all else of the heap kept; and back -/
theorem shift {h₀ h : Heap} {L : Addr} {m : Str → Option Value} (S rest : List (Addr × Obj)) (F : Fr h₀ L h m) (N : News h₀ L h (S ++ rest)) (D : ∀ p ∈ rest, ∀ q ∈ S, p.1 ≠ q.1) :
    ∃ g : Heap, g.objs.size ≤ h.objs.size ∧ Led g h S ∧ h₀.StaysIn g ∧ (∀ p ∈ rest, g.get? p.1 = some p.2) ∧
      ∀ h' S', Led g h' S' → Fr h₀ L h' m ∧ News h₀ L h' (S' ++ rest) ∧ ∀ p ∈ rest, ∀ q ∈ S', p.1 ≠ q.1 := by
  have nm : ∀ b o, h₀.get? b = some o → b ∉ S.map (·.1) := fun b o e q => by
    obtain ⟨p, hp, rfl⟩ := List.mem_map.mp q
    rw [(N p (List.mem_append_left _ hp)).2.2] at e; cases e
  have st : h₀.StaysIn (hideAll h (S.map (·.1))) := fun b o e => hideAll_get _ (F.keep b o e) (nm b o e)
  obtain ⟨oL, es, ep, hL, hLr⟩ := F.ns
  have nL : L ∉ S.map (·.1) := fun q => by
    obtain ⟨p, hp, e⟩ := List.mem_map.mp q
    exact (N p (List.mem_append_left _ hp)).2.1 e
  have hLg := hideAll_get (S.map (·.1)) hL nL
  have hrest : ∀ p ∈ rest, (hideAll h (S.map (·.1))).get? p.1 = some p.2 := fun p hp => hideAll_get _ (N p (List.mem_append_right _ hp)).1 fun q => by
    obtain ⟨r, hr, e⟩ := List.mem_map.mp q
    exact D p hp r hr e.symm
  refine ⟨hideAll h (S.map (·.1)), Nat.le_of_eq (hideAll_size _ _), ⟨fun b o e => of_hideAll _ e, fun p hp => ⟨(N p (List.mem_append_left _ hp)).1, hideAll_none _ (List.mem_map_of_mem hp)⟩⟩, st, hrest, ?_⟩
  intro h' S' LD
  refine ⟨⟨⟨oL, es, ep, LD.sub _ _ hLg, hLr⟩, fun b o e => LD.sub b o (st b o e), F.above⟩, ?_, ?_⟩
  · intro p hp
    rcases List.mem_append.mp hp with q | q
    · refine ⟨(LD.mem p q).1, fun e => ?_, ?_⟩
      · have := (LD.mem p q).2; rw [e, hLg] at this; cases this
      · cases z : h₀.get? p.1 with
        | none => rfl
        | some o => have := (LD.mem p q).2; rw [st _ _ z] at this; cases this
    · exact ⟨LD.sub _ _ (hrest p q), (N p (List.mem_append_right _ q)).2⟩
  · intro p hp q hq e
    have := (LD.mem q hq).2
    rw [← e, hrest p hp] at this; cases this
theorem led2 {b h : Heap} {L : Addr} {m : Str → Option Value} {news : List (Addr × Obj)} {p q : Addr × Obj} (F : Fr b L h m) (N : News b L h news) (hp : p ∈ news) (hq : q ∈ news) : Led b h [p, q] :=
  led_of F N fun r hr => by
    rcases List.mem_cons.mp hr with rfl | hr
    · exact hp
    · rw [List.mem_singleton.mp hr]; exact hq
theorem Led.weaken {b h h' : Heap} {S : List (Addr × Obj)} (LD : Led h h' S) (k : b.StaysIn h) : Led b h' S :=
  ⟨fun a o e => LD.sub a o (k a o e), fun p hp => ⟨(LD.mem p hp).1, by
    cases q : b.get? p.1 with
    | none => rfl
    | some o => have := (LD.mem p hp).2; rw [k _ _ q] at this; cases this⟩⟩
theorem led_nil {b h : Heap} {L : Addr} {m : Str → Option Value} (F : Fr b L h m) : Led b h [] := ⟨F.keep, fun _ hp => nomatch hp⟩
theorem Led.cons {b h : Heap} {L : Addr} {news S : List (Addr × Obj)} {p : Addr × Obj} (LD : Led b h S) (N : News b L h news) (hp : p ∈ news) : Led b h (p :: S) :=
  ⟨LD.sub, fun q hq => by
    rcases List.mem_cons.mp hq with rfl | hq
    · exact ⟨(N _ hp).1, (N _ hp).2.2⟩
    · exact LD.mem q hq⟩
/-- new objects onto a ledger -/
theorem led_news {h₀ h h' : Heap} {L : Addr} {m : Str → Option Value} {S : List (Addr × Obj)} (F : Fr h₀ L h m) (LD : Led h h' S) : News h₀ L h' S := fun p hp => by
  obtain ⟨oL, _, _, hL, _⟩ := F.ns
  refine ⟨(LD.mem p hp).1, fun e => ?_, ?_⟩
  · have := (LD.mem p hp).2; rw [e, hL] at this; cases this
  · cases q : h₀.get? p.1 with
    | none => rfl
    | some o => have := (LD.mem p hp).2; rw [F.keep _ _ q] at this; cases this
theorem News.join {h₀ h : Heap} {L : Addr} {S T : List (Addr × Obj)} (N : News h₀ L h S) (N' : News h₀ L h T) : News h₀ L h (S ++ T) := fun p hp => (List.mem_append.mp hp).elim (N p) (N' p)
theorem vint {a b : Int} {t : Tok} (h : a = b) : Value.int a t = Value.int b t := by rw [h]
theorem vbool {a b : Bool} (h : a = b) : Value.bool a = Value.bool b := by rw [h]
/-- an optional int as a value -/
def optV (o : Option Int) (t : Tok) : Value := match o with | none => .none | some i => .int i t
structure NR where
  win : Int
  thr : Option Int
  rcv : Option Int
  inf : Int
  cr : Int
def NR.inRec (r : NR) (t : Int) : Bool := r.rcv.any fun q => decide (t ≤ q)
def NR.slow (r : NR) : Bool := r.thr.all fun t => decide (r.win < t)
def NR.widen (r : NR) (size : Int) : NR := { r with cr := (r.cr + 100 * size) - (r.cr + 100 * size).fdiv r.win * r.win, win := r.win + (r.cr + 100 * size).fdiv r.win }
def NR.acked (r : NR) (size t : Int) : NR :=
  if r.inRec t then { r with inf := r.inf - size } else if r.slow then { r with inf := r.inf - size, win := r.win + size } else NR.widen { r with inf := r.inf - size } size
def NR.congest (r : NR) (t now : Int) : NR :=
  if r.inRec t then r else { r with rcv := some now, cr := 0, thr := some (max (r.win / 2) 200), win := max (r.win / 2) 200 }
def NR.lost (r : NR) (size : Int) (newest : Option Int) (now : Int) : NR := match newest with
  | none => { r with inf := r.inf - size }
  | some t => NR.congest { r with inf := r.inf - size } t now
structure NR.Ok (r : NR) : Prop where
  lo : 200 ≤ r.win
  hi : r.win ≤ 1000000
  c0 : 0 ≤ r.cr
  c1 : r.cr ≤ 1000000
inductive RenoI (P : Params) (r : NR) : Obj → Prop
  | mk (t0 t1 t2 t3 t4 t5 v0 v1 v2 v3 v4 v5 : Tok) : RenoI P r (dictOf [⟨PyData.keyHash P (Str.ofString "datagram"), .str (Str.ofString "datagram") t0, .int 100 v0⟩, ⟨PyData.keyHash P (Str.ofString "window"), .str (Str.ofString "window") t1, .int r.win v1⟩,
    ⟨PyData.keyHash P (Str.ofString "threshold"), .str (Str.ofString "threshold") t2, optV r.thr v2⟩, ⟨PyData.keyHash P (Str.ofString "recovery_at"), .str (Str.ofString "recovery_at") t3, optV r.rcv v3⟩,
    ⟨PyData.keyHash P (Str.ofString "in_flight"), .str (Str.ofString "in_flight") t4, .int r.inf v4⟩, ⟨PyData.keyHash P (Str.ofString "credit"), .str (Str.ofString "credit") t5, .int r.cr v5⟩] 6)
abbrev RenoIs (P : Params) (o : Obj) (r : NR) : Prop := RenoI P r o
theorem exI2 {α0 α1 : Type} {P : α0 → α1 → Prop} (x0 : α0) (x1 : α1) (h : P x0 x1) : ∃ x0 x1, P x0 x1 := ⟨x0, x1, h⟩
theorem exE2 {α0 α1 : Type} {P : α0 → α1 → Prop} {C : Prop} (h : ∃ x0 x1, P x0 x1) (k : ∀ x0 x1, P x0 x1 → C) : C := let ⟨x0, x1, h⟩ := h; k x0 x1 h
theorem exI3 {α0 α1 α2 : Type} {P : α0 → α1 → α2 → Prop} (x0 : α0) (x1 : α1) (x2 : α2) (h : P x0 x1 x2) : ∃ x0 x1 x2, P x0 x1 x2 := ⟨x0, exI2 x1 x2 h⟩
theorem exE3 {α0 α1 α2 : Type} {P : α0 → α1 → α2 → Prop} {C : Prop} (h : ∃ x0 x1 x2, P x0 x1 x2) (k : ∀ x0 x1 x2, P x0 x1 x2 → C) : C := h.elim fun x0 h => exE2 h (k x0)
theorem exI4 {α0 α1 α2 α3 : Type} {P : α0 → α1 → α2 → α3 → Prop} (x0 : α0) (x1 : α1) (x2 : α2) (x3 : α3) (h : P x0 x1 x2 x3) : ∃ x0 x1 x2 x3, P x0 x1 x2 x3 := ⟨x0, exI3 x1 x2 x3 h⟩
theorem exE4 {α0 α1 α2 α3 : Type} {P : α0 → α1 → α2 → α3 → Prop} {C : Prop} (h : ∃ x0 x1 x2 x3, P x0 x1 x2 x3) (k : ∀ x0 x1 x2 x3, P x0 x1 x2 x3 → C) : C := h.elim fun x0 h => exE3 h (k x0)
theorem exI5 {α0 α1 α2 α3 α4 : Type} {P : α0 → α1 → α2 → α3 → α4 → Prop} (x0 : α0) (x1 : α1) (x2 : α2) (x3 : α3) (x4 : α4) (h : P x0 x1 x2 x3 x4) : ∃ x0 x1 x2 x3 x4, P x0 x1 x2 x3 x4 := ⟨x0, exI4 x1 x2 x3 x4 h⟩
theorem exE5 {α0 α1 α2 α3 α4 : Type} {P : α0 → α1 → α2 → α3 → α4 → Prop} {C : Prop} (h : ∃ x0 x1 x2 x3 x4, P x0 x1 x2 x3 x4) (k : ∀ x0 x1 x2 x3 x4, P x0 x1 x2 x3 x4 → C) : C := h.elim fun x0 h => exE4 h (k x0)
theorem exI6 {α0 α1 α2 α3 α4 α5 : Type} {P : α0 → α1 → α2 → α3 → α4 → α5 → Prop} (x0 : α0) (x1 : α1) (x2 : α2) (x3 : α3) (x4 : α4) (x5 : α5) (h : P x0 x1 x2 x3 x4 x5) : ∃ x0 x1 x2 x3 x4 x5, P x0 x1 x2 x3 x4 x5 := ⟨x0, exI5 x1 x2 x3 x4 x5 h⟩
theorem exE6 {α0 α1 α2 α3 α4 α5 : Type} {P : α0 → α1 → α2 → α3 → α4 → α5 → Prop} {C : Prop} (h : ∃ x0 x1 x2 x3 x4 x5, P x0 x1 x2 x3 x4 x5) (k : ∀ x0 x1 x2 x3 x4 x5, P x0 x1 x2 x3 x4 x5 → C) : C := h.elim fun x0 h => exE5 h (k x0)
theorem exI7 {α0 α1 α2 α3 α4 α5 α6 : Type} {P : α0 → α1 → α2 → α3 → α4 → α5 → α6 → Prop} (x0 : α0) (x1 : α1) (x2 : α2) (x3 : α3) (x4 : α4) (x5 : α5) (x6 : α6) (h : P x0 x1 x2 x3 x4 x5 x6) : ∃ x0 x1 x2 x3 x4 x5 x6, P x0 x1 x2 x3 x4 x5 x6 := ⟨x0, exI6 x1 x2 x3 x4 x5 x6 h⟩
theorem exE7 {α0 α1 α2 α3 α4 α5 α6 : Type} {P : α0 → α1 → α2 → α3 → α4 → α5 → α6 → Prop} {C : Prop} (h : ∃ x0 x1 x2 x3 x4 x5 x6, P x0 x1 x2 x3 x4 x5 x6) (k : ∀ x0 x1 x2 x3 x4 x5 x6, P x0 x1 x2 x3 x4 x5 x6 → C) : C := h.elim fun x0 h => exE6 h (k x0)
theorem exI8 {α0 α1 α2 α3 α4 α5 α6 α7 : Type} {P : α0 → α1 → α2 → α3 → α4 → α5 → α6 → α7 → Prop} (x0 : α0) (x1 : α1) (x2 : α2) (x3 : α3) (x4 : α4) (x5 : α5) (x6 : α6) (x7 : α7) (h : P x0 x1 x2 x3 x4 x5 x6 x7) : ∃ x0 x1 x2 x3 x4 x5 x6 x7, P x0 x1 x2 x3 x4 x5 x6 x7 := ⟨x0, exI7 x1 x2 x3 x4 x5 x6 x7 h⟩
theorem exE8 {α0 α1 α2 α3 α4 α5 α6 α7 : Type} {P : α0 → α1 → α2 → α3 → α4 → α5 → α6 → α7 → Prop} {C : Prop} (h : ∃ x0 x1 x2 x3 x4 x5 x6 x7, P x0 x1 x2 x3 x4 x5 x6 x7) (k : ∀ x0 x1 x2 x3 x4 x5 x6 x7, P x0 x1 x2 x3 x4 x5 x6 x7 → C) : C := h.elim fun x0 h => exE7 h (k x0)
theorem exI9 {α0 α1 α2 α3 α4 α5 α6 α7 α8 : Type} {P : α0 → α1 → α2 → α3 → α4 → α5 → α6 → α7 → α8 → Prop} (x0 : α0) (x1 : α1) (x2 : α2) (x3 : α3) (x4 : α4) (x5 : α5) (x6 : α6) (x7 : α7) (x8 : α8) (h : P x0 x1 x2 x3 x4 x5 x6 x7 x8) : ∃ x0 x1 x2 x3 x4 x5 x6 x7 x8, P x0 x1 x2 x3 x4 x5 x6 x7 x8 := ⟨x0, exI8 x1 x2 x3 x4 x5 x6 x7 x8 h⟩
theorem exE9 {α0 α1 α2 α3 α4 α5 α6 α7 α8 : Type} {P : α0 → α1 → α2 → α3 → α4 → α5 → α6 → α7 → α8 → Prop} {C : Prop} (h : ∃ x0 x1 x2 x3 x4 x5 x6 x7 x8, P x0 x1 x2 x3 x4 x5 x6 x7 x8) (k : ∀ x0 x1 x2 x3 x4 x5 x6 x7 x8, P x0 x1 x2 x3 x4 x5 x6 x7 x8 → C) : C := h.elim fun x0 h => exE8 h (k x0)
theorem exI10 {α0 α1 α2 α3 α4 α5 α6 α7 α8 α9 : Type} {P : α0 → α1 → α2 → α3 → α4 → α5 → α6 → α7 → α8 → α9 → Prop} (x0 : α0) (x1 : α1) (x2 : α2) (x3 : α3) (x4 : α4) (x5 : α5) (x6 : α6) (x7 : α7) (x8 : α8) (x9 : α9) (h : P x0 x1 x2 x3 x4 x5 x6 x7 x8 x9) : ∃ x0 x1 x2 x3 x4 x5 x6 x7 x8 x9, P x0 x1 x2 x3 x4 x5 x6 x7 x8 x9 := ⟨x0, exI9 x1 x2 x3 x4 x5 x6 x7 x8 x9 h⟩
theorem exE10 {α0 α1 α2 α3 α4 α5 α6 α7 α8 α9 : Type} {P : α0 → α1 → α2 → α3 → α4 → α5 → α6 → α7 → α8 → α9 → Prop} {C : Prop} (h : ∃ x0 x1 x2 x3 x4 x5 x6 x7 x8 x9, P x0 x1 x2 x3 x4 x5 x6 x7 x8 x9) (k : ∀ x0 x1 x2 x3 x4 x5 x6 x7 x8 x9, P x0 x1 x2 x3 x4 x5 x6 x7 x8 x9 → C) : C := h.elim fun x0 h => exE9 h (k x0)
theorem exI11 {α0 α1 α2 α3 α4 α5 α6 α7 α8 α9 α10 : Type} {P : α0 → α1 → α2 → α3 → α4 → α5 → α6 → α7 → α8 → α9 → α10 → Prop} (x0 : α0) (x1 : α1) (x2 : α2) (x3 : α3) (x4 : α4) (x5 : α5) (x6 : α6) (x7 : α7) (x8 : α8) (x9 : α9) (x10 : α10) (h : P x0 x1 x2 x3 x4 x5 x6 x7 x8 x9 x10) : ∃ x0 x1 x2 x3 x4 x5 x6 x7 x8 x9 x10, P x0 x1 x2 x3 x4 x5 x6 x7 x8 x9 x10 := ⟨x0, exI10 x1 x2 x3 x4 x5 x6 x7 x8 x9 x10 h⟩
theorem exE11 {α0 α1 α2 α3 α4 α5 α6 α7 α8 α9 α10 : Type} {P : α0 → α1 → α2 → α3 → α4 → α5 → α6 → α7 → α8 → α9 → α10 → Prop} {C : Prop} (h : ∃ x0 x1 x2 x3 x4 x5 x6 x7 x8 x9 x10, P x0 x1 x2 x3 x4 x5 x6 x7 x8 x9 x10) (k : ∀ x0 x1 x2 x3 x4 x5 x6 x7 x8 x9 x10, P x0 x1 x2 x3 x4 x5 x6 x7 x8 x9 x10 → C) : C := h.elim fun x0 h => exE10 h (k x0)
theorem exI12 {α0 α1 α2 α3 α4 α5 α6 α7 α8 α9 α10 α11 : Type} {P : α0 → α1 → α2 → α3 → α4 → α5 → α6 → α7 → α8 → α9 → α10 → α11 → Prop} (x0 : α0) (x1 : α1) (x2 : α2) (x3 : α3) (x4 : α4) (x5 : α5) (x6 : α6) (x7 : α7) (x8 : α8) (x9 : α9) (x10 : α10) (x11 : α11) (h : P x0 x1 x2 x3 x4 x5 x6 x7 x8 x9 x10 x11) : ∃ x0 x1 x2 x3 x4 x5 x6 x7 x8 x9 x10 x11, P x0 x1 x2 x3 x4 x5 x6 x7 x8 x9 x10 x11 := ⟨x0, exI11 x1 x2 x3 x4 x5 x6 x7 x8 x9 x10 x11 h⟩
theorem exE12 {α0 α1 α2 α3 α4 α5 α6 α7 α8 α9 α10 α11 : Type} {P : α0 → α1 → α2 → α3 → α4 → α5 → α6 → α7 → α8 → α9 → α10 → α11 → Prop} {C : Prop} (h : ∃ x0 x1 x2 x3 x4 x5 x6 x7 x8 x9 x10 x11, P x0 x1 x2 x3 x4 x5 x6 x7 x8 x9 x10 x11) (k : ∀ x0 x1 x2 x3 x4 x5 x6 x7 x8 x9 x10 x11, P x0 x1 x2 x3 x4 x5 x6 x7 x8 x9 x10 x11 → C) : C := h.elim fun x0 h => exE11 h (k x0)
theorem andE3 {a0 a1 a2 C : Prop} (h : a0 ∧ a1 ∧ a2) (k : a0 → a1 → a2 → C) : C := k h.1 h.2.1 h.2.2
theorem andE4 {a0 a1 a2 a3 C : Prop} (h : a0 ∧ a1 ∧ a2 ∧ a3) (k : a0 → a1 → a2 → a3 → C) : C := k h.1 h.2.1 h.2.2.1 h.2.2.2
theorem andE5 {a0 a1 a2 a3 a4 C : Prop} (h : a0 ∧ a1 ∧ a2 ∧ a3 ∧ a4) (k : a0 → a1 → a2 → a3 → a4 → C) : C := k h.1 h.2.1 h.2.2.1 h.2.2.2.1 h.2.2.2.2
theorem andE6 {a0 a1 a2 a3 a4 a5 C : Prop} (h : a0 ∧ a1 ∧ a2 ∧ a3 ∧ a4 ∧ a5) (k : a0 → a1 → a2 → a3 → a4 → a5 → C) : C := k h.1 h.2.1 h.2.2.1 h.2.2.2.1 h.2.2.2.2.1 h.2.2.2.2.2
theorem andE7 {a0 a1 a2 a3 a4 a5 a6 C : Prop} (h : a0 ∧ a1 ∧ a2 ∧ a3 ∧ a4 ∧ a5 ∧ a6) (k : a0 → a1 → a2 → a3 → a4 → a5 → a6 → C) : C := k h.1 h.2.1 h.2.2.1 h.2.2.2.1 h.2.2.2.2.1 h.2.2.2.2.2.1 h.2.2.2.2.2.2
theorem andE8 {a0 a1 a2 a3 a4 a5 a6 a7 C : Prop} (h : a0 ∧ a1 ∧ a2 ∧ a3 ∧ a4 ∧ a5 ∧ a6 ∧ a7) (k : a0 → a1 → a2 → a3 → a4 → a5 → a6 → a7 → C) : C := k h.1 h.2.1 h.2.2.1 h.2.2.2.1 h.2.2.2.2.1 h.2.2.2.2.2.1 h.2.2.2.2.2.2.1 h.2.2.2.2.2.2.2
theorem andE9 {a0 a1 a2 a3 a4 a5 a6 a7 a8 C : Prop} (h : a0 ∧ a1 ∧ a2 ∧ a3 ∧ a4 ∧ a5 ∧ a6 ∧ a7 ∧ a8) (k : a0 → a1 → a2 → a3 → a4 → a5 → a6 → a7 → a8 → C) : C := k h.1 h.2.1 h.2.2.1 h.2.2.2.1 h.2.2.2.2.1 h.2.2.2.2.2.1 h.2.2.2.2.2.2.1 h.2.2.2.2.2.2.2.1 h.2.2.2.2.2.2.2.2
theorem andE10 {a0 a1 a2 a3 a4 a5 a6 a7 a8 a9 C : Prop} (h : a0 ∧ a1 ∧ a2 ∧ a3 ∧ a4 ∧ a5 ∧ a6 ∧ a7 ∧ a8 ∧ a9) (k : a0 → a1 → a2 → a3 → a4 → a5 → a6 → a7 → a8 → a9 → C) : C := k h.1 h.2.1 h.2.2.1 h.2.2.2.1 h.2.2.2.2.1 h.2.2.2.2.2.1 h.2.2.2.2.2.2.1 h.2.2.2.2.2.2.2.1 h.2.2.2.2.2.2.2.2.1 h.2.2.2.2.2.2.2.2.2
theorem andE11 {a0 a1 a2 a3 a4 a5 a6 a7 a8 a9 a10 C : Prop} (h : a0 ∧ a1 ∧ a2 ∧ a3 ∧ a4 ∧ a5 ∧ a6 ∧ a7 ∧ a8 ∧ a9 ∧ a10) (k : a0 → a1 → a2 → a3 → a4 → a5 → a6 → a7 → a8 → a9 → a10 → C) : C := k h.1 h.2.1 h.2.2.1 h.2.2.2.1 h.2.2.2.2.1 h.2.2.2.2.2.1 h.2.2.2.2.2.2.1 h.2.2.2.2.2.2.2.1 h.2.2.2.2.2.2.2.2.1 h.2.2.2.2.2.2.2.2.2.1 h.2.2.2.2.2.2.2.2.2.2
theorem andE12 {a0 a1 a2 a3 a4 a5 a6 a7 a8 a9 a10 a11 C : Prop} (h : a0 ∧ a1 ∧ a2 ∧ a3 ∧ a4 ∧ a5 ∧ a6 ∧ a7 ∧ a8 ∧ a9 ∧ a10 ∧ a11) (k : a0 → a1 → a2 → a3 → a4 → a5 → a6 → a7 → a8 → a9 → a10 → a11 → C) : C := k h.1 h.2.1 h.2.2.1 h.2.2.2.1 h.2.2.2.2.1 h.2.2.2.2.2.1 h.2.2.2.2.2.2.1 h.2.2.2.2.2.2.2.1 h.2.2.2.2.2.2.2.2.1 h.2.2.2.2.2.2.2.2.2.1 h.2.2.2.2.2.2.2.2.2.2.1 h.2.2.2.2.2.2.2.2.2.2.2
theorem andE13 {a0 a1 a2 a3 a4 a5 a6 a7 a8 a9 a10 a11 a12 C : Prop} (h : a0 ∧ a1 ∧ a2 ∧ a3 ∧ a4 ∧ a5 ∧ a6 ∧ a7 ∧ a8 ∧ a9 ∧ a10 ∧ a11 ∧ a12) (k : a0 → a1 → a2 → a3 → a4 → a5 → a6 → a7 → a8 → a9 → a10 → a11 → a12 → C) : C := k h.1 h.2.1 h.2.2.1 h.2.2.2.1 h.2.2.2.2.1 h.2.2.2.2.2.1 h.2.2.2.2.2.2.1 h.2.2.2.2.2.2.2.1 h.2.2.2.2.2.2.2.2.1 h.2.2.2.2.2.2.2.2.2.1 h.2.2.2.2.2.2.2.2.2.2.1 h.2.2.2.2.2.2.2.2.2.2.2.1 h.2.2.2.2.2.2.2.2.2.2.2.2
theorem andE14 {a0 a1 a2 a3 a4 a5 a6 a7 a8 a9 a10 a11 a12 a13 C : Prop} (h : a0 ∧ a1 ∧ a2 ∧ a3 ∧ a4 ∧ a5 ∧ a6 ∧ a7 ∧ a8 ∧ a9 ∧ a10 ∧ a11 ∧ a12 ∧ a13) (k : a0 → a1 → a2 → a3 → a4 → a5 → a6 → a7 → a8 → a9 → a10 → a11 → a12 → a13 → C) : C := k h.1 h.2.1 h.2.2.1 h.2.2.2.1 h.2.2.2.2.1 h.2.2.2.2.2.1 h.2.2.2.2.2.2.1 h.2.2.2.2.2.2.2.1 h.2.2.2.2.2.2.2.2.1 h.2.2.2.2.2.2.2.2.2.1 h.2.2.2.2.2.2.2.2.2.2.1 h.2.2.2.2.2.2.2.2.2.2.2.1 h.2.2.2.2.2.2.2.2.2.2.2.2.1 h.2.2.2.2.2.2.2.2.2.2.2.2.2
theorem andE15 {a0 a1 a2 a3 a4 a5 a6 a7 a8 a9 a10 a11 a12 a13 a14 C : Prop} (h : a0 ∧ a1 ∧ a2 ∧ a3 ∧ a4 ∧ a5 ∧ a6 ∧ a7 ∧ a8 ∧ a9 ∧ a10 ∧ a11 ∧ a12 ∧ a13 ∧ a14) (k : a0 → a1 → a2 → a3 → a4 → a5 → a6 → a7 → a8 → a9 → a10 → a11 → a12 → a13 → a14 → C) : C := k h.1 h.2.1 h.2.2.1 h.2.2.2.1 h.2.2.2.2.1 h.2.2.2.2.2.1 h.2.2.2.2.2.2.1 h.2.2.2.2.2.2.2.1 h.2.2.2.2.2.2.2.2.1 h.2.2.2.2.2.2.2.2.2.1 h.2.2.2.2.2.2.2.2.2.2.1 h.2.2.2.2.2.2.2.2.2.2.2.1 h.2.2.2.2.2.2.2.2.2.2.2.2.1 h.2.2.2.2.2.2.2.2.2.2.2.2.2.1 h.2.2.2.2.2.2.2.2.2.2.2.2.2.2
theorem andE16 {a0 a1 a2 a3 a4 a5 a6 a7 a8 a9 a10 a11 a12 a13 a14 a15 C : Prop} (h : a0 ∧ a1 ∧ a2 ∧ a3 ∧ a4 ∧ a5 ∧ a6 ∧ a7 ∧ a8 ∧ a9 ∧ a10 ∧ a11 ∧ a12 ∧ a13 ∧ a14 ∧ a15) (k : a0 → a1 → a2 → a3 → a4 → a5 → a6 → a7 → a8 → a9 → a10 → a11 → a12 → a13 → a14 → a15 → C) : C := k h.1 h.2.1 h.2.2.1 h.2.2.2.1 h.2.2.2.2.1 h.2.2.2.2.2.1 h.2.2.2.2.2.2.1 h.2.2.2.2.2.2.2.1 h.2.2.2.2.2.2.2.2.1 h.2.2.2.2.2.2.2.2.2.1 h.2.2.2.2.2.2.2.2.2.2.1 h.2.2.2.2.2.2.2.2.2.2.2.1 h.2.2.2.2.2.2.2.2.2.2.2.2.1 h.2.2.2.2.2.2.2.2.2.2.2.2.2.1 h.2.2.2.2.2.2.2.2.2.2.2.2.2.2.1 h.2.2.2.2.2.2.2.2.2.2.2.2.2.2.2
/-- a postcondition made a variable -/
theorem post_abs {M : Model} {α : Type} {A : Around} {T : Sem α} {Q : α → Shared → Prop} {E : Value → Shared → Prop} {s : Shared} (h : ∀ U : α → Shared → Prop, (∀ a s', Q a s' → U a s') → wpAny M A T U E s) : wpAny M A T Q E s := h Q fun _ _ x => x
end
section
open PyProof.Rows.LCg
set_option maxHeartbeats 1000000
/-! ## sources of loops -/
/-- pyIter of xv in s: an iterator over n items, P; src: what it reads -/
def SrcOk (w : World) (A : Around) (s : Shared) (xv : Value) (target : Expr) (src : List Addr) (n : Nat) (P : Nat → Value → Prop) : Prop :=
  ∀ (Q : Value → Shared → Prop) (E : Value → Shared → Prop),
    (∀ (h' : Heap) (I : Addr) (St : Nat → Heap → Prop), s.heap.StaysIn h' → I = s.heap.objs.size → I < h'.objs.size → h'.objs.size ≤ s.heap.objs.size + 1 → (∀ a ∈ src, a < I) →
      Walks PRG w A I (I :: src) [I] n P St → St 0 h' → (∀ i h, St i h → ∃ o, h.get? I = some o) →
      (∀ i (s' : Shared) v (Q' : Unit → Shared → Prop) (E' : Value → Shared → Prop), St i s'.heap → Q' () s' → wpAny (model PRG w) A (letOwnedTupleGo target (.ref I) v) Q' E' s') →
      Q (.ref I) { s with heap := h' }) → wpAny (model PRG w) A (pyIter xv) Q E s
theorem letGo_list {w : World} {A : Around} {s : Shared} {target : Expr} {I l : Addr} {i : Nat} {v : Value} {Q : Unit → Shared → Prop} {E : Value → Shared → Prop} (hit : s.heap.IsListIter I l i) (hQ : Q () s) :
    wpAny (model PRG w) A (letOwnedTupleGo target (.ref I) v) Q E s := by
  obtain ⟨o, ho, hc, hd⟩ := hit
  unfold letOwnedTupleGo
  split
  · split
    · refine wpAny_bind (wpAny_load (by rename_i h; cases h; exact ho) ?_)
      rw [hc, hd]
      dsimp only
      rw [if_neg (by
        intro h
        rw [show (["enumerate", "zip", "dict_itemiterator", "dict_reverseitemiterator", "odict_iterator", "itertools.zip_longest", "itertools.pairwise"].contains "list_iterator") = false from by decide, Bool.false_and] at h
        cases h)]
      exact wpAny_pure hQ
    · exact wpAny_pure hQ
  · split
    · refine wpAny_bind (wpAny_load (by rename_i h; cases h; exact ho) ?_)
      rw [hc, hd]
      dsimp only
      rw [if_neg (by
        intro h
        rw [show (["enumerate", "zip", "dict_itemiterator", "dict_reverseitemiterator", "odict_iterator", "itertools.zip_longest", "itertools.pairwise"].contains "list_iterator") = false from by decide, Bool.false_and] at h
        cases h)]
      exact wpAny_pure hQ
    · exact wpAny_pure hQ
  · exact wpAny_pure hQ
theorem SrcOk.list {w : World} {A : Around} {s : Shared} {target : Expr} {ax : Addr} {items : Array Value} (hh : A.handled = none) (hl : s.heap.IsList ax items) :
    SrcOk w A s (.ref ax) target [ax] items.size (fun i v => items[i]? = some v) := by
  intro Q E h
  obtain ⟨ol, hol, _⟩ := id hl
  have hlt : ax < s.heap.objs.size := Heap.lt_size hol
  refine wpAny_pyIter_list hl (h _ s.heap.objs.size _ (fun b o e => Heap.get?_push_of_some _ e) rfl (by rw [Heap.size_push]; exact Nat.lt_succ_self _) (by rw [Heap.size_push]; exact Nat.le_refl _) (fun a ha => by rw [List.mem_singleton.mp ha]; exact hlt)
    (Walks.list hh s.heap.objs.size ax (Nat.ne_of_lt hlt) items) ⟨⟨_, Heap.get?_push_size _ rfl, rfl, rfl⟩, hl.at fun o e => Heap.get?_push_of_some _ e⟩ (fun i h st => by obtain ⟨o, e, _⟩ := st.1; exact ⟨o, e⟩)
    (fun i s' v Q' E' st q => letGo_list st.1 q))
theorem SrcOk.lst {w : World} {A : Around} {s : Shared} {target : Expr} {ax : Addr} (vs : List Value) (n : Nat) (hn : vs.length = n) (hh : A.handled = none) (hl : s.heap.IsList ax vs.toArray) :
    SrcOk w A s (.ref ax) target [ax] n (fun i v => vs[i]? = some v) := by
  subst hn
  have := SrcOk.list (w := w) (A := A) (s := s) (target := target) hh hl
  simpa only [List.size_toArray, List.getElem?_toArray] using this
theorem SrcOk.range {w : World} {A : Around} {s : Shared} {x : Str} {px : Pos} {r : Addr} {n : Nat} {b : Int} {t u v : Tok} (hh : A.handled = none) (hr : IsRange s.heap r 0 b 1 t u v) (hsmall : Builtin.Range.small 0 b 1 = true)
    (hn : Builtin.Range.rangeSize 0 b 1 = ((n : Nat) : Int)) : SrcOk w A s (.ref r) (.Name x px) [] n (fun i v => ∃ t, v = .int (0 + (i : Int)) t) := by
  intro Q E h
  refine wpAny_pyIter_range hr hsmall (h _ s.heap.objs.size (fun i h => IsRangeIter h s.heap.objs.size (0 + (i : Nat) * 1) ((n : Int) - (i : Nat)) 1) (fun b o e => Heap.get?_push_of_some _ e) rfl (by rw [Heap.size_push]; exact Nat.lt_succ_self _) (by rw [Heap.size_push]; exact Nat.le_refl _) (fun a ha => nomatch ha)
    (range_walks hh 0 n) ?_ (fun i h st => ⟨_, st⟩) (fun i s' v Q' E' st q => wpAny_pure q))
  show IsRangeIter _ _ _ _ _
  rw [hn]
  simpa using Heap.get?_push_size _ rfl
theorem SrcOk.keys {w : World} {A : Around} {s : Shared} {x : Str} {px : Pos} {K : Type} [DecidableEq K] {knd : KeyKind PRG w K} {d : Addr} {kvs : List (K × Value)} (hh : A.handled = none) (hd : (d == sysModules) = false) (hm : s.heap.DictOf knd d kvs) :
    SrcOk w A s (.ref d) (.Name x px) [d] kvs.length (fun i v => ∃ k y, kvs[i]? = some (k, y) ∧ knd.is k v = true) := by
  intro Q E h
  obtain ⟨ep, ha⟩ := hm.dictAt
  have hlt : d < s.heap.objs.size := ha.lt_size
  refine wpAny_pyIter_dict hd ha (h _ s.heap.objs.size _ (fun b o e => Heap.get?_push_of_some _ e) rfl (by rw [Heap.size_push]; exact Nat.lt_succ_self _) (by rw [Heap.size_push]; exact Nat.le_refl _) (fun a ha => by rw [List.mem_singleton.mp ha]; exact hlt)
    (Walks.dictKeys hh s.heap.objs.size d (Nat.ne_of_lt hlt) kvs ep) ⟨⟨_, Heap.get?_push_size _ rfl, rfl, rfl⟩, ha.push _⟩ (fun i h st => by obtain ⟨o, e, _⟩ := st.1; exact ⟨o, e⟩) (fun i s' v Q' E' st q => wpAny_pure q))
theorem SrcOk.vals {w : World} {A : Around} {s : Shared} {x : Str} {px : Pos} {K : Type} [DecidableEq K] {knd : KeyKind PRG w K} {v d : Addr} {kvs : List (K × Value)} (hh : A.handled = none) (hv : s.heap.IsValuesView v d) (hm : s.heap.DictOf knd d kvs) :
    SrcOk w A s (.ref v) (.Name x px) [d] kvs.length (fun i y => ∃ k, kvs[i]? = some (k, y)) := by
  intro Q E h
  obtain ⟨ep, ha⟩ := hm.dictAt
  have hlt : d < s.heap.objs.size := ha.lt_size
  refine wpAny_pyIter_values hv ha (h _ s.heap.objs.size _ (fun b o e => Heap.get?_push_of_some _ e) rfl (by rw [Heap.size_push]; exact Nat.lt_succ_self _) (by rw [Heap.size_push]; exact Nat.le_refl _) (fun a ha => by rw [List.mem_singleton.mp ha]; exact hlt)
    (Walks.dictValues hh s.heap.objs.size d (Nat.ne_of_lt hlt) kvs ep) ⟨⟨_, Heap.get?_push_size _ rfl, rfl, rfl⟩, ha.push _⟩ (fun i h st => by obtain ⟨o, e, _⟩ := st.1; exact ⟨o, e⟩) (fun i s' v Q' E' st q => wpAny_pure q))
/-! ## for -/
inductive TurnEnd (h₀ : Heap) (L I : Addr) (oI : Obj) (Z : List (Addr × Obj)) (Jn : (Str → Option Value) → List (Addr × Obj) → Prop) (s₁ : Shared) : Shared → Prop
  | intro (h' : Heap) (tk : Nat) (m' : Str → Option Value) (S' : List (Addr × Obj)) (F : Fr h₀ L h' m') (N : News h₀ L h' ((I, oI) :: (S' ++ Z))) (hS : ∀ p ∈ S', p.1 ≠ I) (hJ : Jn m' S') : TurnEnd h₀ L I oI Z Jn s₁ { s₁ with heap := h', toks := tk }
theorem TurnEnd.mk {h₀ : Heap} {L I : Addr} {oI : Obj} {Z : List (Addr × Obj)} {Jn : (Str → Option Value) → List (Addr × Obj) → Prop} {s₁ : Shared} {h' : Heap} {tk : Nat} {m' : Str → Option Value} (S' : List (Addr × Obj)) (F : Fr h₀ L h' m') (N : News h₀ L h' ((I, oI) :: (S' ++ Z))) (hS : ∀ p ∈ S', p.1 ≠ I) (hJ : Jn m' S') :
    TurnEnd h₀ L I oI Z Jn s₁ { s₁ with heap := h', toks := tk } := .intro h' tk m' S' F N hS hJ
def TurnPost (Q : Flow → Shared → Prop) (T : Shared → Prop) (f : Flow) (s₃ : Shared) : Prop := match f with
  | .ret v => Q (.ret v) s₃
  | .brk => Q .next s₃
  | _ => T s₃
/-- what a for asks behind its source -/
inductive ForGo (w : World) (A : Around) (env : Env) (h₀ : Heap) (target : Expr) (body : List Stmt) (Q : Flow → Shared → Prop) (xv : Value) (s₁ : Shared) : Prop
  | mk (m : Str → Option Value) (S Z : List (Addr × Obj)) (src : List Addr) (n : Nat) (P : Nat → Value → Prop) (J : Nat → (Str → Option Value) → List (Addr × Obj) → Prop)
      (F : Fr h₀ env.locals s₁.heap m) (N : News h₀ env.locals s₁.heap (S ++ Z)) (hsrc : SrcOk w A s₁ xv target src n P) (hin : ∀ a ∈ src, (∃ o, h₀.get? a = some o) ∨ ∃ o, (a, o) ∈ Z) (h0 : J 0 m S)
      (turn : ∀ i v m₁ S₁ I oI h₁ tk, i < n → P i v → J i m₁ S₁ → Fr h₀ env.locals h₁ m₁ → News h₀ env.locals h₁ ((I, oI) :: (S₁ ++ Z)) → (∀ p ∈ S₁, p.1 ≠ I) → (∀ p ∈ Z, p.1 < I) → s₁.heap.objs.size ≤ I →
        ∀ U : Flow → Shared → Prop, (∀ a s', TurnPost Q (TurnEnd h₀ env.locals I oI Z (J (i + 1)) { s₁ with heap := h₁, toks := tk }) a s' → U a s') →
        wpAny (model PRG w) A (assign target env v) (fun _ s₂ => wpAny (model PRG w) A (execs body env) U (fun _ _ => False) s₂) (fun _ _ => False) { s₁ with heap := h₁, toks := tk })
      (done : ∀ m₁ S₁ h₁ tk, J n m₁ S₁ → Fr h₀ env.locals h₁ m₁ → News h₀ env.locals h₁ (S₁ ++ Z) → Q .next { s₁ with heap := h₁, toks := tk }) : ForGo w A env h₀ target body Q xv s₁
inductive ForInv (h₀ : Heap) (L I : Addr) (Z : List (Addr × Obj)) (St : Nat → Heap → Prop) (J : Nat → (Str → Option Value) → List (Addr × Obj) → Prop) (n : Nat) (s₁ : Shared) : Nat → Shared → Prop
  | mk (h₁ : Heap) (tk : Nat) (m₁ : Str → Option Value) (S₁ : List (Addr × Obj)) (i : Nat) (hst : St i h₁) (F : Fr h₀ L h₁ m₁) (N : News h₀ L h₁ (S₁ ++ Z)) (hS : ∀ p ∈ S₁, p.1 ≠ I) (hJ : J i m₁ S₁) (hi : i ≤ n) : ForInv h₀ L I Z St J n s₁ (n + 1 - i) { s₁ with heap := h₁, toks := tk }
theorem for_S {w : World} {A : Around} {s : Shared} {env : Env} {h₀ : Heap} {target iter : Expr} {body : List Stmt} {pos : Pos} {Q : Flow → Shared → Prop} {E : Value → Shared → Prop}
    (h : wpAny (model PRG w) A (eval iter env) (ForGo w A env h₀ target body Q) E s)
    (hs : ∀ x, foldedSetIterable iter env x = pure x) :
    wpAny (model PRG w) A (exec (.For target iter body [] pos) env) Q E s := by
  refine wpAny_For (wpAny_mono h (fun xv s₁ h₁ => ?_) fun _ _ e => e) hs
  obtain ⟨m, S, Z, src, n, P, J, F, N, hsrc, hin, h0, turn, done⟩ := h₁
  refine hsrc _ _ fun h' I St hk hI hIlt hle hsr W st0 hex hgo => ?_
  have hLlt : env.locals < I := hI ▸ F.ns.lt
  have hI₀ : h₀.get? I = none := hI ▸ next_is_new F
  have hZI : ∀ p ∈ Z, p.1 < I := fun p hp => hI ▸ Heap.lt_size (N p (List.mem_append_right _ hp)).1
  have hSI : ∀ p ∈ S, p.1 ≠ I := fun p hp => Nat.ne_of_lt (hI ▸ Heap.lt_size (N p (List.mem_append_left _ hp)).1)
  have hLI : env.locals ≠ I := Nat.ne_of_lt hLlt
  refine codeAny_forLoop_any
    (ForInv h₀ env.locals I Z St J n s₁) ?_ (n + 1)
    (.mk h' s₁.toks m S 0 st0 (F.keeps hk) (N.grown hk) hSI h0 (Nat.zero_le _))
  rintro k s' ⟨h₁, tk, m₁, S₁, i, hst, F₁, N₁, hS₁, hJ, hi⟩
  have next : ∀ h₂ : Heap, (∀ b o, b ∉ [I] → h₁.get? b = some o → h₂.get? b = some o) → Fr h₀ env.locals h₂ m₁ ∧ News h₀ env.locals h₂ (S₁ ++ Z) := fun h₂ hk₂ =>
    ⟨⟨F₁.ns.at' fun o e => hk₂ _ o (by simpa using hLI) e, fun b o e => hk₂ b o (fun hb => by rw [List.mem_singleton.mp hb, hI₀] at e; cases e) (F₁.keep b o e), F₁.above⟩,
      fun p hp => ⟨hk₂ _ _ (by
        rcases List.mem_append.mp hp with q | q
        · simpa using hS₁ p q
        · simpa using Nat.ne_of_lt (hZI p q)) (N₁ p hp).1, (N₁ p hp).2⟩⟩
  by_cases hlt : i < n
  · refine W.item i _ _ _ hlt hst fun v h₂ tk₂ hP hst₂ hk₂ => ?_
    obtain ⟨F₂, N₂⟩ := next h₂ hk₂
    obtain ⟨oI, heI⟩ := hex _ _ hst₂
    refine hgo (i + 1) _ v _ _ hst₂ ?_
    have N₃ : News h₀ env.locals h₂ ((I, oI) :: (S₁ ++ Z)) := fun p hp => by
      rcases List.mem_cons.mp hp with rfl | hp
      · exact ⟨heI, fun e => hLI e.symm, hI₀⟩
      · exact N₂ p hp
    refine wpAny_mono (turn i v m₁ S₁ I oI h₂ tk₂ hlt hP hJ F₂ N₃ hS₁ hZI (Nat.le_of_eq hI.symm) _ fun _ _ x => x) (fun _ s₂ h₂' => wpAny_mono h₂' (fun f s₃ h₃ => ?_) fun _ _ x => x.elim) fun _ _ x => x.elim
    have fin : TurnEnd h₀ env.locals I oI Z (J (i + 1)) { s₁ with heap := h₂, toks := tk₂ } s₃ → ∃ m, m < n + 1 - i ∧ ForInv h₀ env.locals I Z St J n s₁ m s₃ := by
      rintro ⟨h₄, tk₄, m₄, S₄, F₄, N₄, hS₄, hJ₄⟩
      refine ⟨n + 1 - (i + 1), by omega, .mk h₄ tk₄ m₄ S₄ (i + 1) (W.frame _ _ _ hst₂ fun b hb o e => ?_) F₄ (fun p hp => N₄ p (List.mem_cons_of_mem _ hp)) hS₄ hJ₄ hlt⟩
      rcases List.mem_cons.mp hb with rfl | hb
      · rw [heI] at e; cases e
        exact (N₄ _ (List.mem_cons_self)).1
      · rcases hin b hb with ⟨o', e'⟩ | ⟨o', e'⟩
        · have := F₂.keep b o' e'; rw [e] at this; cases this
          exact F₄.keep b _ e'
        · have := (N₂ (b, o') (List.mem_append_right _ e')).1; rw [e] at this; cases this
          exact (N₄ (b, _) (List.mem_cons_of_mem _ (List.mem_append_right _ e'))).1
    cases f with
    | ret v => exact h₃
    | brk => exact h₃
    | next => exact fin h₃
    | cont => exact fin h₃
  · have hin : i = n := by omega
    subst hin
    refine W.done _ _ _ hst fun h₂ tk₂ hk₂ => wpAny_execs_nil ?_
    obtain ⟨F₂, N₂⟩ := next h₂ hk₂
    exact done m₁ S₁ h₂ tk₂ hJ F₂ N₂
end
section
abbrev mput (k : Str) (v : Option Value) (m : Str → Option Value) : Str → Option Value := fun y => if y = k then v else m y
/-- a frame's map read as a list of entries over a base -/
def chv (base : Str → Option Value) : List (Str × Option Value) → Str → Option Value
  | [], y => base y
  | p :: l, y => if y = p.1 then p.2 else chv base l y
def Ch (base m : Str → Option Value) (l : List (Str × Option Value)) : Prop := m = chv base l
theorem Ch.nil {m : Str → Option Value} : Ch m m [] := rfl
theorem Ch.cons {base m : Str → Option Value} {k : Str} {v : Option Value} {l : List (Str × Option Value)} (h : Ch base m l) : Ch base (mput k v m) ((k, v) :: l) := by
  subst h; rfl
theorem chv_off {base : Str → Option Value} {y : Str} : ∀ {l : List (Str × Option Value)}, (∀ p ∈ l, y ≠ p.1) → chv base l y = base y
  | [], _ => rfl
  | p :: l, h => by rw [chv, if_neg (h p (.head _))]; exact chv_off fun q hq => h q (.tail _ hq)
theorem ch_eq {base m m' : Str → Option Value} {la lb : List (Str × Option Value)} (h1 : Ch base m la) (h2 : Ch base m' lb)
    (e : (la.map fun p => chv base la p.1) = la.map fun p => chv base lb p.1) (e' : (lb.map fun p => chv base la p.1) = lb.map fun p => chv base lb p.1) : m = m' := by
  subst h1 h2
  funext y
  by_cases ha : ∃ p ∈ la, y = p.1
  · obtain ⟨p, hp, rfl⟩ := ha
    exact (List.map_inj_left.mp e) p hp
  · by_cases hb : ∃ p ∈ lb, y = p.1
    · obtain ⟨p, hp, rfl⟩ := hb
      exact (List.map_inj_left.mp e') p hp
    · rw [chv_off fun p hp q => ha ⟨p, hp, q⟩, chv_off fun p hp q => hb ⟨p, hp, q⟩]
end
section
open PyProof.Rows.LCg
set_option maxHeartbeats 1000000
/-! ## comprehensions -/
inductive CompEnd' (b : Heap) (C I D : Addr) (oI : Obj) (ys : List Value) (Jn : List (Addr × Obj) → Prop) (s₁ : Shared) : Shared → Prop
  | intro (h' : Heap) (tk : Nat) (m' : Str → Option Value) (S' : List (Addr × Obj)) (F : Fr b C h' m') (N : News b C h' ((I, oI) :: (D, lst ys) :: S')) (hS : ∀ p ∈ S', p.1 ≠ I ∧ p.1 ≠ D) (hJ : Jn S') : CompEnd' b C I D oI ys Jn s₁ { s₁ with heap := h', toks := tk }
theorem CompEnd'.mk {b : Heap} {C I D : Addr} {oI : Obj} {ys : List Value} {Jn : List (Addr × Obj) → Prop} {s₁ : Shared} {h' : Heap} {tk : Nat} {m' : Str → Option Value} (S' : List (Addr × Obj)) (F : Fr b C h' m') (N : News b C h' ((I, oI) :: (D, lst ys) :: S')) (hS : ∀ p ∈ S', p.1 ≠ I ∧ p.1 ≠ D) (hJ : Jn S') :
    CompEnd' b C I D oI ys Jn s₁ { s₁ with heap := h', toks := tk } := .intro h' tk m' S' F N hS hJ
abbrev testsOf (ifs : List Expr) (env : Env) : Sem Bool := forIn ifs true fun c r => if r = true then do let ok ← isTrue c env (eval c env); pure (ForInStep.yield ok) else pure (ForInStep.yield r)
/-- what a comprehension asks behind its source -/
inductive CompGo (w : World) (A : Around) (env : Env) (elt target : Expr) (ifs : List Expr) (scope : Scope) (cl : List (Str × Addr)) (Fin : Addr → Heap → Nat → Prop) (xv : Value) (s₁ : Shared) : Prop
  | mk (b : Heap) (S : List (Addr × Obj)) (src : List Addr) (n : Nat) (P : Nat → Value → Prop) (J : Nat → List Value → List (Addr × Obj) → Prop)
    (hbs : b.objs.size ≤ s₁.heap.objs.size) (LD : Led b s₁.heap S) (hsrc : SrcOk w A s₁ xv target src n P) (hin : ∀ a ∈ src, ∃ o, b.get? a = some o) (hsz : n ≤ sizeLine) (h0 : J 0 [] S)
    (turn : ∀ i v ys S₁ I oI D C h₁ tk m₁, i < n → P i v → J i ys S₁ → ys.length ≤ i → Fr b C h₁ m₁ → News b C h₁ ((I, oI) :: (D, lst ys) :: S₁) → (∀ p ∈ S₁, p.1 ≠ I ∧ p.1 ≠ D) → I < D → D < C → s₁.heap.objs.size ≤ I →
      ∀ U : Value → Shared → Prop, (∀ y s₄, CompEnd' b C I D oI ys (J (i + 1) (ys ++ [y])) { s₁ with heap := h₁, toks := tk } s₄ → U y s₄) → ∀ V : Shared → Prop, (∀ s₄, CompEnd' b C I D oI ys (J (i + 1) ys) { s₁ with heap := h₁, toks := tk } s₄ → V s₄) →
      wpAny (model PRG w) A (assign target (compEnvC scope cl C env) v) (fun _ s₂ => wpAny (model PRG w) A (testsOf ifs (compEnvC scope cl C env)) (fun ok s₃ =>
        if ok = true then wpAny (model PRG w) A (eval elt (compEnvC scope cl C env)) U (fun _ _ => False) s₃
        else V s₃) (fun _ _ => False) s₂) (fun _ _ => False) { s₁ with heap := h₁, toks := tk })
    (done : ∀ ys S₁ D h₁ tk, J n ys S₁ → ys.length ≤ n → Led b h₁ ((D, lst ys) :: S₁) → (∀ p ∈ S₁, p.1 ≠ D) → s₁.heap.objs.size ≤ D → Fin D h₁ tk) : CompGo w A env elt target ifs scope cl Fin xv s₁
inductive CompInv (b : Heap) (C I D : Addr) (St : Nat → Heap → Prop) (J : Nat → List Value → List (Addr × Obj) → Prop) (n : Nat) (s₁ : Shared) : Nat → Shared → Prop
  | mk (h₂ : Heap) (tk : Nat) (m₂ : Str → Option Value) (ys : List Value) (S₂ : List (Addr × Obj)) (i : Nat) (hst : St i h₂) (F : Fr b C h₂ m₂) (N : News b C h₂ ((D, lst ys) :: S₂)) (hS : ∀ p ∈ S₂, p.1 ≠ I ∧ p.1 ≠ D) (hJ : J i ys S₂) (hyl : ys.length ≤ i) (hi : i ≤ n) :
    CompInv b C I D St J n s₁ (n + 1 - i) { s₁ with heap := h₂, toks := tk }
theorem compLoop_any {w : World} {A : Around} {elt target iter : Expr} {ifs : List Expr} {scope : Scope} {pos : Pos} {it acc : Value} {env : Env} {R : Result → Shared → Prop} (I : Nat → Shared → Prop)
    (turn : ∀ n s, I n s → wpAny (model PRG w) A (pyNext it) (fun r s₁ => match r with
      | none => R (.ok .next) s₁
      | some v => wpAny (model PRG w) A (letOwnedTupleGo target it v) (fun _ s₁' => wpAny (model PRG w) A (assign target env v) (fun _ s₂ =>
          wpAny (model PRG w) A (testsOf ifs env) (fun ok s₃ =>
            if ok = true then wpAny (model PRG w) A (eval elt env) (fun x s₄ =>
              wpAny (model PRG w) A (call (.builtin "list.append") [acc, x]) (fun _ s₅ => ∃ m, m < n ∧ I m s₅) (fun _ _ => False) s₄) (fun _ _ => False) s₃
            else ∃ m, m < n ∧ I m s₃) (fun _ _ => False) s₂) (fun _ _ => False) s₁') (fun _ _ => False) s₁) (fun _ _ => False) s)
    (n : Nat) (s : Shared) (h : I n s) : codeAny (model PRG w) A (.compLoop (.ListComp elt [⟨target, iter, ifs, 0⟩] scope pos) 0 it acc env) R s := by
  refine codeAny_loop rfl I (fun n s hI => ?_) n h
  show wpAny _ A ((compTurn (.ListComp elt [⟨target, iter, ifs, 0⟩] scope pos) 0 it acc env).onRaise (fun x => do noteFrame x env; theTreesLotGoes x)) _ _ s
  refine wpAny_noted ?_
  rw [compTurn_list]
  refine wpAny_bind (wpAny_standAt (wpAny_bind (wpAny_mono (turn n s hI) (fun r s₁ h₁ => ?_) fun _ _ h' => h'.elim)))
  cases r with
  | none => exact wpAny_pure h₁
  | some v =>
    refine wpAny_bind (wpAny_mono h₁ (fun _ s₁' h₁' => ?_) fun _ _ h' => h'.elim)
    refine wpAny_bind (wpAny_mono h₁' (fun _ s₂ h₂ => wpAny_bind (wpAny_mono h₂ (fun ok s₃ h₃ => ?_) fun _ _ h' => h'.elim)) fun _ _ h' => h'.elim)
    cases ok with
    | false => exact wpAny_pure ⟨rfl, h₃⟩
    | true =>
      exact wpAny_bind (wpAny_bind (wpAny_mono h₃ (fun x s₄ h₄ => wpAny_bind (wpAny_mono h₄ (fun _ s₅ h₅ => wpAny_pure (wpAny_pure ⟨rfl, h₅⟩)) fun _ _ h' => h'.elim)) fun _ _ h' => h'.elim))
theorem comp_block {w : World} {A : Around} {env : Env} {elt target iter : Expr} {ifs : List Expr} {scope : Scope} {cl : List (Str × Addr)} {pos : Pos} {xv : Value} {s₁ : Shared} {E : Value → Shared → Prop} {Fin : Addr → Heap → Nat → Prop}
    {RR : Value → Addr → Result → Shared → Prop}
    (hcell : ∀ y ∈ scope.names, y.2 ≠ .cell) (hkind : scope.kind = .function)
    (g : CompGo w A env elt target ifs scope cl Fin xv s₁)
    (hRR : ∀ D C h tk m', s₁.heap.objs.size ≤ D → D < C → h.Ns C m' → (∀ h', Heap.SameBut C h h' → Fin D h' tk) → RR (.ref D) C (.ok .next) { s₁ with heap := h, toks := tk }) :
    wpAny (model PRG w) A (pyIter xv) (fun it s₂ => wpAny (model PRG w) A (newList []) (fun acc s₃ => wpAny (model PRG w) A (newFunctionEnv scope env.globals cl [] env.qual none .none (some env)) (fun cenv s₄ =>
      codeAny (model PRG w) A (.compStart (.ListComp elt [⟨target, iter, ifs, 0⟩] scope pos) 0 it acc { cenv with scope := relabel scope env }) (RR acc cenv.locals) s₄) E s₃) E s₂) E s₁ := by
  obtain ⟨b, S, src, n, P, J, hbs, LD, hsrc, hin, hsz, h0, turn, done⟩ := g
  refine hsrc _ _ fun h' I St hk hI hIlt hle hsr W st0 hex hgo => ?_
  refine wpAny_newObj_type (wpAny_newFunctionEnv hcell (by intro y hy; simp at hy) (fun h₁ hns₁ hsb₁ => ?_) hkind)
  dsimp only at hns₁ hsb₁ ⊢
  generalize hH2 : h'.push { cls := .type "list", dict := none, data := .seq ([] : List Value).toArray } = H2 at hns₁ hsb₁ ⊢
  have hD : h'.objs.size < H2.objs.size := by rw [← hH2, Heap.size_push]; exact Nat.lt_succ_self _
  generalize hDv : h'.objs.size = D at hD ⊢
  generalize hCv : H2.objs.size = C at hD hns₁ hsb₁ ⊢
  have hID : I < D := hDv ▸ hIlt
  have hIC : I < C := Nat.lt_trans hID hD
  have old : ∀ a o, h'.get? a = some o → h₁.get? a = some o := fun a o e => hsb₁.extBut a o (Nat.ne_of_lt (Nat.lt_trans (hDv ▸ Heap.lt_size e) hD)) (Heap.get?_push_of_some _ (hH2 ▸ Heap.get?_push_of_some _ e))
  have hsub : b.StaysIn h₁ := fun a o e => old a o (hk a o (LD.sub a o e))
  have hbI : b.objs.size ≤ I := hI ▸ hbs
  have hbC : b.objs.size ≤ C := Nat.le_trans hbI (Nat.le_of_lt hIC)
  have fresh : ∀ a, b.objs.size ≤ a → b.get? a = none := fun a ha => Heap.get?_none_of_le ha
  have hacc : h₁.get? D = some (lst []) := by
    refine hsb₁.extBut _ _ (Nat.ne_of_lt hD) (Heap.get?_push_of_some _ ?_)
    rw [← hH2, ← hDv]; exact Heap.get?_push_size _ rfl
  have hst₁ : St 0 h₁ := W.frame _ _ _ st0 fun a _ o e => old a o e
  have hsrcI : ∀ a ∈ src, a ≠ I := fun a ha => Nat.ne_of_lt (hsr a ha)
  obtain ⟨m₀, hm₀⟩ : ∃ m₀, h₁.Ns C m₀ := ⟨_, hns₁⟩
  have hFr : ∀ {h : Heap} {m : Str → Option Value}, h.Ns C m → b.StaysIn h → Fr b C h m := fun hn hs => ⟨hn, hs, hbC⟩
  have offS : ∀ p ∈ S, p.1 < I := fun p hp => hI ▸ Heap.lt_size (LD.mem p hp).1
  have loop : ∀ s₃ : Shared, (∃ tk, s₃ = { s₁ with heap := h₁, toks := tk }) →
      codeAny (model PRG w) A (.compLoop (.ListComp elt [⟨target, iter, ifs, 0⟩] scope pos) 0 (.ref I) (.ref D) (compEnvC scope cl C env)) (RR (.ref D) C) s₃ := by
    rintro s₃ ⟨tk₀, rfl⟩
    refine compLoop_any
      (CompInv b C I D St J n s₁) ?_ (n + 1) _
      (.mk h₁ tk₀ m₀ [] S 0 hst₁ (hFr hm₀ hsub) ?_ (fun p hp => ⟨Nat.ne_of_lt (offS p hp), Nat.ne_of_lt (Nat.lt_trans (offS p hp) hID)⟩) h0 (Nat.zero_le _) (Nat.zero_le _))
    · rintro k s' ⟨h₂, tk, m₂, ys, S₂, i, hst, F₂, N₂, hS₂, hJ, hyl, hi⟩
      have next : ∀ h₃ : Heap, (∀ a o, a ∉ [I] → h₂.get? a = some o → h₃.get? a = some o) → Fr b C h₃ m₂ ∧ News b C h₃ ((D, lst ys) :: S₂) := fun h₃ hk₃ =>
        ⟨⟨F₂.ns.at' fun o e => hk₃ _ o (by simpa using (Nat.ne_of_lt hIC).symm) e, fun a o e => hk₃ a o (fun hb => by rw [List.mem_singleton.mp hb, fresh I hbI] at e; cases e) (F₂.keep a o e), F₂.above⟩,
          fun p hp => ⟨hk₃ _ _ (by
            rcases List.mem_cons.mp hp with rfl | q
            · simpa using (Nat.ne_of_lt hID).symm
            · simpa using (hS₂ p q).1) (N₂ p hp).1, (N₂ p hp).2⟩⟩
      by_cases hlt : i < n
      · refine W.item i _ _ _ hlt hst fun v h₃ tk₃ hP hst₃ hk₃ => ?_
        obtain ⟨F₃, N₃⟩ := next h₃ hk₃
        obtain ⟨oI, heI⟩ := hex _ _ hst₃
        refine hgo (i + 1) _ v _ _ hst₃ ?_
        have N₃' : News b C h₃ ((I, oI) :: (D, lst ys) :: S₂) := fun p hp => by
          rcases List.mem_cons.mp hp with rfl | hp
          · exact ⟨heI, Nat.ne_of_lt hIC, fresh _ hbI⟩
          · exact N₃ p hp
        have keepSt : ∀ {h₄ : Heap} {S₄ : List (Addr × Obj)} {m₄ : Str → Option Value} {ys' : List Value}, Fr b C h₄ m₄ → News b C h₄ ((I, oI) :: (D, lst ys') :: S₄) → St (i + 1) h₄ := fun F₄ N₄ => W.frame _ _ _ hst₃ fun a ha o e => by
          rcases List.mem_cons.mp ha with rfl | ha
          · rw [heI] at e; cases e
            exact (N₄ _ (List.mem_cons_self)).1
          · obtain ⟨o', e'⟩ := hin a ha
            have := F₃.keep a o' e'; rw [e] at this; cases this
            exact F₄.keep a _ e'
        refine wpAny_mono (turn i v ys S₂ I oI D C h₃ tk₃ m₂ hlt hP hJ hyl F₃ N₃' hS₂ hID hD (Nat.le_of_eq hI.symm) _ (fun _ _ x => x) _ (fun _ x => x)) (fun _ s₂ h₂' => wpAny_mono h₂' (fun ok s₃ h₃' => ?_) fun _ _ x => x) fun _ _ x => x
        cases ok with
        | false =>
          simp only [Bool.false_eq_true, if_false] at h₃' ⊢
          obtain ⟨h₄, tk₄, m₄, S₄, F₄, N₄, hS₄, hJ₄⟩ := h₃'
          exact ⟨n + 1 - (i + 1), by omega, .mk h₄ tk₄ m₄ ys S₄ (i + 1) (keepSt F₄ N₄) F₄ (fun p hp => N₄ p (List.mem_cons_of_mem _ hp)) hS₄ hJ₄ (Nat.le_succ_of_le hyl) hlt⟩
        | true =>
          simp only [if_true] at h₃' ⊢
          refine wpAny_mono h₃' (fun y s₄ h₄' => ?_) fun _ _ x => x
          obtain ⟨h₄, tk₄, m₄, S₄, F₄, N₄, hS₄, hJ₄⟩ := h₄'
          refine append_at (hsz := by show ys.toArray.size ≤ sizeLine; rw [List.size_toArray]; exact Nat.le_trans hyl (Nat.le_trans hi hsz)) (N₄ (D, lst ys) (List.mem_cons_of_mem _ List.mem_cons_self)).1 fun h₅ hs₅ hD₅ => ?_
          refine ⟨n + 1 - (i + 1), by omega, .mk h₅ tk₄ m₄ (ys ++ [y]) S₄ (i + 1) ?_ (F₄.change hs₅ (Nat.ne_of_lt hD) (fresh _ (Nat.le_trans hbI (Nat.le_of_lt hID)))) ?_ hS₄ hJ₄ (by rw [List.length_append, List.length_singleton]; omega) hlt⟩
          · refine W.frame _ _ _ (keepSt F₄ N₄) fun a ha o e => hs₅.extBut a o (fun q => ?_) e
            rcases List.mem_cons.mp ha with rfl | ha
            · exact Nat.ne_of_lt hID q
            · obtain ⟨o', e'⟩ := hin a ha
              have := Heap.lt_size e'
              have h6 : b.objs.size ≤ D := Nat.le_trans hbI (Nat.le_of_lt hID)
              rw [q] at this
              exact absurd this (Nat.not_lt.mpr h6)
          · intro p hp
            rcases List.mem_cons.mp hp with rfl | hp
            · exact ⟨hD₅.trans (congrArg some (lst_snoc ys y)), Nat.ne_of_lt hD, fresh _ (Nat.le_trans hbI (Nat.le_of_lt hID))⟩
            · have z := N₄ p (List.mem_cons_of_mem _ (List.mem_cons_of_mem _ hp))
              exact ⟨hs₅.extBut _ _ (hS₄ p hp).2 z.1, z.2⟩
      · have hin' : i = n := by omega
        subst hin'
        refine W.done _ _ _ hst fun h₃ tk₃ hk₃ => ?_
        obtain ⟨F₃, N₃⟩ := next h₃ hk₃
        refine hRR D C h₃ tk₃ m₂ (Nat.le_trans (Nat.le_of_eq hI.symm) (Nat.le_of_lt hID)) hD F₃.ns fun h₄ hs₄ => done ys S₂ D h₄ tk₃ hJ hyl ⟨fun a o e => hs₄.extBut a o (fun q => by rw [q, fresh C hbC] at e; cases e) (F₃.keep a o e), fun p hp => ⟨hs₄.extBut _ _ (N₃ p hp).2.1 (N₃ p hp).1, (N₃ p hp).2.2⟩⟩ (fun p hp => (hS₂ p hp).2) (Nat.le_trans (Nat.le_of_eq hI.symm) (Nat.le_of_lt hID))
    · intro p hp
      rcases List.mem_cons.mp hp with rfl | hp
      · exact ⟨hacc, Nat.ne_of_lt hD, fresh _ (Nat.le_trans hbI (Nat.le_of_lt hID))⟩
      · exact ⟨old _ _ (hk _ _ (LD.mem p hp).1), Nat.ne_of_lt (Nat.lt_trans (offS p hp) hIC), (LD.mem p hp).2⟩
  exact codeAny_compStart_list (loop _ ⟨_, rfl⟩) (W.self 0 _ _ _ hst₁ (loop _ ⟨_, rfl⟩))
theorem comp_S {w : World} {A : Around} {s : Shared} {env : Env} {elt target iter : Expr} {ifs : List Expr} {scope : Scope} {cl : List (Str × Addr)} {pos : Pos} {Q : Value → Shared → Prop} {E : Value → Shared → Prop}
    (hclos : closureFor scope env = pure cl) (hcell : ∀ y ∈ scope.names, y.2 ≠ .cell) (hkind : scope.kind = .function)
    (hnames : ∀ y ∈ scope.names, y.2 = .local → scope.names.lookup y.1 = some .local) (hs : ∀ x, foldedSetIterable iter env x = pure x)
    (h : wpAny (model PRG w) A (eval iter env) (fun xv s₁ => CompGo w A env elt target ifs scope cl (fun D h tk => Q (.ref D) { s₁ with heap := h, toks := tk }) xv s₁) E s) :
    wpAny (model PRG w) A (eval (.ListComp elt [⟨target, iter, ifs, 0⟩] scope pos) env) Q E s := by
  rw [eval_ListComp]
  refine wpAny_comprehension_free (use := none) rfl hs hclos hkind hnames (wpAny_mono h (fun xv s₁ h₁ => ?_) fun _ _ e => e)
  refine comp_block hcell hkind h₁ fun D C h tk m' hD hC hn k => ?_
  exact ⟨m', hn, fun h' hs' => k h' hs'⟩
theorem compA_S {w : World} {A : Around} {s : Shared} {env : Env} {elt target iter : Expr} {y : Str} {py : Pos} {ifs : List Expr} {scope : Scope} {cl : List (Str × Addr)} {pos spos : Pos} {Q : Flow → Shared → Prop} {E : Value → Shared → Prop}
    (hsw : swapsWith (.ListComp elt [⟨target, iter, ifs, 0⟩] scope pos) (some (.Name y py)) spos.line env = pure true)
    (hclos : closureFor scope env = pure cl) (hcell : ∀ y ∈ scope.names, y.2 ≠ .cell) (hkind : scope.kind = .function)
    (hnames : ∀ y ∈ scope.names, y.2 = .local → scope.names.lookup y.1 = some .local) (hs : ∀ x, foldedSetIterable iter env x = pure x)
    (hy : env.kindOf y = some .local) (hp : (env.scope.kind == .class || (env.scope.kind == .module && env.locals != env.globals)) = false)
    (h : wpAny (model PRG w) A (eval iter env) (fun xv s₁ => CompGo w A env elt target ifs scope cl (fun D h tk => env.locals < s₁.heap.objs.size ∧ (∃ m, h.Ns env.locals m) ∧ ∀ h' m, h.Ns env.locals m → h'.Ns env.locals (fun z => if z = y then some (.ref D) else m z) → Heap.SameBut env.locals h h' → Q .next { s₁ with heap := h', toks := tk + 1 }) xv s₁) E s) :
    wpAny (model PRG w) A (exec (.Assign [.Name y py] (.ListComp elt [⟨target, iter, ifs, 0⟩] scope pos) spos) env) Q E s := by
  rw [exec_Assign_Name_used _ _ _ _ hsw]
  refine wpAny_bind (wpAny_standAt (wpAny_bind ?_))
  show wpAny _ A (do let _ ← comprehension (.ListComp elt [⟨target, iter, ifs, 0⟩] scope pos) scope env _ (newList []) false (eval iter env) (some (assign (.Name y py) env))) _ _ s
  refine wpAny_bind (wpAny_mono (wpAny_comprehension_free (use := some (assign (.Name y py) env)) (Q := fun _ s' => Q .next s') rfl hs hclos hkind hnames
    (wpAny_mono h (fun xv s₁ h₁ => ?_) fun _ _ e => e)) (fun _ s' hq => wpAny_pure (wpAny_pure hq)) fun _ _ e => e)
  refine comp_block hcell hkind h₁ fun D C h tk m' hD hC hn k => ?_
  show wpAny _ A (assign (.Name y py) env (.ref D)) _ _ _
  obtain ⟨hlt, ⟨m, hm⟩, _⟩ := k h ⟨rfl, fun _ _ => rfl⟩
  have hLC : env.locals ≠ C := Nat.ne_of_lt (Nat.lt_of_lt_of_le hlt (Nat.le_trans hD (Nat.le_of_lt hC)))
  refine wpAny_assign_Name (wpAny_storeName_local hy hm (fun h₂ hn₂ hs₂ => ?_) hp)
  refine ⟨m', hn.sameBut hs₂ hLC.symm, fun h'' hs'' => ?_⟩
  obtain ⟨oL, es, ep, hoL, hrest⟩ := id hm
  have hL'' := hn₂.sameBut hs'' hLC
  obtain ⟨oL', _, _, hoL', _⟩ := id hL''
  have hfr : oL.isFreed = false := Obj.isFreed_of_dict hrest.1
  have gL : (h''.update env.locals (fun _ => oL)).get? env.locals = some oL := Heap.get?_update_self _ hoL' hfr
  have gN : ∀ a, a ≠ env.locals → (h''.update env.locals (fun _ => oL)).get? a = h''.get? a := fun a ha => Heap.get?_update_ne _ _ _ _ ha
  have sb : Heap.SameBut C h (h''.update env.locals (fun _ => oL)) := by
    refine ⟨?_, fun a ha => ?_⟩
    · rw [(Heap.SameBut.update h'' env.locals _).1, hs''.1, hs₂.1]
    · by_cases q : a = env.locals
      · rw [q, gL, hoL]
      · rw [gN a q, hs''.2 a ha, hs₂.2 a q]
  exact (k _ sb).2.2 h'' m ⟨oL, es, ep, gL, hrest⟩ hL'' ⟨(Heap.SameBut.update h'' env.locals _).1.symm, fun a ha => (gN a ha).symm⟩
/-! ## names in a comprehension's block -/
def CellAt (h : Heap) (c : Addr) (v : Value) : Prop := ∃ o, h.get? c = some o ∧ o.data = .cell (some v)
section
variable {w : World} {A : Around} {E : Value → Shared → Prop} {s : Shared} {b : Heap} {C : Addr} {m : Str → Option Value} {news : List (Addr × Obj)} {env : Env}
theorem assign_any {x : Str} {p : Pos} {v : Value} {Q : Unit → Shared → Prop} (F : Fr b env.locals s.heap m) (N : News b env.locals s.heap news) (hx : env.kindOf x = some .local)
    (hp : (env.scope.kind == .class || (env.scope.kind == .module && env.locals != env.globals)) = false)
    (k : ∀ h', Fr b env.locals h' (mput x (some v) m) → News b env.locals h' news → Q () { s with heap := h', toks := s.toks + 1 }) :
    wpAny (model PRG w) A (assign (.Name x p) env v) Q E s :=
  wpAny_assign_Name (wpAny_storeName_local hx F.ns (fun h' hn hs => k h' (F.set hn hs) (N.set hs)) hp)
theorem name_any_L {x : Str} {p : Pos} {v : Value} {Q : Value → Shared → Prop} (F : Fr b env.locals s.heap m) (hv : m x = some v) (h : Q v s) (hk : env.scope.kind = .function) (hx : env.kindOf x = some .local) (hd : (x == ("__debug__" : Str)) = false) :
    wpAny (model PRG w) A (eval (.Name x p) env) Q E s := wpAny_Name (wpAny_loadName_local hk hx F.ns hv h) hd
theorem name_any_C {x : Str} {p : Pos} {c : Addr} {v : Value} {Q : Value → Shared → Prop} (F : Fr b C s.heap m) (hl : env.cells.lookup x = some c) (H : CellAt b c v) (h : Q v s) (hk : env.scope.kind = .function) (hx : env.kindOf x = some .cell) (hd : (x == ("__debug__" : Str)) = false) :
    wpAny (model PRG w) A (eval (.Name x p) env) Q E s := by
  obtain ⟨o, ho, hdat⟩ := H
  exact wpAny_Name (wpAny_loadName_cell hk hx hl ⟨o, F.keep _ _ ho, hdat⟩ h) hd
end
section
variable {w : World} {A : Around} {E : Value → Shared → Prop} {s : Shared}
theorem list_ne_nil {a b : Addr} {vs : List Value} {Q : Value → Shared → Prop} (hl : s.heap.IsList a vs.toArray) (hb : s.heap.IsList b #[]) (hu : A.units < cLine) (h : Q (.bool (!vs.isEmpty)) s) :
    wpAny (model PRG w) A (compareOp .NotEq (.ref a) (.ref b)) Q E s := by
  cases vs with
  | nil =>
    exact PySem.SeqAt.RcNeAt.lists (e := fun _ => true) hl hb rfl hu (fun j h1 _ => absurd h1 (by simp)) PRG w E Q h
  | cons v r => exact PySem.SeqAt.RcNeAt.lists_lengths hl hb (by simp) hu PRG w E Q h
theorem list_eq_nil {a b : Addr} {vs : List Value} {Q : Value → Shared → Prop} (hl : s.heap.IsList a vs.toArray) (hb : s.heap.IsList b #[]) (hu : A.units < cLine) (h : Q (.bool vs.isEmpty) s) :
    wpAny (model PRG w) A (compareOp .Eq (.ref a) (.ref b)) Q E s := by
  cases vs with
  | nil => exact PySem.SeqAt.eq_listAt (e := fun _ => true) hl hb rfl hu (fun j h1 _ => absurd h1 (by simp)) h
  | cons v r => exact PySem.SeqAt.eq_list_lengthsAt hl hb (by simp) hu h
end
/-- a call of a def with cells -/
theorem call_SC {w : World} {A : Around} {s : Shared} {b : Heap} {S : List (Addr × Obj)} {mean : ExcName → Option Value} {mg mb : Str → Option Value}
    {R : Result → Shared → Prop} {name qual : Str} {params : Arguments} {body : List Stmt} {scope : Scope} {dV kV doc pm cdv ct oc : Value} {an od : Option Addr} {osl : Array (Option Value)} {f : Addr} {args : Args} {binds : List (Str × Value)}
    (LD : Led b s.heap S) (hbs : b.objs.size ≤ s.heap.objs.size) (C : Cx w mean mg mb b) (hroom : A.depth < recursionLimit)
    (ho : (hd.heap_39 w.params).lookup f = some ⟨oc, od, .func (fnOf name qual params body scope dV kV doc pm an cdv ct), osl⟩) (hcd : codeIn (hd.heap_39 w.params) cdv qual = true)
    (hbind : BindsTo s (fnOf name qual params body scope dV kV doc pm an cdv ct) args binds)
    (hkind : (binds.all fun y => scope.names.lookup y.1 == some .local || scope.names.lookup y.1 == some .cell) = true)
    (hnd : ((cellsFrom 0 scope.names []).map (·.1)).Nodup)
    (h : ∀ L' h₁ tk cells, Fr b L' h₁ (bindL (envOfC qual scope L' f cdv).kindOf binds fun _ => none) → News b L' h₁ (cells ++ S) →
      CellsAre (bindC (envOfC qual scope L' f cdv).kindOf binds fun _ => none) (cellsFrom (L' + 1) scope.names []) cells → (∀ p ∈ S, p.1 < L') → s.heap.objs.size ≤ L' →
      wpAny (model PRG w) (A.deeper (envOfC qual scope L' f cdv)) (execs body (envOfC qual scope L' f cdv))
        (fun fl s' => R (.ok (.ret (match fl with | .ret v => v | _ => .none))) s') (fun _ _ => False)
        { s with heap := h₁, toks := tk })
    (hco : scope.isCoroutine = false := by rfl) (hgen : scope.isGenerator = false := by rfl) (hk : scope.kind = .function := by rfl) : codeAny (model PRG w) A (.call (.ref f) args) R s := by
  refine codeAny_call_function hroom (LD.sub _ _ (C.X _ _ ho)) rfl hco hgen rfl (codeRec_of (C.X.keeps LD.sub) hcd) (hbind _ _ _ _ ?_)
  refine wpAny_newFunctionEnv_cells hk (kindsX hkind _) fun env' he s' x => ?_
  subst he
  refine ⟨(C.T.nolimit.keeps LD.sub).keeps x.toInCall.keep, codeAny_func ?_⟩
  obtain ⟨h₁, tk, rfl, _⟩ := x.done
  have hk₁ := x.toInCall.keep
  obtain ⟨cells, NC, Y⟩ := Cl.news (h₀ := s.heap) (Nat.le_refl _) fun n c hm => ⟨x.cell n c (lookup_of_mem_nodup (cellsFrom_names scope.names 0 (s.heap.objs.size + 1) [] [] rfl ▸ hnd) hm), x.above n c hm⟩
  refine wpAny_mono (h s.heap.objs.size h₁ tk cells ⟨x.toInCall.ns, fun b' o e => hk₁ b' o (LD.sub b' o e), hbs⟩ (fun p hp => ?_) Y (fun p hp => Heap.lt_size (LD.mem p hp).1) (Nat.le_refl _)) (fun _ _ x => x) (fun _ _ x => x.elim)
  rcases List.mem_append.mp hp with hp | hp
  · refine ⟨(NC p hp).1, (NC p hp).2.1, ?_⟩
    cases q : b.get? p.1 with
    | none => rfl
    | some o => have := LD.sub _ _ q; rw [(NC p hp).2.2] at this; cases this
  · exact ⟨hk₁ _ _ (LD.mem p hp).1, Nat.ne_of_lt (Heap.lt_size (LD.mem p hp).1), (LD.mem p hp).2⟩
/-- a store to a local, its map written short -/
theorem store_M {cn : Str} {cs : Scope} {ccd : Value} {cl : List (Str × Addr)} {prog : Program} {w : World} {A : Around} {s : Shared} {h₀ : Heap} {L a : Addr} {m : Str → Option Value} {news : List (Addr × Obj)} {x : Str} {v : Value} {Q : Unit → Shared → Prop} {E : Value → Shared → Prop} (F : Fr h₀ L s.heap m) (N : News h₀ L s.heap news)
    (h : ∀ h', Fr h₀ L h' (mput x (some v) m) → News h₀ L h' news → Q () { s with heap := h', toks := s.toks + 1 })
    (hk : cs.kind = .function := by rfl) (hx : (envX cn cs L a ccd cl).kindOf x = some .local := by rfl) : wpAny (model prog w) A (storeName (envX cn cs L a ccd cl) x v) Q E s := storeX_L F N h hk hx
/-- statements, one behind the other -/
def Sq (M : Model) (A : Around) (rest : List Stmt) (env : Env) (Q : Flow → Shared → Prop) (E : Value → Shared → Prop) : Flow → Shared → Prop := fun f s' => match f with | .next => wpAny M A (execs rest env) Q E s' | f => Q f s'
section
variable {M : Model} {A : Around} {st : Stmt} {rest : List Stmt} {env : Env} {Q : Flow → Shared → Prop} {E : Value → Shared → Prop} {s : Shared} {v : Value}
theorem sq_cons (h : wpAny M A (exec st env) (Sq M A rest env Q E) E s) : wpAny M A (execs (st :: rest) env) Q E s := wpAny_execs_cons h
theorem sq_next (h : wpAny M A (execs rest env) Q E s) : Sq M A rest env Q E .next s := h
theorem sq_ret (h : Q (.ret v) s) : Sq M A rest env Q E (.ret v) s := h
theorem sq_brk (h : Q .brk s) : Sq M A rest env Q E .brk s := h
theorem sq_cont (h : Q .cont s) : Sq M A rest env Q E .cont s := h
end
end
section
open PyProof.Rows.LCg
set_option maxHeartbeats 1000000
theorem sorted_eq {ns ms : List Int} (hp : ns.Perm ms) (h1 : ns.Pairwise (· ≤ ·)) (h2 : ms.Pairwise (· ≤ ·)) : ns = ms :=
  List.Perm.eq_of_pairwise (fun a b _ _ x y => Int.le_antisymm x y) h1 h2 hp
theorem asc_le {ns : List Int} (h : ns.Pairwise (· < ·)) : ns.Pairwise (· ≤ ·) := h.imp Int.le_of_lt
theorem ints_of_keys : ∀ {vs : List Value} {kvs : List (Int × Value)}, vs.length = kvs.length → (∀ (j : Nat) (v : Value), vs[j]? = some v → ∃ k y, kvs[j]? = some (k, y) ∧ ∃ t : Tok, v = Value.int k t) → IntsAre vs (kvs.map (·.1))
  | [], [], _, _ => .nil
  | v :: vs, kv :: kvs, hl, h => by
    obtain ⟨k, y, e, t, rfl⟩ := h 0 v rfl
    cases e
    exact .cons k t (ints_of_keys (Nat.succ.inj hl) fun j v e => h (j + 1) v e)
section
variable {w : World} {A : Around} {E : Value → Shared → Prop} {s : Shared} {h₀ : Heap} {L : Addr} {m : Str → Option Value} {news : List (Addr × Obj)}
theorem sorted_list {l : Addr} {vs : List Value} {ns : List Int} {Q : Value → Shared → Prop} (F : Fr h₀ L s.heap m) (N : News h₀ L s.heap news) (hl : s.heap.IsList l vs.toArray) (hi : IntsAre vs ns) (h64 : ns.length < 64) (hasc : ns.Pairwise (· < ·))
    (h : ∀ D vs' c h', Fr h₀ L h' m → News h₀ L h' ((D, PySem.W.listOf vs'.toArray c) :: news) → (∀ q ∈ news, q.1 < D) → IntsAre vs' ns → Q (.ref D) { s with heap := h' }) :
    wpAny (model PRG w) A (call (.builtin "sorted") [.ref l]) Q E s :=
  kso_sorted F N hl hi h64 fun D vs' ns' c h' F' N' l1 hi' _ hp hs _ => h D vs' c h' F' N' l1 (sorted_eq hp hs (asc_le hasc) ▸ hi')
theorem sorted_dict {d : Addr} {kvs : List (Int × Value)} {Q : Value → Shared → Prop} (hh : A.handled = none) (F : Fr h₀ L s.heap m) (N : News h₀ L s.heap news) (lo : (d == sysModules) = false) (hm : s.heap.DictOf (PySem.intKind PRG w) d kvs) (h64 : kvs.length < 64) (hasc : (kvs.map (·.1)).Pairwise (· < ·))
    (h : ∀ D vs c h' tk, Fr h₀ L h' m → News h₀ L h' ((D, PySem.W.listOf vs.toArray c) :: news) → (∀ q ∈ news, q.1 < D) → IntsAre vs (kvs.map (·.1)) → Q (.ref D) { s with heap := h', toks := tk }) :
    wpAny (model PRG w) A (call (.builtin "sorted") [.ref d]) Q E s := by
  obtain ⟨ep, ha⟩ := hm.dictAt
  refine kdu_sorted (kdl_dict (knd := PySem.intKind PRG w) (kvs := kvs) (ep := ep) lo) hh F N ha (Nat.le_trans (Nat.le_of_lt h64) (by decide)) fun D h' tk vs F' N' l1 hl hP => ?_
  have hi : IntsAre vs (kvs.map (·.1)) := ints_of_keys hl fun j v e => by
    obtain ⟨k, y, e1, e2⟩ := hP j v e
    refine ⟨k, y, e1, ?_⟩
    cases v with
    | int i t => exact ⟨t, by rw [show i = k from (PySem.intKind PRG w).inj (.int i t) i k (intKind_is _ _ _ _) e2]⟩
    | _ => cases e2
  refine ksk_lsort (news' := fun o => (D, o) :: news) F' N' (fun o => .head fun p hp => Nat.ne_of_lt (l1 p hp)) (List.toList_toArray) hi (by rw [List.length_map]; exact h64) fun vs' ns' c h'' F'' N'' hi' _ hp hs _ => ?_
  exact h D vs' c h'' tk F'' N'' l1 (sorted_eq hp hs (asc_le hasc) ▸ hi')
theorem list_dict {d : Addr} {kvs : List (Int × Value)} {Q : Value → Shared → Prop} (hh : A.handled = none) (F : Fr h₀ L s.heap m) (N : News h₀ L s.heap news) (lo : (d == sysModules) = false) (hm : s.heap.DictOf (PySem.intKind PRG w) d kvs) (h64 : kvs.length < 64)
    (h : ∀ D vs c h' tk, Fr h₀ L h' m → News h₀ L h' ((D, PySem.W.listOf vs.toArray c) :: news) → (∀ q ∈ news, q.1 < D) → IntsAre vs (kvs.map (·.1)) → Q (.ref D) { s with heap := h', toks := tk }) :
    wpAny (model PRG w) A (call (.type "list") [.ref d]) Q E s := by
  obtain ⟨ep, ha⟩ := hm.dictAt
  refine kdl_N (kdl_dict (knd := PySem.intKind PRG w) (kvs := kvs) (ep := ep) lo) hh F N ha (Nat.le_trans (Nat.le_of_lt h64) (by decide)) fun D c h' tk vs F' N' l1 hl hP => h D vs c h' tk F' N' l1 (ints_of_keys hl fun j v e => ?_)
  obtain ⟨k, y, e1, e2⟩ := hP j v e
  refine ⟨k, y, e1, ?_⟩
  cases v with
  | int i t => exact ⟨t, by rw [show i = k from (PySem.intKind PRG w).inj (.int i t) i k (intKind_is _ _ _ _) e2]⟩
  | _ => cases e2
end
section
variable {w : World} {A : Around} {E : Value → Shared → Prop} {s : Shared} {env : Env} {b : Heap} {m : Str → Option Value} {news : List (Addr × Obj)}
theorem assign2 {x y : Str} {px py tp : Pos} {kk : Nat} {T : Addr} {u v : Value} {Q : Unit → Shared → Prop} (hh : A.handled = none) (F : Fr b env.locals s.heap m) (N : News b env.locals s.heap news) (ht : IsTup s.heap T [u, v].toArray)
    (hx : env.kindOf x = some .local) (hy : env.kindOf y = some .local) (hp : (env.scope.kind == .class || (env.scope.kind == .module && env.locals != env.globals)) = false)
    (k : ∀ h' tk, Fr b env.locals h' (fun z => if z = y then some v else if z = x then some u else m z) → News b env.locals h' news → Q () { s with heap := h', toks := tk }) :
    wpAny (model PRG w) A (assign (.Tuple [.Name x px, .Name y py] kk tp) env (.ref T)) Q E s := by
  refine unpackN_ F N ht hh rfl rfl fun h₁ F₁ N₁ => ?_
  show wpAny _ _ (assignInOrder [assign (.Name x px) env, assign (.Name y py) env] [u, v]) _ _ _
  refine assignInOrder_cons (assign_any F₁ N₁ hx hp fun h₂ F₂ N₂ => assignInOrder_cons (assign_any F₂ N₂ hy hp fun h₃ F₃ N₃ => assignInOrder_nil (k _ _ F₃ N₃)))
theorem assign3 {x y z : Str} {px py pz tp : Pos} {kk : Nat} {T : Addr} {u v r : Value} {Q : Unit → Shared → Prop} (hh : A.handled = none) (F : Fr b env.locals s.heap m) (N : News b env.locals s.heap news) (ht : IsTup s.heap T [u, v, r].toArray)
    (hx : env.kindOf x = some .local) (hy : env.kindOf y = some .local) (hz : env.kindOf z = some .local) (hp : (env.scope.kind == .class || (env.scope.kind == .module && env.locals != env.globals)) = false)
    (k : ∀ h' tk, Fr b env.locals h' (fun n => if n = z then some r else if n = y then some v else if n = x then some u else m n) → News b env.locals h' news → Q () { s with heap := h', toks := tk }) :
    wpAny (model PRG w) A (assign (.Tuple [.Name x px, .Name y py, .Name z pz] kk tp) env (.ref T)) Q E s := by
  refine unpackN_ F N ht hh rfl rfl fun h₁ F₁ N₁ => ?_
  show wpAny _ _ (assignInOrder [assign (.Name x px) env, assign (.Name y py) env, assign (.Name z pz) env] [u, v, r]) _ _ _
  refine assignInOrder_cons (assign_any F₁ N₁ hx hp fun h₂ F₂ N₂ => assignInOrder_cons (assign_any F₂ N₂ hy hp fun h₃ F₃ N₃ => assignInOrder_cons (assign_any F₃ N₃ hz hp fun h₄ F₄ N₄ => assignInOrder_nil (k _ _ F₄ N₄))))
end
/-! ## rows: what is kept of packets, as tuples -/
structure Pkt where
  num : Int
  time : Int
  size : Int
  kind : Bool
def tupO (vs : List Value) (n : Nat) : Obj := { cls := .type "tuple", data := .seq vs.toArray n }
def RowAt (h : Heap) (v : Value) (p : Pkt) : Prop := ∃ t nt t1 t2, v = .ref t ∧ h.get? t = some (tupO [.int p.time t1, .int p.size t2, .bool p.kind, .bool p.kind] nt)
def RowsAt (h : Heap) (kvs : List (Int × Value)) (ps : List Pkt) : Prop := Paired (fun kv p => kv.1 = p.num ∧ RowAt h kv.2 p) kvs ps
theorem RowAt.keeps {h h' : Heap} {v : Value} {p : Pkt} (x : RowAt h v p) (k : ∀ b o, h.get? b = some o → h'.get? b = some o) : RowAt h' v p := by
  obtain ⟨t, nt, t1, t2, rfl, e⟩ := x; exact ⟨t, nt, t1, t2, rfl, k _ _ e⟩
theorem Paired.mono {α β : Type} {F G : α → β → Prop} (h : ∀ a b, F a b → G a b) : ∀ {l : List α} {r : List β}, Paired F l r → Paired G l r
  | _, _, .nil => .nil
  | _, _, .cons a b => .cons (h _ _ a) (Paired.mono h b)
theorem RowsAt.keeps {h h' : Heap} {kvs : List (Int × Value)} {ps : List Pkt} (x : RowsAt h kvs ps) (k : ∀ b o, h.get? b = some o → h'.get? b = some o) : RowsAt h' kvs ps := Paired.mono (fun _ _ y => ⟨y.1, y.2.keeps k⟩) x
theorem Paired.get {α β : Type} {F : α → β → Prop} : ∀ {l : List α} {r : List β}, Paired F l r → ∀ {i : Nat} {b : β}, r[i]? = some b → ∃ a, l[i]? = some a ∧ F a b
  | _, _, .cons a _, 0, _, e => by cases e; exact ⟨_, rfl, a⟩
  | _, _, .cons _ t, i + 1, b, e => Paired.get t (i := i) (b := b) (by simpa using e)
theorem Paired.get' {α β : Type} {F : α → β → Prop} : ∀ {l : List α} {r : List β}, Paired F l r → ∀ {i : Nat} {a : α}, l[i]? = some a → ∃ b, r[i]? = some b ∧ F a b
  | _, _, .cons a _, 0, _, e => by cases e; exact ⟨_, rfl, a⟩
  | _, _, .cons _ t, i + 1, b, e => Paired.get' t (i := i) (a := b) (by simpa using e)
theorem RowsAt.keys {h : Heap} {kvs : List (Int × Value)} {ps : List Pkt} (x : RowsAt h kvs ps) : kvs.map (·.1) = ps.map (·.num) := by
  induction x with
  | nil => rfl
  | cons a _ ih => rw [List.map_cons, List.map_cons, ih, a.1]
/-- the row of a packet by its number -/
theorem valueAt_of_nodup {kvs : List (Int × Value)} (hn : (kvs.map (·.1)).Nodup) {i : Nat} {k : Int} {v : Value} (e : kvs[i]? = some (k, v)) : valueAt kvs k = some v := by
  induction kvs generalizing i with
  | nil => simp at e
  | cons kv kvs ih =>
    simp only [List.map_cons, List.nodup_cons] at hn
    unfold valueAt
    rw [List.find?_cons]
    cases i with
    | zero =>
      have e' : kv = (k, v) := by simpa using e
      subst e'; simp
    | succ i =>
      have e' : kvs[i]? = some (k, v) := by simpa using e
      have hne : ¬ kv.1 = k := fun q => hn.1 (by rw [q]; exact List.mem_map.mpr ⟨(k, v), List.mem_of_getElem? e', rfl⟩)
      rw [decide_eq_false hne]
      exact ih hn.2 e'
theorem asc_nodup {ns : List Int} (h : ns.Pairwise (· < ·)) : ns.Nodup := h.imp fun a e => by omega
theorem RowsAt.at {h : Heap} {kvs : List (Int × Value)} {ps : List Pkt} (x : RowsAt h kvs ps) (hn : (ps.map (·.num)).Nodup) {i : Nat} {p : Pkt} (e : ps[i]? = some p) : ∃ v, valueAt kvs p.num = some v ∧ RowAt h v p := by
  obtain ⟨⟨k, v⟩, e1, e2, e3⟩ := Paired.get x e
  dsimp only at e2 e3
  subst e2
  exact ⟨v, valueAt_of_nodup (x.keys ▸ hn) e1, e3⟩
section
variable {w : World} {A : Around} {E : Value → Shared → Prop} {s : Shared}
theorem item_D {d : Addr} {kvs : List (Int × Value)} {k : Int} {t : Tok} {v : Value} {value slice : PySem.Expr} {Q : Value → Shared → Prop} (hD : s.heap.DictOf (PySem.intKind PRG w) d kvs) (hl : valueAt kvs k = some v) (h : Q v { s with toks := s.toks + 1 })
    (hs : subscripted slice false (.ref d) (.int k t) = operate [.ref d, .int k t] (getItem (.ref d) (.int k t)) := by with_unfolding_all rfl) (hg : ∀ r, letTemporaryGo value (.ref d) r = pure () := by intro _; with_unfolding_all rfl) :
    wpAny (model PRG w) A (subscriptTail value slice (.ref d) (.int k t)) Q E s :=
  subscriptTail_builtin hD.typeIs slot_dict_getitem.lookup (wpAny_getItem_of (intKind_is _ _ _ _) hD.mapOf hl h) hs hg
theorem dict_base {b h : Heap} {L d : Addr} {m : Str → Option Value} {o : Obj} {kvs : List (Int × Value)} (F : Fr b L h m) (ho : b.get? d = some o) (hd : o.IsDictOf (PySem.intKind PRG w) kvs) : h.DictOf (PySem.intKind PRG w) d kvs := Heap.dictOf_iff.mpr ⟨o, F.keep _ _ ho, hd⟩
end
theorem item_DB {w : World} {A : Around} {E : Value → Shared → Prop} {s : Shared} {b : Heap} {L d : Addr} {m : Str → Option Value} {kvs : List (Int × Value)} {k : Int} {t : Tok} {v : Value} {value slice : PySem.Expr} {Q : Value → Shared → Prop} (F : Fr b L s.heap m) (hD : b.DictOf (PySem.intKind PRG w) d kvs) (hl : valueAt kvs k = some v) (h : Q v { s with toks := s.toks + 1 })
    (hs : subscripted slice false (.ref d) (.int k t) = operate [.ref d, .int k t] (getItem (.ref d) (.int k t)) := by with_unfolding_all rfl) (hg : ∀ r, letTemporaryGo value (.ref d) r = pure () := by intro _; with_unfolding_all rfl) :
    wpAny (model PRG w) A (subscriptTail value slice (.ref d) (.int k t)) Q E s := by
  obtain ⟨o, ho, hd⟩ := Heap.dictOf_iff.mp hD
  exact item_D (dict_base F ho hd) hl h hs hg
theorem dictOf_keeps {w : World} {b h : Heap} {d : Addr} {kvs : List (Int × Value)} (hD : b.DictOf (PySem.intKind PRG w) d kvs) (k : ∀ a o, b.get? a = some o → h.get? a = some o) : h.DictOf (PySem.intKind PRG w) d kvs := by
  obtain ⟨o, ho, hd⟩ := Heap.dictOf_iff.mp hD
  exact Heap.dictOf_iff.mpr ⟨o, k _ _ ho, hd⟩
theorem RowsAt.of_mem {h : Heap} {kvs : List (Int × Value)} {ps : List Pkt} (x : RowsAt h kvs ps) (hn : (ps.map (·.num)).Nodup) {p : Pkt} (e : p ∈ ps) : ∃ v, valueAt kvs p.num = some v ∧ RowAt h v p := by
  obtain ⟨i, hi, rfl⟩ := List.mem_iff_getElem.mp e
  exact x.at hn (i := i) (by simp [hi])
def newestStep (acc : Option Int) (p : Pkt) : Option Int := if p.kind then (match acc with | none => some p.time | some t => if p.time > t then some p.time else some t) else acc
def newest (qs : List Pkt) : Option Int := qs.foldl newestStep none
def octets (qs : List Pkt) : Int := ((qs.filter (·.kind)).map (·.size)).sum
/-- a tuple of two ints -/
def PairAt (h : Heap) (v : Value) (ab : Int × Int) : Prop := ∃ t nt t1 t2, v = .ref t ∧ h.get? t = some (tupO [.int ab.1 t1, .int ab.2 t2] nt)
def PairsAt (h : Heap) (vs : List Value) (abs : List (Int × Int)) : Prop := Paired (PairAt h) vs abs
theorem PairAt.keeps {h h' : Heap} {v : Value} {ab : Int × Int} (x : PairAt h v ab) (k : ∀ b o, h.get? b = some o → h'.get? b = some o) : PairAt h' v ab := by
  obtain ⟨t, nt, t1, t2, rfl, e⟩ := x; exact ⟨t, nt, t1, t2, rfl, k _ _ e⟩
theorem PairsAt.keeps {h h' : Heap} {vs : List Value} {abs : List (Int × Int)} (x : PairsAt h vs abs) (k : ∀ b o, h.get? b = some o → h'.get? b = some o) : PairsAt h' vs abs := Paired.mono (fun _ _ y => y.keeps k) x
theorem boolsAppend : ∀ {vs us : List Value} {bs cs : List Bool}, LSm.BoolsAre vs bs → LSm.BoolsAre us cs → LSm.BoolsAre (vs ++ us) (bs ++ cs)
  | _, _, _, _, .nil, h => h
  | _, _, _, _, .cons b h, h' => .cons b (boolsAppend h h')
/-! ## what detect_lost gives -/
def isLost (lg now delay : Int) (p : Pkt) : Bool := decide (lg ≥ p.num + 3 ∨ p.time + delay ≤ now)
def lostStep (lg now delay : Int) (acc : List Int × Option Int) (p : Pkt) : List Int × Option Int :=
  if p.num > lg then acc else if isLost lg now delay p then (acc.1 ++ [p.num], acc.2)
  else (acc.1, match acc.2 with | none => some (p.time + delay) | some t => if p.time + delay < t then some (p.time + delay) else some t)
def detect (la : Option Int) (now delay : Int) (ps : List Pkt) : List Int × Option Int := match la with
  | none => ([], none)
  | some lg => ps.foldl (lostStep lg now delay) ([], none)
end
theorem fill_JX (w : World) (s : Shared) : (hd.heap_39 w.params).In s.heap → model PySem.Challenge.rw_sj0119_01.row.prog w = model PySem.Challenge.rw_sj0119_01.row.prog w := by
  k_fill
  exact fun _ => rfl
local macro_rules | `(tactic| walk_at "m_open") => `(tactic| (
  (case k1 => exact Rm.room (by assumption)); (case k2 => k_is); (case k3 => k_is); (case k4 => exact BindsTo.of_eq rfl); (case k5 => exact locs rfl);
  (case c1 => exact rfl); (case c2 => exact rfl); (case c3 => exact rfl); (case c4 => decide)))
local macro_rules | `(tactic| k_room) => `(tactic| (first | exact Rm.room (by assumption) | exact Rm.room (Rm.deeper (by assumption) _)))
local macro_rules | `(tactic| k_inst) => `(tactic| (first | exact inst_keeps (by assumption) (Fr.keep (by k_asm)) | (refine' inst_mix ?hx ?F ?N ?hm; (case hx => assumption); (case F => k_asm); (case N => k_asm); (case hm => k_mem))))
local macro_rules | `(tactic| walk_at "m_ch") => `(tactic| ((repeat (with_reducible apply Ch.cons)); exact Ch.nil))
local macro_rules | `(tactic| walk_at "execs cons") => `(tactic| (k_here; (try k_gentoks); (with_reducible refine sq_cons ?_); (try dsimp only)))
local macro_rules | `(tactic| walk_at "Sq") => `(tactic| (first | refine sq_next ?_ | refine sq_ret ?_ | refine sq_brk ?_ | refine sq_cont ?_))
local macro_rules | `(tactic| walk_at "storeName") => `(tactic| (k_here; k_dflt (refine' store_M ?F ?N ?_ ?a ?b; (case F => k_asm); (case N => k_asm); (case a => rfl); (case b => rfl); k_whole; intro h' F' N'; (try k_sweep))))
local macro_rules | `(tactic| walk_at $k) => if ["eval ListComp", "exec Assign cons ListComp", "exec For", "exec For Name Call cons nil", "exec For Name Call cons", "exec For Name Name cons nil", "exec For Name Attribute cons nil", "exec For Tuple Name cons nil", "exec For Tuple", "compareOp Eq ref ref", "compareOp NotEq ref ref"].contains k.getString then `(tactic| (k_here; refine stop_in ?_)) else Lean.Macro.throwUnsupported
section
set_option maxHeartbeats 4000000 in
theorem is_lost_spec {w : World} {A : Around} {s : Shared} {mean mg mb} {R : Result → Shared → Prop} (C : Cx w mean mg mb s.heap) (hA : Rm A 0)
    {number sent_at largest now delay : Int} {t1 t2 t3 t4 t5 : Tok}
    (hR : ∀ v h' tk, s.heap.StaysIn h' → v = .bool (decide (largest ≥ number + 3 ∨ sent_at + delay ≤ now)) → R (.ok (.ret v)) {s with heap := h', toks := tk}) :
    codeAny (model PRG w) A (.call (.ref 35) ⟨[.int number t1, .int sent_at t2, .int largest t3, .int now t4, .int delay t5], []⟩) R s := by
  obtain ⟨d, f, g, u, rfl⟩ := hA.norm
  have X := C.X
  have T := C.T
  refine' call_S (binds := [(Str.ofString "number", .int number t1), (Str.ofString "sent_at", .int sent_at t2), (Str.ofString "largest", .int largest t3), (Str.ofString "now", .int now t4), (Str.ofString "delay", .int delay t5)]) (Led.refl _) (Nat.le_refl _) C ?k1 ?k2 ?k3 ?k4 ?k5 ?_ ?c1 ?c2 ?c3 ?c4
  walk_at "m_open"
  intro L' h₁ F N lt hL
  k_fold
  k_steps
  all_goals (refine hR _ _ _ (Fr.keep (by assumption)) ?_)
  · rw [decide_eq_true (by omega), decide_eq_true (by omega)]
  · exact congrArg Value.bool (decide_eq_decide.mpr (by omega))
set_option maxHeartbeats 4000000 in
theorem loss_delay_spec {w : World} {A : Around} {s : Shared} {mean mg mb} {R : Result → Shared → Prop} (C : Cx w mean mg mb s.heap) (hA : Rm A 0)
    {a b : Int} {t1 t2 : Tok}
    (hR : ∀ v h' tk t, s.heap.StaysIn h' → v = .int (max ((9 * max a b) / 8) 1000) t → R (.ok (.ret v)) {s with heap := h', toks := tk}) :
    codeAny (model PRG w) A (.call (.ref 28) ⟨[.int a t1, .int b t2], []⟩) R s := by
  obtain ⟨d, f, g, u, rfl⟩ := hA.norm
  have X := C.X
  have T := C.T
  refine' call_S (binds := [(Str.ofString "latest", .int a t1), (Str.ofString "smoothed", .int b t2)]) (Led.refl _) (Nat.le_refl _) C ?k1 ?k2 ?k3 ?k4 ?k5 ?_ ?c1 ?c2 ?c3 ?c4
  walk_at "m_open"
  intro L' h₁ F N lt hL
  k_fold
  k_steps
  refine hR _ _ _ _ (Fr.keep (by assumption)) (vint ?_)
  have e : ∀ z : Int, Int.fdiv z 8 = z / 8 := fun z => Int.fdiv_eq_ediv_of_nonneg z (by decide)
  simp only [e]
  omega
set_option maxHeartbeats 4000000 in
theorem in_recovery_spec {w : World} {A : Around} {s : Shared} {mean mg mb} {R : Result → Shared → Prop} (C : Cx w mean mg mb s.heap) (hA : Rm A 0)
    {x dx : Addr} {o : Obj} {r : NR} (hx : s.heap.get? x = some (instObj 155 dx)) (hdx : s.heap.get? dx = some o) (ho : RenoIs w.params o r)
    {sent_at : Int} {ts : Tok}
    (hR : ∀ v h' tk, s.heap.StaysIn h' → v = .bool (r.inRec sent_at) → R (.ok (.ret v)) {s with heap := h', toks := tk}) :
    codeAny (model PRG w) A (.call (.ref 103) ⟨[.ref x, .int sent_at ts], []⟩) R s := by
  obtain ⟨t0, t1, t2, t3, t4, t5, v0, v1, v2, v3, v4, v5⟩ := ho
  have I := inst_mk hx hdx
  obtain ⟨d, f, g, u, rfl⟩ := hA.norm
  have X := C.X
  have T := C.T
  refine' call_S (binds := [(Str.ofString "self", .ref x), (Str.ofString "sent_at", .int sent_at ts)]) (Led.refl _) (Nat.le_refl _) C ?k1 ?k2 ?k3 ?k4 ?k5 ?_ ?c1 ?c2 ?c3 ?c4
  walk_at "m_open"
  intro L' h₁ F N lt hL
  k_fold
  obtain ⟨win, thr, rcv, inf, cr⟩ := r
  cases rcv with
  | none =>
    dsimp only [optV] at I
    k_steps
    all_goals (refine hR _ _ _ (Fr.keep (by assumption)) ?_)
    all_goals rfl
  | some q =>
    dsimp only [optV] at I
    k_steps
    all_goals (refine hR _ _ _ (Fr.keep (by assumption)) ?_)
    all_goals rfl
set_option maxHeartbeats 4000000 in
theorem is_slow_start_spec {w : World} {A : Around} {s : Shared} {mean mg mb} {R : Result → Shared → Prop} (C : Cx w mean mg mb s.heap) (hA : Rm A 0)
    {x dx : Addr} {o : Obj} {r : NR} (hx : s.heap.get? x = some (instObj 155 dx)) (hdx : s.heap.get? dx = some o) (ho : RenoIs w.params o r)
    (hR : ∀ v h' tk, s.heap.StaysIn h' → v = .bool r.slow → R (.ok (.ret v)) {s with heap := h', toks := tk}) :
    codeAny (model PRG w) A (.call (.ref 96) ⟨[.ref x], []⟩) R s := by
  obtain ⟨t0, t1, t2, t3, t4, t5, v0, v1, v2, v3, v4, v5⟩ := ho
  have I := inst_mk hx hdx
  obtain ⟨d, f, g, u, rfl⟩ := hA.norm
  have X := C.X
  have T := C.T
  refine' call_S (binds := [(Str.ofString "self", .ref x)]) (Led.refl _) (Nat.le_refl _) C ?k1 ?k2 ?k3 ?k4 ?k5 ?_ ?c1 ?c2 ?c3 ?c4
  walk_at "m_open"
  intro L' h₁ F N lt hL
  k_fold
  obtain ⟨win, thr, rcv, inf, cr⟩ := r
  cases thr with
  | none =>
    dsimp only [optV] at I
    k_steps
    all_goals (refine hR _ _ _ (Fr.keep (by assumption)) ?_)
    all_goals rfl
  | some q =>
    dsimp only [optV] at I
    k_steps
    all_goals (refine hR _ _ _ (Fr.keep (by assumption)) ?_)
    all_goals rfl
set_option maxHeartbeats 4000000 in
theorem nr_on_sent_spec {w : World} {A : Around} {s : Shared} {mean mg mb} {R : Result → Shared → Prop} {b : Heap} (C : Cx w mean mg mb b) (hA : Rm A 0)
    {x dx : Addr} {o : Obj} {r : NR} (LD : Led b s.heap [(dx, o)]) (hb : b.objs.size ≤ s.heap.objs.size) (hx : b.get? x = some (instObj 155 dx)) (ho : RenoIs w.params o r)
    {size : Int} {ts : Tok}
    (hR : ∀ v h' tk o', Led b h' [(dx, o')] → RenoIs w.params o' ({ r with inf := r.inf + size }) → v = .none → R (.ok (.ret v)) {s with heap := h', toks := tk}) :
    codeAny (model PRG w) A (.call (.ref 110) ⟨[.ref x, .int size ts], []⟩) R s := by
  obtain ⟨t0, t1, t2, t3, t4, t5, v0, v1, v2, v3, v4, v5⟩ := ho
  obtain ⟨d, f, g, u, rfl⟩ := hA.norm
  have X := C.X
  have T := C.T
  refine' call_S (binds := [(Str.ofString "self", .ref x), (Str.ofString "size", .int size ts)]) LD hb C ?k1 ?k2 ?k3 ?k4 ?k5 ?_ ?c1 ?c2 ?c3 ?c4
  walk_at "m_open"
  intro L' h₁ F N lt hL
  k_fold
  k_steps
  all_goals exact hR _ _ _ _ (led_of (by assumption) (by assumption) (fun p hp => hp)) ⟨_, _, _, _, _, _, _, _, _, _, _, _⟩ rfl
set_option maxHeartbeats 4000000 in
theorem widen_spec {w : World} {A : Around} {s : Shared} {mean mg mb} {R : Result → Shared → Prop} {b : Heap} (C : Cx w mean mg mb b) (hA : Rm A 0)
    {x dx : Addr} {o : Obj} {r : NR} (LD : Led b s.heap [(dx, o)]) (hb : b.objs.size ≤ s.heap.objs.size) (hx : b.get? x = some (instObj 155 dx)) (ho : RenoIs w.params o r)
    {size : Int} {ts : Tok} (hk : r.Ok) (h0 : 0 ≤ size) (h1 : size ≤ 1000)
    (hR : ∀ v h' tk o', Led b h' [(dx, o')] → RenoIs w.params o' (r.widen size) → v = .none → R (.ok (.ret v)) {s with heap := h', toks := tk}) :
    codeAny (model PRG w) A (.call (.ref 131) ⟨[.ref x, .int size ts], []⟩) R s := by
  obtain ⟨t0, t1, t2, t3, t4, t5, v0, v1, v2, v3, v4, v5⟩ := ho
  obtain ⟨k1, k2, k3, k4⟩ := hk
  obtain ⟨d, f, g, u, rfl⟩ := hA.norm
  have X := C.X
  have T := C.T
  refine' call_S (binds := [(Str.ofString "self", .ref x), (Str.ofString "size", .int size ts)]) LD hb C ?k1 ?k2 ?k3 ?k4 ?k5 ?_ ?c1 ?c2 ?c3 ?c4
  walk_at "m_open"
  intro L' h₁ F N lt hL
  k_fold
  k_steps
  all_goals exact hR _ _ _ _ (led_of (by assumption) (by assumption) (fun p hp => hp)) ⟨_, _, _, _, _, _, _, _, _, _, _, _⟩ rfl
end
section
local macro_rules | `(tactic| walk_at "pad") => `(tactic| skip)
set_option maxHeartbeats 4000000 in
theorem on_acked_spec {w : World} {A : Around} {s : Shared} {mean mg mb} {R : Result → Shared → Prop} {b : Heap} (C : Cx w mean mg mb b) (hA : Rm A 1)
    {x dx : Addr} {o : Obj} {r : NR} (LD : Led b s.heap [(dx, o)]) (hb : b.objs.size ≤ s.heap.objs.size) (hx : b.get? x = some (instObj 155 dx)) (ho : RenoIs w.params o r)
    {size sent_at now sm : Int} {ts1 ts2 ts3 ts4 : Tok} (hok : r.Ok) (h0 : 0 ≤ size) (h1 : size ≤ 1000)
    (hR : ∀ v h' tk o', Led b h' [(dx, o')] → RenoIs w.params o' (r.acked size sent_at) → v = .none → R (.ok (.ret v)) {s with heap := h', toks := tk}) :
    codeAny (model PRG w) A (.call (.ref 124) ⟨[.ref x, .int size ts1, .int sent_at ts2, .bool true, .int now ts3, .int sm ts4], []⟩) R s := by
  obtain ⟨t0, t1, t2, t3, t4, t5, v0, v1, v2, v3, v4, v5⟩ := ho
  obtain ⟨d, f, g, u, rfl⟩ := hA.norm
  have X := C.X
  have T := C.T
  refine' call_S (binds := [(Str.ofString "self", .ref x), (Str.ofString "size", .int size ts1), (Str.ofString "sent_at", .int sent_at ts2), (Str.ofString "is_limited", .bool true), (Str.ofString "now", .int now ts3), (Str.ofString "smoothed", .int sm ts4)]) LD hb C ?k1 ?k2 ?k3 ?k4 ?k5 ?_ ?c1 ?c2 ?c3 ?c4
  walk_at "m_open"
  intro L' h₁ F N lt hL
  k_fold
  k_steps
  cases hc : r.inRec sent_at
  · refine wpAny_call (in_recovery_spec (r := { r with inf := r.inf - size }) (C.keeps (Fr.keep (by assumption))) (hA.deeper _) (Fr.keep (by assumption) _ _ hx) (News.get (by assumption) (by k_mem)) ⟨_, _, _, _, _, _, _, _, _, _, _, _⟩ ?_)
    intro v h' tk hk hv
    rw [show NR.inRec { r with inf := r.inf - size } sent_at = false from hc] at hv
    subst hv
    have F' := Fr.keeps (by assumption) hk
    have N' := News.grown (by assumption) hk
    dsimp only
    k_steps
    cases hs : r.slow
    · refine wpAny_call (is_slow_start_spec (r := { r with inf := r.inf - size }) (C.keeps (Fr.keep (by assumption))) (hA.deeper _) (Fr.keep (by assumption) _ _ hx) (News.get (by assumption) (by k_mem)) ⟨_, _, _, _, _, _, _, _, _, _, _, _⟩ ?_)
      intro v h' tk hk hv
      rw [show NR.slow { r with inf := r.inf - size } = false from hs] at hv
      subst hv
      have F' := Fr.keeps (by assumption) hk
      have N' := News.grown (by assumption) hk
      dsimp only
      k_steps
      rw [show r.acked size sent_at = NR.widen { r with inf := r.inf - size } size by unfold NR.acked; rw [hc, hs]; rfl] at hR
      refine wpAny_call (widen_spec (r := { r with inf := r.inf - size }) C (hA.deeper _) (led_of (by assumption) (by assumption) (fun p hp => hp)) (Nat.le_trans (Fr.above (by assumption)) (Nat.le_of_lt (Heap.Ns.lt (Fr.ns (by assumption))))) hx ⟨_, _, _, _, _, _, _, _, _, _, _, _⟩ ⟨hok.lo, hok.hi, hok.c0, hok.c1⟩ h0 h1 ?_)
      intro v h' tk o' LD' ho' hv
      subst hv
      k_steps
      exact hR _ _ _ _ LD' ho' rfl
    · refine wpAny_call (is_slow_start_spec (r := { r with inf := r.inf - size }) (C.keeps (Fr.keep (by assumption))) (hA.deeper _) (Fr.keep (by assumption) _ _ hx) (News.get (by assumption) (by k_mem)) ⟨_, _, _, _, _, _, _, _, _, _, _, _⟩ ?_)
      intro v h' tk hk hv
      rw [show NR.slow { r with inf := r.inf - size } = true from hs] at hv
      subst hv
      have F' := Fr.keeps (by assumption) hk
      have N' := News.grown (by assumption) hk
      dsimp only
      rw [show r.acked size sent_at = { r with inf := r.inf - size, win := r.win + size } by unfold NR.acked; rw [hc, hs]; rfl] at hR
      k_steps
      exact hR _ _ _ _ (led_of (by assumption) (by assumption) (fun p hp => hp)) ⟨_, _, _, _, _, _, _, _, _, _, _, _⟩ rfl
  · refine wpAny_call (in_recovery_spec (r := { r with inf := r.inf - size }) (C.keeps (Fr.keep (by assumption))) (hA.deeper _) (Fr.keep (by assumption) _ _ hx) (News.get (by assumption) (by k_mem)) ⟨_, _, _, _, _, _, _, _, _, _, _, _⟩ ?_)
    intro v h' tk hk hv
    rw [show NR.inRec { r with inf := r.inf - size } sent_at = true from hc] at hv
    subst hv
    have F' := Fr.keeps (by assumption) hk
    have N' := News.grown (by assumption) hk
    dsimp only
    rw [show r.acked size sent_at = { r with inf := r.inf - size } by unfold NR.acked; rw [hc]; rfl] at hR
    k_steps
    exact hR _ _ _ _ (led_of (by assumption) (by assumption) (fun p hp => hp)) ⟨_, _, _, _, _, _, _, _, _, _, _, _⟩ rfl
set_option maxHeartbeats 4000000 in
theorem least_window_spec {w : World} {A : Around} {s : Shared} {mean mg mb} {R : Result → Shared → Prop} (C : Cx w mean mg mb s.heap) (hA : Rm A 0)
    {dg : Int} {t1 : Tok}
    (hR : ∀ v h' tk t, s.heap.StaysIn h' → v = .int (2 * dg) t → R (.ok (.ret v)) {s with heap := h', toks := tk}) :
    codeAny (model PRG w) A (.call (.ref 68) ⟨[.int dg t1], []⟩) R s := by
  obtain ⟨d, f, g, u, rfl⟩ := hA.norm
  have X := C.X
  have T := C.T
  refine' call_S (binds := [(Str.ofString "datagram", .int dg t1)]) (Led.refl _) (Nat.le_refl _) C ?k1 ?k2 ?k3 ?k4 ?k5 ?_ ?c1 ?c2 ?c3 ?c4
  walk_at "m_open"
  intro L' h₁ F N lt hL
  k_fold
  k_steps
  exact hR _ _ _ _ (Fr.keep (by assumption)) rfl
set_option maxHeartbeats 4000000 in
theorem initial_window_spec {w : World} {A : Around} {s : Shared} {mean mg mb} {R : Result → Shared → Prop} (C : Cx w mean mg mb s.heap) (hA : Rm A 0)
    {t1 : Tok}
    (hR : ∀ v h' tk t, s.heap.StaysIn h' → v = .int 1000 t → R (.ok (.ret v)) {s with heap := h', toks := tk}) :
    codeAny (model PRG w) A (.call (.ref 61) ⟨[.int 100 t1], []⟩) R s := by
  obtain ⟨d, f, g, u, rfl⟩ := hA.norm
  have X := C.X
  have T := C.T
  refine' call_S (binds := [(Str.ofString "datagram", .int 100 t1)]) (Led.refl _) (Nat.le_refl _) C ?k1 ?k2 ?k3 ?k4 ?k5 ?_ ?c1 ?c2 ?c3 ?c4
  walk_at "m_open"
  intro L' h₁ F N lt hL
  k_fold
  k_steps
  exact hR _ _ _ _ (Fr.keep (by assumption)) rfl
set_option maxHeartbeats 4000000 in
theorem on_congestion_spec {w : World} {A : Around} {s : Shared} {mean mg mb} {R : Result → Shared → Prop} {b : Heap} (C : Cx w mean mg mb b) (hA : Rm A 1)
    {x dx : Addr} {o : Obj} {r : NR} (LD : Led b s.heap [(dx, o)]) (hb : b.objs.size ≤ s.heap.objs.size) (hx : b.get? x = some (instObj 155 dx)) (ho : RenoIs w.params o r)
    {sent_at now : Int} {ts1 ts2 : Tok} (hok : r.Ok)
    (hR : ∀ v h' tk o', Led b h' [(dx, o')] → RenoIs w.params o' (r.congest sent_at now) → v = .none → R (.ok (.ret v)) {s with heap := h', toks := tk}) :
    codeAny (model PRG w) A (.call (.ref 138) ⟨[.ref x, .int sent_at ts1, .int now ts2], []⟩) R s := by
  obtain ⟨t0, t1, t2, t3, t4, t5, v0, v1, v2, v3, v4, v5⟩ := ho
  obtain ⟨k1, k2, k3, k4⟩ := hok
  obtain ⟨d, f, g, u, rfl⟩ := hA.norm
  have X := C.X
  have T := C.T
  refine' call_S (binds := [(Str.ofString "self", .ref x), (Str.ofString "sent_at", .int sent_at ts1), (Str.ofString "now", .int now ts2)]) LD hb C ?k1 ?k2 ?k3 ?k4 ?k5 ?_ ?c1 ?c2 ?c3 ?c4
  walk_at "m_open"
  intro L' h₁ F N lt hL
  k_fold
  k_steps
  cases hc : r.inRec sent_at
  · refine wpAny_call (in_recovery_spec (r := r) (C.keeps (Fr.keep (by assumption))) (hA.deeper _) (Fr.keep (by assumption) _ _ hx) (News.get (by assumption) (by k_mem)) ⟨_, _, _, _, _, _, _, _, _, _, _, _⟩ ?_)
    intro v h' tk hk hv
    rw [show NR.inRec r sent_at = false from hc] at hv
    subst hv
    have F' := Fr.keeps (by assumption) hk
    have N' := News.grown (by assumption) hk
    dsimp only
    rw [show r.congest sent_at now = { r with rcv := some now, cr := 0, thr := some (max (r.win / 2) 200), win := max (r.win / 2) 200 } by unfold NR.congest; rw [hc]; rfl] at hR
    k_steps
    refine wpAny_call (least_window_spec (C.keeps (Fr.keep (by assumption))) (hA.deeper _) ?_)
    intro v h' tk tt hk hv
    subst hv
    have F' := Fr.keeps (by assumption) hk
    have N' := News.grown (by assumption) hk
    dsimp only
    k_steps
    have e : (if 2 * 100 > (r.win * 1).fdiv 2 then 2 * 100 else (r.win * 1).fdiv 2) = max (r.win / 2) 200 := by
      rw [Int.fdiv_eq_ediv_of_nonneg _ (by decide : (0 : Int) ≤ 2)]; split <;> omega
    rename_i FL NL
    rw [e] at NL
    exact hR _ _ _ _ (led_of (by assumption) (by assumption) (fun p hp => hp)) ⟨_, _, _, _, _, _, _, _, _, _, _, _⟩ rfl
  · refine wpAny_call (in_recovery_spec (r := r) (C.keeps (Fr.keep (by assumption))) (hA.deeper _) (Fr.keep (by assumption) _ _ hx) (News.get (by assumption) (by k_mem)) ⟨_, _, _, _, _, _, _, _, _, _, _, _⟩ ?_)
    intro v h' tk hk hv
    rw [show NR.inRec r sent_at = true from hc] at hv
    subst hv
    have F' := Fr.keeps (by assumption) hk
    have N' := News.grown (by assumption) hk
    dsimp only
    rw [show r.congest sent_at now = r by unfold NR.congest; rw [hc]; rfl] at hR
    k_steps
    exact hR _ _ _ _ (led_of (by assumption) (by assumption) (fun p hp => hp)) ⟨_, _, _, _, _, _, _, _, _, _, _, _⟩ rfl
set_option maxHeartbeats 4000000 in
theorem on_lost_spec {w : World} {A : Around} {s : Shared} {mean mg mb} {R : Result → Shared → Prop} {b : Heap} (C : Cx w mean mg mb b) (hA : Rm A 2)
    {x dx : Addr} {o : Obj} {r : NR} (LD : Led b s.heap [(dx, o)]) (hb : b.objs.size ≤ s.heap.objs.size) (hx : b.get? x = some (instObj 155 dx)) (ho : RenoIs w.params o r)
    {size now : Int} {newest : Option Int} {ts1 ts2 ts3 : Tok} (hok : r.Ok)
    (hR : ∀ v h' tk o', Led b h' [(dx, o')] → RenoIs w.params o' (r.lost size newest now) → v = .none → R (.ok (.ret v)) {s with heap := h', toks := tk}) :
    codeAny (model PRG w) A (.call (.ref 145) ⟨[.ref x, .int size ts1, optV newest ts2, .int now ts3], []⟩) R s := by
  obtain ⟨t0, t1, t2, t3, t4, t5, v0, v1, v2, v3, v4, v5⟩ := ho
  obtain ⟨d, f, g, u, rfl⟩ := hA.norm
  have X := C.X
  have T := C.T
  refine' call_S (binds := [(Str.ofString "self", .ref x), (Str.ofString "size", .int size ts1), (Str.ofString "newest", optV newest ts2), (Str.ofString "now", .int now ts3)]) LD hb C ?k1 ?k2 ?k3 ?k4 ?k5 ?_ ?c1 ?c2 ?c3 ?c4
  walk_at "m_open"
  intro L' h₁ F N lt hL
  k_fold
  cases newest with
  | none =>
    dsimp only [optV] at F
    k_steps
    exact hR _ _ _ _ (led_of (by assumption) (by assumption) (fun p hp => hp)) ⟨_, _, _, _, _, _, _, _, _, _, _, _⟩ rfl
  | some tn =>
    dsimp only [optV] at F
    k_steps
    refine wpAny_call (on_congestion_spec (r := { r with inf := r.inf - size }) C (hA.deeper _) (led_of (by assumption) (by assumption) (fun p hp => hp)) (Nat.le_trans (Fr.above (by assumption)) (Nat.le_of_lt (Heap.Ns.lt (Fr.ns (by assumption))))) hx ⟨_, _, _, _, _, _, _, _, _, _, _, _⟩ ⟨hok.lo, hok.hi, hok.c0, hok.c1⟩ ?_)
    intro v h' tk o' LD' ho' hv
    subst hv
    k_steps
    exact hR _ _ _ _ LD' ho' rfl
end
local macro_rules | `(tactic| walk_at "eval Name") => `(tactic| (k_here; k_dflt (first
  | (refine' name_any_L ?F ?v ?_ ?a ?b ?d; (case F => k_asm); (case a => rfl); (case b => rfl); (case v => rfl); (case d => decide); k_whole)
  | (refine' nameG_K ?F ?X ?T ?e ?_ ?g ?a ?b ?d; (case F => k_asm); (case X => k_asm); (case T => k_asm); (case a => rfl); (case b => rfl); (case g => rfl); (case e => k_is); (case d => decide); k_whole)
  | (refine' name_any_C ?F ?l ?H ?_ ?a ?b ?d; (case F => k_asm); (case a => rfl); (case b => rfl); (case l => rfl); (case H => assumption); (case d => decide); k_whole))))
local macro_rules | `(tactic| walk_at "m_comp") => `(tactic| (refine stop_out ?_; refine' comp_S ?c1 ?c2 ?c3 ?c4 ?c5 ?_; (case c1 => exact rfl); (case c2 => decide); (case c3 => exact rfl); (case c4 => decide); (case c5 => intro _; rfl)))
section
set_option maxHeartbeats 4000000 in
theorem is_eliciting_ping_spec {w : World} {A : Around} {s : Shared} {mean mg mb} {R : Result → Shared → Prop} (C : Cx w mean mg mb s.heap) (hA : Rm A 0)
    {t nt : Nat} {tk1 : Tok} {v2 v3 v4 : Value} (ht : s.heap.get? t = some { cls := .type "tuple", data := .seq [.str (Str.ofString "ping") tk1].toArray nt })
    (hR : ∀ v h' tk, s.heap.StaysIn h' → v = .bool true → R (.ok (.ret v)) {s with heap := h', toks := tk}) :
    codeAny (model PRG w) A (.call (.ref 167) ⟨[.ref t], []⟩) R s := by
  obtain ⟨d, f, g, u, rfl⟩ := hA.norm
  have X := C.X
  have T := C.T
  refine' call_S (binds := [(Str.ofString "f", .ref t)]) (Led.refl _) (Nat.le_refl _) C ?k1 ?k2 ?k3 ?k4 ?k5 ?_ ?c1 ?c2 ?c3 ?c4
  walk_at "m_open"
  intro L' h₁ F N lt hL
  k_fold
  have IT : IsTup s.heap t [.str (Str.ofString "ping") tk1].toArray := ⟨_, ht, rfl, _, rfl⟩
  k_steps
  refine notin_tuple_strs (ys := [Str.ofString "ack", Str.ofString "padding", Str.ofString "close"]) (tupK (C.X.keeps (Fr.keep (by assumption))) (by k_is)) (by repeat constructor) ?_
  dsimp only
  refine hR _ _ _ (Fr.keep (by assumption)) ?_
  rfl
set_option maxHeartbeats 4000000 in
theorem is_eliciting_ack_spec {w : World} {A : Around} {s : Shared} {mean mg mb} {R : Result → Shared → Prop} (C : Cx w mean mg mb s.heap) (hA : Rm A 0)
    {t nt : Nat} {tk1 : Tok} {v2 v3 v4 : Value} (ht : s.heap.get? t = some { cls := .type "tuple", data := .seq [.str (Str.ofString "ack") tk1, v2, v3, v4].toArray nt })
    (hR : ∀ v h' tk, s.heap.StaysIn h' → v = .bool false → R (.ok (.ret v)) {s with heap := h', toks := tk}) :
    codeAny (model PRG w) A (.call (.ref 167) ⟨[.ref t], []⟩) R s := by
  obtain ⟨d, f, g, u, rfl⟩ := hA.norm
  have X := C.X
  have T := C.T
  refine' call_S (binds := [(Str.ofString "f", .ref t)]) (Led.refl _) (Nat.le_refl _) C ?k1 ?k2 ?k3 ?k4 ?k5 ?_ ?c1 ?c2 ?c3 ?c4
  walk_at "m_open"
  intro L' h₁ F N lt hL
  k_fold
  have IT : IsTup s.heap t [.str (Str.ofString "ack") tk1, v2, v3, v4].toArray := ⟨_, ht, rfl, _, rfl⟩
  k_steps
  refine notin_tuple_strs (ys := [Str.ofString "ack", Str.ofString "padding", Str.ofString "close"]) (tupK (C.X.keeps (Fr.keep (by assumption))) (by k_is)) (by repeat constructor) ?_
  dsimp only
  refine hR _ _ _ (Fr.keep (by assumption)) ?_
  rfl
set_option maxHeartbeats 4000000 in
theorem counts_in_flight_ping_spec {w : World} {A : Around} {s : Shared} {mean mg mb} {R : Result → Shared → Prop} (C : Cx w mean mg mb s.heap) (hA : Rm A 0)
    {t nt : Nat} {tk1 : Tok} {v2 v3 v4 : Value} (ht : s.heap.get? t = some { cls := .type "tuple", data := .seq [.str (Str.ofString "ping") tk1].toArray nt })
    (hR : ∀ v h' tk, s.heap.StaysIn h' → v = .bool true → R (.ok (.ret v)) {s with heap := h', toks := tk}) :
    codeAny (model PRG w) A (.call (.ref 174) ⟨[.ref t], []⟩) R s := by
  obtain ⟨d, f, g, u, rfl⟩ := hA.norm
  have X := C.X
  have T := C.T
  refine' call_S (binds := [(Str.ofString "f", .ref t)]) (Led.refl _) (Nat.le_refl _) C ?k1 ?k2 ?k3 ?k4 ?k5 ?_ ?c1 ?c2 ?c3 ?c4
  walk_at "m_open"
  intro L' h₁ F N lt hL
  k_fold
  have IT : IsTup s.heap t [.str (Str.ofString "ping") tk1].toArray := ⟨_, ht, rfl, _, rfl⟩
  k_steps
  exact hR _ _ _ (Fr.keep (by assumption)) rfl
set_option maxHeartbeats 4000000 in
theorem counts_in_flight_ack_spec {w : World} {A : Around} {s : Shared} {mean mg mb} {R : Result → Shared → Prop} (C : Cx w mean mg mb s.heap) (hA : Rm A 0)
    {t nt : Nat} {tk1 : Tok} {v2 v3 v4 : Value} (ht : s.heap.get? t = some { cls := .type "tuple", data := .seq [.str (Str.ofString "ack") tk1, v2, v3, v4].toArray nt })
    (hR : ∀ v h' tk, s.heap.StaysIn h' → v = .bool false → R (.ok (.ret v)) {s with heap := h', toks := tk}) :
    codeAny (model PRG w) A (.call (.ref 174) ⟨[.ref t], []⟩) R s := by
  obtain ⟨d, f, g, u, rfl⟩ := hA.norm
  have X := C.X
  have T := C.T
  refine' call_S (binds := [(Str.ofString "f", .ref t)]) (Led.refl _) (Nat.le_refl _) C ?k1 ?k2 ?k3 ?k4 ?k5 ?_ ?c1 ?c2 ?c3 ?c4
  walk_at "m_open"
  intro L' h₁ F N lt hL
  k_fold
  have IT : IsTup s.heap t [.str (Str.ofString "ack") tk1, v2, v3, v4].toArray := ⟨_, ht, rfl, _, rfl⟩
  k_steps
  exact hR _ _ _ (Fr.keep (by assumption)) rfl
set_option maxHeartbeats 4000000 in
theorem any_eliciting_ping_spec {w : World} {A : Around} {s : Shared} {mean mg mb} {R : Result → Shared → Prop} (C : Cx w mean mg mb s.heap) (hA : Rm A 1)
    {fl t nt nf : Nat} {tk1 : Tok} {v2 v3 v4 : Value} (hf : s.heap.get? fl = some { cls := .type "list", data := .seq [Value.ref t].toArray nf }) (ht : s.heap.get? t = some { cls := .type "tuple", data := .seq [.str (Str.ofString "ping") tk1].toArray nt })
    (hR : ∀ v h' tk, s.heap.StaysIn h' → v = .bool true → R (.ok (.ret v)) {s with heap := h', toks := tk}) :
    codeAny (model PRG w) A (.call (.ref 179) ⟨[.ref fl], []⟩) R s := by
  obtain ⟨d, f, g, u, rfl⟩ := hA.norm
  have X := C.X
  have T := C.T
  refine' call_S (binds := [(Str.ofString "row", .ref fl)]) (Led.refl _) (Nat.le_refl _) C ?k1 ?k2 ?k3 ?k4 ?k5 ?_ ?c1 ?c2 ?c3 ?c4
  walk_at "m_open"
  intro L' h₁ F N lt hL
  k_fold
  have IL : s.heap.IsList fl [Value.ref t].toArray := ⟨_, hf, rfl, _, rfl⟩
  k_steps
  walk_at "m_comp"
  k_steps
  have IL' : h₁.IsList fl [Value.ref t].toArray := IL.at fun o e => F.keep _ o e
  have X' := X.keeps F.keep
  have T' := T.keeps F.keep
  refine CompGo.mk h₁ [] [fl] 1 _ (fun i ys S => S = [] ∧ ys = [Value.ref t].take i) (Nat.le_refl _) (Led.refl _) (SrcOk.lst [Value.ref t] 1 rfl rfl IL') ?_ (by decide) ⟨rfl, rfl⟩ ?_ ?_
  · intro a ha
    rw [List.mem_singleton.mp ha]
    exact ⟨_, F.keep _ _ hf⟩
  · rintro i v ys S₁ I oI D C h₂ tk₂ m₁ hi hv hJ9 hyl F₁ N₁ hoff hID hDC hI U9 hU9 V9 hV9
    obtain ⟨rfl, hys⟩ := hJ9
    obtain rfl : i = 0 := Nat.lt_one_iff.mp hi
    obtain rfl : Value.ref t = v := Option.some.inj hv
    refine assign_any F₁ N₁ rfl rfl ?_
    intro h₃ F₂ N₂
    refine wpAny_tests_one ?_
    k_steps
    refine wpAny_call (is_eliciting_ping_spec ⟨X'.keeps F₂.keep, T'.keeps F₂.keep⟩ (hA.deeper _) (v2 := v2) (v3 := v3) (v4 := v4) (F₂.keep _ _ (F.keep _ _ ht)) ?_)
    intro v h' tk hk hv
    subst hv
    have F' := Fr.keeps (by assumption) hk
    have N' := News.grown (by assumption) hk
    dsimp only
    k_steps
    subst hys
    (first | refine hU9 _ _ ?_ | refine hV9 _ ?_)
    exact CompEnd'.mk [] (by assumption) (by assumption) (fun _ h => nomatch h) ⟨rfl, rfl⟩
  · rintro ys S₁ D h₂ tk₂ hJ9 hyl LD₂ hoff hD
    obtain ⟨rfl, rfl⟩ := hJ9
    have F₂ := F.keeps LD₂.sub
    have N₂ := led_news F LD₂
    k_steps
    refine list_ne_nil (News.isList (by assumption) (by k_mem)) (News.isList (by assumption) (by k_mem)) (Rm.line (hA.deeper _)) ?_
    exact hR _ _ _ (Fr.keep (by assumption)) rfl
set_option maxHeartbeats 4000000 in
theorem any_eliciting_ack_spec {w : World} {A : Around} {s : Shared} {mean mg mb} {R : Result → Shared → Prop} (C : Cx w mean mg mb s.heap) (hA : Rm A 1)
    {fl t nt nf : Nat} {tk1 : Tok} {v2 v3 v4 : Value} (hf : s.heap.get? fl = some { cls := .type "list", data := .seq [Value.ref t].toArray nf }) (ht : s.heap.get? t = some { cls := .type "tuple", data := .seq [.str (Str.ofString "ack") tk1, v2, v3, v4].toArray nt })
    (hR : ∀ v h' tk, s.heap.StaysIn h' → v = .bool false → R (.ok (.ret v)) {s with heap := h', toks := tk}) :
    codeAny (model PRG w) A (.call (.ref 179) ⟨[.ref fl], []⟩) R s := by
  obtain ⟨d, f, g, u, rfl⟩ := hA.norm
  have X := C.X
  have T := C.T
  refine' call_S (binds := [(Str.ofString "row", .ref fl)]) (Led.refl _) (Nat.le_refl _) C ?k1 ?k2 ?k3 ?k4 ?k5 ?_ ?c1 ?c2 ?c3 ?c4
  walk_at "m_open"
  intro L' h₁ F N lt hL
  k_fold
  have IL : s.heap.IsList fl [Value.ref t].toArray := ⟨_, hf, rfl, _, rfl⟩
  k_steps
  walk_at "m_comp"
  k_steps
  have IL' : h₁.IsList fl [Value.ref t].toArray := IL.at fun o e => F.keep _ o e
  have X' := X.keeps F.keep
  have T' := T.keeps F.keep
  refine CompGo.mk h₁ [] [fl] 1 _ (fun i ys S => S = [] ∧ ys = []) (Nat.le_refl _) (Led.refl _) (SrcOk.lst [Value.ref t] 1 rfl rfl IL') ?_ (by decide) ⟨rfl, rfl⟩ ?_ ?_
  · intro a ha
    rw [List.mem_singleton.mp ha]
    exact ⟨_, F.keep _ _ hf⟩
  · rintro i v ys S₁ I oI D C h₂ tk₂ m₁ hi hv hJ9 hyl F₁ N₁ hoff hID hDC hI U9 hU9 V9 hV9
    obtain ⟨rfl, hys⟩ := hJ9
    obtain rfl : i = 0 := Nat.lt_one_iff.mp hi
    obtain rfl : Value.ref t = v := Option.some.inj hv
    refine assign_any F₁ N₁ rfl rfl ?_
    intro h₃ F₂ N₂
    refine wpAny_tests_one ?_
    k_steps
    refine wpAny_call (is_eliciting_ack_spec ⟨X'.keeps F₂.keep, T'.keeps F₂.keep⟩ (hA.deeper _) (v2 := v2) (v3 := v3) (v4 := v4) (F₂.keep _ _ (F.keep _ _ ht)) ?_)
    intro v h' tk hk hv
    subst hv
    have F' := Fr.keeps (by assumption) hk
    have N' := News.grown (by assumption) hk
    dsimp only
    k_steps
    subst hys
    (first | refine hU9 _ _ ?_ | refine hV9 _ ?_)
    exact CompEnd'.mk [] (by assumption) (by assumption) (fun _ h => nomatch h) ⟨rfl, rfl⟩
  · rintro ys S₁ D h₂ tk₂ hJ9 hyl LD₂ hoff hD
    obtain ⟨rfl, rfl⟩ := hJ9
    have F₂ := F.keeps LD₂.sub
    have N₂ := led_news F LD₂
    k_steps
    refine list_ne_nil (News.isList (by assumption) (by k_mem)) (News.isList (by assumption) (by k_mem)) (Rm.line (hA.deeper _)) ?_
    exact hR _ _ _ (Fr.keep (by assumption)) rfl
set_option maxHeartbeats 4000000 in
theorem any_in_flight_ping_spec {w : World} {A : Around} {s : Shared} {mean mg mb} {R : Result → Shared → Prop} (C : Cx w mean mg mb s.heap) (hA : Rm A 1)
    {fl t nt nf : Nat} {tk1 : Tok} {v2 v3 v4 : Value} (hf : s.heap.get? fl = some { cls := .type "list", data := .seq [Value.ref t].toArray nf }) (ht : s.heap.get? t = some { cls := .type "tuple", data := .seq [.str (Str.ofString "ping") tk1].toArray nt })
    (hR : ∀ v h' tk, s.heap.StaysIn h' → v = .bool true → R (.ok (.ret v)) {s with heap := h', toks := tk}) :
    codeAny (model PRG w) A (.call (.ref 184) ⟨[.ref fl], []⟩) R s := by
  obtain ⟨d, f, g, u, rfl⟩ := hA.norm
  have X := C.X
  have T := C.T
  refine' call_S (binds := [(Str.ofString "row", .ref fl)]) (Led.refl _) (Nat.le_refl _) C ?k1 ?k2 ?k3 ?k4 ?k5 ?_ ?c1 ?c2 ?c3 ?c4
  walk_at "m_open"
  intro L' h₁ F N lt hL
  k_fold
  have IL : s.heap.IsList fl [Value.ref t].toArray := ⟨_, hf, rfl, _, rfl⟩
  k_steps
  walk_at "m_comp"
  k_steps
  have IL' : h₁.IsList fl [Value.ref t].toArray := IL.at fun o e => F.keep _ o e
  have X' := X.keeps F.keep
  have T' := T.keeps F.keep
  refine CompGo.mk h₁ [] [fl] 1 _ (fun i ys S => S = [] ∧ ys = [Value.ref t].take i) (Nat.le_refl _) (Led.refl _) (SrcOk.lst [Value.ref t] 1 rfl rfl IL') ?_ (by decide) ⟨rfl, rfl⟩ ?_ ?_
  · intro a ha
    rw [List.mem_singleton.mp ha]
    exact ⟨_, F.keep _ _ hf⟩
  · rintro i v ys S₁ I oI D C h₂ tk₂ m₁ hi hv hJ9 hyl F₁ N₁ hoff hID hDC hI U9 hU9 V9 hV9
    obtain ⟨rfl, hys⟩ := hJ9
    obtain rfl : i = 0 := Nat.lt_one_iff.mp hi
    obtain rfl : Value.ref t = v := Option.some.inj hv
    refine assign_any F₁ N₁ rfl rfl ?_
    intro h₃ F₂ N₂
    refine wpAny_tests_one ?_
    k_steps
    refine wpAny_call (counts_in_flight_ping_spec ⟨X'.keeps F₂.keep, T'.keeps F₂.keep⟩ (hA.deeper _) (v2 := v2) (v3 := v3) (v4 := v4) (F₂.keep _ _ (F.keep _ _ ht)) ?_)
    intro v h' tk hk hv
    subst hv
    have F' := Fr.keeps (by assumption) hk
    have N' := News.grown (by assumption) hk
    dsimp only
    k_steps
    subst hys
    (first | refine hU9 _ _ ?_ | refine hV9 _ ?_)
    exact CompEnd'.mk [] (by assumption) (by assumption) (fun _ h => nomatch h) ⟨rfl, rfl⟩
  · rintro ys S₁ D h₂ tk₂ hJ9 hyl LD₂ hoff hD
    obtain ⟨rfl, rfl⟩ := hJ9
    have F₂ := F.keeps LD₂.sub
    have N₂ := led_news F LD₂
    k_steps
    refine list_ne_nil (News.isList (by assumption) (by k_mem)) (News.isList (by assumption) (by k_mem)) (Rm.line (hA.deeper _)) ?_
    exact hR _ _ _ (Fr.keep (by assumption)) rfl
set_option maxHeartbeats 4000000 in
theorem any_in_flight_ack_spec {w : World} {A : Around} {s : Shared} {mean mg mb} {R : Result → Shared → Prop} (C : Cx w mean mg mb s.heap) (hA : Rm A 1)
    {fl t nt nf : Nat} {tk1 : Tok} {v2 v3 v4 : Value} (hf : s.heap.get? fl = some { cls := .type "list", data := .seq [Value.ref t].toArray nf }) (ht : s.heap.get? t = some { cls := .type "tuple", data := .seq [.str (Str.ofString "ack") tk1, v2, v3, v4].toArray nt })
    (hR : ∀ v h' tk, s.heap.StaysIn h' → v = .bool false → R (.ok (.ret v)) {s with heap := h', toks := tk}) :
    codeAny (model PRG w) A (.call (.ref 184) ⟨[.ref fl], []⟩) R s := by
  obtain ⟨d, f, g, u, rfl⟩ := hA.norm
  have X := C.X
  have T := C.T
  refine' call_S (binds := [(Str.ofString "row", .ref fl)]) (Led.refl _) (Nat.le_refl _) C ?k1 ?k2 ?k3 ?k4 ?k5 ?_ ?c1 ?c2 ?c3 ?c4
  walk_at "m_open"
  intro L' h₁ F N lt hL
  k_fold
  have IL : s.heap.IsList fl [Value.ref t].toArray := ⟨_, hf, rfl, _, rfl⟩
  k_steps
  walk_at "m_comp"
  k_steps
  have IL' : h₁.IsList fl [Value.ref t].toArray := IL.at fun o e => F.keep _ o e
  have X' := X.keeps F.keep
  have T' := T.keeps F.keep
  refine CompGo.mk h₁ [] [fl] 1 _ (fun i ys S => S = [] ∧ ys = []) (Nat.le_refl _) (Led.refl _) (SrcOk.lst [Value.ref t] 1 rfl rfl IL') ?_ (by decide) ⟨rfl, rfl⟩ ?_ ?_
  · intro a ha
    rw [List.mem_singleton.mp ha]
    exact ⟨_, F.keep _ _ hf⟩
  · rintro i v ys S₁ I oI D C h₂ tk₂ m₁ hi hv hJ9 hyl F₁ N₁ hoff hID hDC hI U9 hU9 V9 hV9
    obtain ⟨rfl, hys⟩ := hJ9
    obtain rfl : i = 0 := Nat.lt_one_iff.mp hi
    obtain rfl : Value.ref t = v := Option.some.inj hv
    refine assign_any F₁ N₁ rfl rfl ?_
    intro h₃ F₂ N₂
    refine wpAny_tests_one ?_
    k_steps
    refine wpAny_call (counts_in_flight_ack_spec ⟨X'.keeps F₂.keep, T'.keeps F₂.keep⟩ (hA.deeper _) (v2 := v2) (v3 := v3) (v4 := v4) (F₂.keep _ _ (F.keep _ _ ht)) ?_)
    intro v h' tk hk hv
    subst hv
    have F' := Fr.keeps (by assumption) hk
    have N' := News.grown (by assumption) hk
    dsimp only
    k_steps
    subst hys
    (first | refine hU9 _ _ ?_ | refine hV9 _ ?_)
    exact CompEnd'.mk [] (by assumption) (by assumption) (fun _ h => nomatch h) ⟨rfl, rfl⟩
  · rintro ys S₁ D h₂ tk₂ hJ9 hyl LD₂ hoff hD
    obtain ⟨rfl, rfl⟩ := hJ9
    have F₂ := F.keeps LD₂.sub
    have N₂ := led_news F LD₂
    k_steps
    refine list_ne_nil (News.isList (by assumption) (by k_mem)) (News.isList (by assumption) (by k_mem)) (Rm.line (hA.deeper _)) ?_
    exact hR _ _ _ (Fr.keep (by assumption)) rfl
end
local macro_rules | `(tactic| walk_at "m_openc") => `(tactic| (
  (case k1 => exact Rm.room (by assumption)); (case k2 => k_is); (case k3 => k_is); (case k4 => exact BindsTo.of_eq rfl); (case k5 => exact rfl); (case k6 => decide +kernel);
  (case c1 => exact rfl); (case c2 => exact rfl); (case c3 => exact rfl)))
local macro_rules | `(tactic| walk_at "subscriptTail") => `(tactic| (k_here; (with_reducible show wpAny _ _ (subscriptTail _ _ (Value.ref _) (Value.int _ _)) _ _ _); (refine' item_DB ?F ?D ?l ?_; (case F => k_asm); (case D => assumption); (case l => assumption); k_whole)))
section
def maxO (la : Option Int) (n : Int) : Int := match la with | none => n | some l => max l n
def FrameT (h : Heap) (t : Addr) : Bool → Prop
  | true => ∃ nt tk1, h.get? t = some { cls := .type "tuple", data := .seq [Value.str (Str.ofString "ping") tk1].toArray nt }
  | false => ∃ nt tk1 v2 v3 v4, h.get? t = some { cls := .type "tuple", data := .seq [Value.str (Str.ofString "ack") tk1, v2, v3, v4].toArray nt }
def FramesAt (h : Heap) (fl : Addr) (kind : Bool) : Prop := ∃ t nf, h.get? fl = some { cls := .type "list", data := .seq [Value.ref t].toArray nf } ∧ FrameT h t kind
theorem FramesAt.keeps {h h' : Heap} {fl : Addr} {kind : Bool} (x : FramesAt h fl kind) (k : h.StaysIn h') : FramesAt h' fl kind := by
  obtain ⟨t, nf, h1, h2⟩ := x
  refine ⟨t, nf, k _ _ h1, ?_⟩
  cases kind with
  | true => obtain ⟨nt, tk1, h3⟩ := h2; exact ⟨nt, tk1, k _ _ h3⟩
  | false => obtain ⟨nt, tk1, v2, v3, v4, h3⟩ := h2; exact ⟨nt, tk1, v2, v3, v4, k _ _ h3⟩
set_option maxHeartbeats 4000000 in
theorem any_eliciting_spec {w : World} {A : Around} {s : Shared} {mean mg mb} {R : Result → Shared → Prop} (C : Cx w mean mg mb s.heap) (hA : Rm A 1)
    {fl : Addr} {kind : Bool} (hf : FramesAt s.heap fl kind)
    (hR : ∀ v h' tk, s.heap.StaysIn h' → v = .bool kind → R (.ok (.ret v)) {s with heap := h', toks := tk}) :
    codeAny (model PRG w) A (.call (.ref 179) ⟨[.ref fl], []⟩) R s := by
  obtain ⟨t, nf, h1, h2⟩ := hf
  cases kind with
  | true => obtain ⟨nt, tk1, h3⟩ := h2; exact any_eliciting_ping_spec C hA (v2 := .none) (v3 := .none) (v4 := .none) h1 h3 hR
  | false => obtain ⟨nt, tk1, v2, v3, v4, h3⟩ := h2; exact any_eliciting_ack_spec C hA h1 h3 hR
set_option maxHeartbeats 4000000 in
theorem any_in_flight_spec {w : World} {A : Around} {s : Shared} {mean mg mb} {R : Result → Shared → Prop} (C : Cx w mean mg mb s.heap) (hA : Rm A 1)
    {fl : Addr} {kind : Bool} (hf : FramesAt s.heap fl kind)
    (hR : ∀ v h' tk, s.heap.StaysIn h' → v = .bool kind → R (.ok (.ret v)) {s with heap := h', toks := tk}) :
    codeAny (model PRG w) A (.call (.ref 184) ⟨[.ref fl], []⟩) R s := by
  obtain ⟨t, nf, h1, h2⟩ := hf
  cases kind with
  | true => obtain ⟨nt, tk1, h3⟩ := h2; exact any_in_flight_ping_spec C hA (v2 := .none) (v3 := .none) (v4 := .none) h1 h3 hR
  | false => obtain ⟨nt, tk1, v2, v3, v4, h3⟩ := h2; exact any_in_flight_ack_spec C hA h1 h3 hR
inductive PktI (P : Params) (p : Pkt) (fl : Addr) : Obj → Prop
  | mk (t0 t1 t2 t3 t4 t5 v0 v1 v2 : Tok) : PktI P p fl (dictOf [⟨PyData.keyHash P (Str.ofString "number"), .str (Str.ofString "number") t0, .int p.num v0⟩, ⟨PyData.keyHash P (Str.ofString "time"), .str (Str.ofString "time") t1, .int p.time v1⟩, ⟨PyData.keyHash P (Str.ofString "size"), .str (Str.ofString "size") t2, .int p.size v2⟩, ⟨PyData.keyHash P (Str.ofString "frames"), .str (Str.ofString "frames") t3, .ref fl⟩, ⟨PyData.keyHash P (Str.ofString "is_eliciting"), .str (Str.ofString "is_eliciting") t4, .bool p.kind⟩, ⟨PyData.keyHash P (Str.ofString "in_flight"), .str (Str.ofString "in_flight") t5, .bool p.kind⟩] 6)
abbrev PktD (P : Params) (o : Obj) (p : Pkt) (fl : Addr) : Prop := PktI P p fl o
set_option maxHeartbeats 4000000 in
theorem pkt_init_spec {w : World} {A : Around} {s : Shared} {mean mg mb} {R : Result → Shared → Prop} {b : Heap} (C : Cx w mean mg mb b) (hA : Rm A 2)
    {x dx fl : Addr} {p : Pkt} (LD : Led b s.heap [(dx, dictOf [] 0)]) (hb : b.objs.size ≤ s.heap.objs.size) (hx : b.get? x = some (instObj 211 dx)) (hf : FramesAt b fl p.kind)
    {ts1 ts2 ts3 : Tok}
    (hR : ∀ v h' tk o', Led b h' [(dx, o')] → PktD w.params o' p fl → v = .none → R (.ok (.ret v)) {s with heap := h', toks := tk}) :
    codeAny (model PRG w) A (.call (.ref 208) ⟨[.ref x, .int p.num ts1, .int p.time ts2, .int p.size ts3, .ref fl], []⟩) R s := by
  obtain ⟨d, f, g, u, rfl⟩ := hA.norm
  have X := C.X
  have T := C.T
  refine' call_S (binds := [(Str.ofString "self", .ref x), (Str.ofString "number", .int p.num ts1), (Str.ofString "time", .int p.time ts2), (Str.ofString "size", .int p.size ts3), (Str.ofString "frames", .ref fl)]) LD hb C ?k1 ?k2 ?k3 ?k4 ?k5 ?_ ?c1 ?c2 ?c3 ?c4
  walk_at "m_open"
  intro L' h₁ F N lt hL
  k_fold
  k_steps
  refine wpAny_call (any_eliciting_spec (C.keeps (Fr.keep (by assumption))) (hA.deeper _) (hf.keeps (Fr.keep (by assumption))) ?_)
  intro v h' tk hk hv
  subst hv
  have F' := Fr.keeps (by assumption) hk
  have N' := News.grown (by assumption) hk
  dsimp only
  k_steps
  refine wpAny_call (any_in_flight_spec (C.keeps (Fr.keep (by assumption))) (hA.deeper _) (hf.keeps (Fr.keep (by assumption))) ?_)
  intro v h' tk hk hv
  subst hv
  have F' := Fr.keeps (by assumption) hk
  have N' := News.grown (by assumption) hk
  dsimp only
  k_steps
  exact hR _ _ _ _ (led_of (by assumption) (by assumption) (fun p hp => hp)) ⟨_, _, _, _, _, _, _, _, _⟩ rfl
set_option maxHeartbeats 4000000 in
theorem nr_init_spec {w : World} {A : Around} {s : Shared} {mean mg mb} {R : Result → Shared → Prop} {b : Heap} (C : Cx w mean mg mb b) (hA : Rm A 1)
    {x dx : Addr} (LD : Led b s.heap [(dx, dictOf [] 0)]) (hb : b.objs.size ≤ s.heap.objs.size) (hx : b.get? x = some (instObj 155 dx)) {ts : Tok}
    (hR : ∀ v h' tk o', Led b h' [(dx, o')] → RenoIs w.params o' { win := 1000, thr := none, rcv := none, inf := 0, cr := 0 } → v = .none → R (.ok (.ret v)) {s with heap := h', toks := tk}) :
    codeAny (model PRG w) A (.call (.ref 82) ⟨[.ref x, .int 100 ts], []⟩) R s := by
  obtain ⟨d, f, g, u, rfl⟩ := hA.norm
  have X := C.X
  have T := C.T
  refine' call_S (binds := [(Str.ofString "self", .ref x), (Str.ofString "datagram", .int 100 ts)]) LD hb C ?k1 ?k2 ?k3 ?k4 ?k5 ?_ ?c1 ?c2 ?c3 ?c4
  walk_at "m_open"
  intro L' h₁ F N lt hL
  k_fold
  k_steps
  refine wpAny_call (initial_window_spec (C.keeps (Fr.keep (by assumption))) (hA.deeper _) ?_)
  intro v h' tk tt hk hv
  subst hv
  have F' := Fr.keeps (by assumption) hk
  have N' := News.grown (by assumption) hk
  dsimp only
  k_steps
  exact hR _ _ _ _ (led_of (by assumption) (by assumption) (fun p hp => hp)) ⟨_, _, _, _, _, _, _, _, 0, 0, _, _⟩ rfl
inductive SpaceI (P : Params) (sd : Addr) (nx : Int) (la : Option Int) : Obj → Prop
  | mk (t0 t1 t2 t3 t4 t5 t6 t7 t8 t9 t10 t11 t12 t13 t14 t15 t16 v0 v1 : Tok) (vn va vl vt vr vs vg vf vu vk vw vh ve vi : Value) : SpaceI P sd nx la (dictOf [⟨PyData.keyHash P (Str.ofString "name"), .str (Str.ofString "name") t0, vn⟩, ⟨PyData.keyHash P (Str.ofString "next_number"), .str (Str.ofString "next_number") t1, .int nx v0⟩, ⟨PyData.keyHash P (Str.ofString "sent"), .str (Str.ofString "sent") t2, .ref sd⟩, ⟨PyData.keyHash P (Str.ofString "largest_acked"), .str (Str.ofString "largest_acked") t3, optV la v1⟩, ⟨PyData.keyHash P (Str.ofString "acked"), .str (Str.ofString "acked") t4, va⟩, ⟨PyData.keyHash P (Str.ofString "last_eliciting_time"), .str (Str.ofString "last_eliciting_time") t5, vl⟩, ⟨PyData.keyHash P (Str.ofString "loss_time"), .str (Str.ofString "loss_time") t6, vt⟩, ⟨PyData.keyHash P (Str.ofString "received"), .str (Str.ofString "received") t7, vr⟩, ⟨PyData.keyHash P (Str.ofString "largest_seen"), .str (Str.ofString "largest_seen") t8, vs⟩, ⟨PyData.keyHash P (Str.ofString "largest_time"), .str (Str.ofString "largest_time") t9, vg⟩, ⟨PyData.keyHash P (Str.ofString "floor"), .str (Str.ofString "floor") t10, vf⟩, ⟨PyData.keyHash P (Str.ofString "first_unacked"), .str (Str.ofString "first_unacked") t11, vu⟩, ⟨PyData.keyHash P (Str.ofString "unacked"), .str (Str.ofString "unacked") t12, vk⟩, ⟨PyData.keyHash P (Str.ofString "wants_now"), .str (Str.ofString "wants_now") t13, vw⟩, ⟨PyData.keyHash P (Str.ofString "has_new"), .str (Str.ofString "has_new") t14, vh⟩, ⟨PyData.keyHash P (Str.ofString "ecn"), .str (Str.ofString "ecn") t15, ve⟩, ⟨PyData.keyHash P (Str.ofString "is_gone"), .str (Str.ofString "is_gone") t16, vi⟩] 17)
abbrev SpaceD (P : Params) (o : Obj) (sd : Addr) (nx : Int) (la : Option Int) : Prop := SpaceI P sd nx la o
set_option maxHeartbeats 4000000 in
theorem space_init_spec {w : World} {A : Around} {s : Shared} {mean mg mb} {R : Result → Shared → Prop} {b : Heap} (C : Cx w mean mg mb b) (hA : Rm A 0)
    {x dx : Addr} {vn : Value} (LD : Led b s.heap [(dx, dictOf [] 0)]) (hb : b.objs.size ≤ s.heap.objs.size) (hx : b.get? x = some (instObj 354 dx))
    (hR : ∀ v h' tk o' sd os, Led b h' [(dx, o'), (sd, os)] → sd ≠ dx → (sd == sysModules) = false → SpaceD w.params o' sd 0 none → os.IsDictOf (PySem.intKind PRG w) [] → v = .none → R (.ok (.ret v)) {s with heap := h', toks := tk}) :
    codeAny (model PRG w) A (.call (.ref 229) ⟨[.ref x, vn], []⟩) R s := by
  obtain ⟨d, f, g, u, rfl⟩ := hA.norm
  have X := C.X
  have T := C.T
  refine' call_S (binds := [(Str.ofString "self", .ref x), (Str.ofString "name", vn)]) LD hb C ?k1 ?k2 ?k3 ?k4 ?k5 ?_ ?c1 ?c2 ?c3 ?c4
  walk_at "m_open"
  intro L' h₁ F N lt hL
  k_fold
  k_steps
  exact hR _ _ _ _ _ _ (led2 (by assumption) (by assumption) (.tail _ (.tail _ (.tail _ (.tail _ (.head _))))) (.tail _ (.tail _ (.tail _ (.head _))))) (by k_ne) (by assumption) ⟨_, _, _, _, _, _, _, _, _, _, _, _, _, _, _, _, _, _, 0, _, _, _, _, _, _, _, _, _, _, _, _, _, _⟩ (by assumption) rfl
set_option maxHeartbeats 4000000 in
theorem take_number_spec {w : World} {A : Around} {s : Shared} {mean mg mb} {R : Result → Shared → Prop} {b : Heap} (C : Cx w mean mg mb b) (hA : Rm A 0)
    {x dx sd : Addr} {o : Obj} {nx : Int} {la : Option Int} (LD : Led b s.heap [(dx, o)]) (hb : b.objs.size ≤ s.heap.objs.size) (hx : b.get? x = some (instObj 354 dx)) (ho : SpaceD w.params o sd nx la)
    (hR : ∀ v h' tk o' t, Led b h' [(dx, o')] → SpaceD w.params o' sd (nx + 1) la → v = .int nx t → R (.ok (.ret v)) {s with heap := h', toks := tk}) :
    codeAny (model PRG w) A (.call (.ref 271) ⟨[.ref x], []⟩) R s := by
  obtain ⟨t0, t1, t2, t3, t4, t5, t6, t7, t8, t9, t10, t11, t12, t13, t14, t15, t16, v0, v1, vn, va, vl, vt, vr, vs, vg, vf, vu, vk, vw, vh, ve, vi⟩ := ho
  obtain ⟨d, f, g, u, rfl⟩ := hA.norm
  have X := C.X
  have T := C.T
  refine' call_S (binds := [(Str.ofString "self", .ref x)]) LD hb C ?k1 ?k2 ?k3 ?k4 ?k5 ?_ ?c1 ?c2 ?c3 ?c4
  walk_at "m_open"
  intro L' h₁ F N lt hL
  k_fold
  k_steps
  refine hR _ _ _ _ _ (led_of (by assumption) (by assumption) (fun p hp => hp)) ⟨_, _, _, _, _, _, _, _, _, _, _, _, _, _, _, _, _, _, _, _, _, _, _, _, _, _, _, _, _, _, _, _, _⟩ (vint ?_)
  omega
set_option maxHeartbeats 4000000 in
theorem note_largest_spec {w : World} {A : Around} {s : Shared} {mean mg mb} {R : Result → Shared → Prop} {b : Heap} (C : Cx w mean mg mb b) (hA : Rm A 0)
    {x dx sd : Addr} {o : Obj} {nx n : Int} {la : Option Int} {tn : Tok} (LD : Led b s.heap [(dx, o)]) (hb : b.objs.size ≤ s.heap.objs.size) (hx : b.get? x = some (instObj 354 dx)) (ho : SpaceD w.params o sd nx la)
    (hR : ∀ v h' tk o', Led b h' [(dx, o')] → SpaceD w.params o' sd nx (some (maxO la n)) → v = .none → R (.ok (.ret v)) {s with heap := h', toks := tk}) :
    codeAny (model PRG w) A (.call (.ref 318) ⟨[.ref x, .int n tn], []⟩) R s := by
  obtain ⟨t0, t1, t2, t3, t4, t5, t6, t7, t8, t9, t10, t11, t12, t13, t14, t15, t16, v0, v1, vn, va, vl, vt, vr, vs, vg, vf, vu, vk, vw, vh, ve, vi⟩ := ho
  obtain ⟨d, f, g, u, rfl⟩ := hA.norm
  have X := C.X
  have T := C.T
  refine' call_S (binds := [(Str.ofString "self", .ref x), (Str.ofString "number", .int n tn)]) LD hb C ?k1 ?k2 ?k3 ?k4 ?k5 ?_ ?c1 ?c2 ?c3 ?c4
  walk_at "m_open"
  intro L' h₁ F N lt hL
  k_fold
  cases la with
  | none =>
    dsimp only [optV] at N
    k_steps
    all_goals exact hR _ _ _ _ (led_of (by assumption) (by assumption) (fun p hp => hp)) ⟨_, _, _, _, _, _, _, _, _, _, _, _, _, _, _, _, _, _, _, _, _, _, _, _, _, _, _, _, _, _, _, _, _⟩ rfl
  | some l =>
    dsimp only [optV] at N
    k_steps
    · rw [show maxO (some l) n = n by simp only [maxO]; omega] at hR
      exact hR _ _ _ _ (led_of (by assumption) (by assumption) (fun p hp => hp)) ⟨_, _, _, _, _, _, _, _, _, _, _, _, _, _, _, _, _, _, _, _, _, _, _, _, _, _, _, _, _, _, _, _, _⟩ rfl
    · rw [show maxO (some l) n = l by simp only [maxO]; omega] at hR
      exact hR _ _ _ _ (led_of (by assumption) (by assumption) (fun p hp => hp)) ⟨_, _, _, _, _, _, _, _, _, _, _, _, _, _, _, _, _, _, _, _, _, _, _, _, _, _, _, _, _, _, _, _, _⟩ rfl
end
section
local macro_rules | `(tactic| walk_at "pad") => `(tactic| skip)
theorem Rm.make {A : Around} {n : Nat} (r : Rm A (n + 1)) (C : Addr) (vals : List Value) : Rm (A.under (.builtin "type.__call__" ⟨.ref C :: vals, []⟩)) n := by
  refine ⟨r.handled, ?_, ?_⟩
  · have := r.depth; show A.depth + 1 + n < 900; omega
  · have := r.units; have h2 : (Code.builtin "type.__call__" ⟨.ref C :: vals, []⟩).cUnits = 1 := rfl
    show A.units + (Code.builtin "type.__call__" ⟨.ref C :: vals, []⟩).cUnits + 20 * n < 9000; omega
section
variable {w : World} {A : Around} {E : Value → Shared → Prop} {s : Shared} {h₀ : Heap} {L : Addr} {m : Str → Option Value} {news : List (Addr × Obj)} {mean : ExcName → Option Value} {mg mb : Str → Option Value}
theorem new_pkt {Q : Value → Shared → Prop} {p : Pkt} {fl : Addr} {ts1 ts2 ts3 : Tok} (F : Fr h₀ L s.heap m) (N : News h₀ L s.heap news) (C : Cx w mean mg mb h₀) (hA : Rm A 4) (hf : FramesAt h₀ fl p.kind)
    (h : ∀ x dx o h' tk, Fr h₀ L h' m → News h₀ L h' ((dx, o) :: (x, instObj 211 dx) :: news) → (∀ q ∈ news, q.1 ≠ x ∧ q.1 ≠ dx) → x ≠ dx → PktD w.params o p fl → Q (.ref x) { s with heap := h', toks := tk }) :
    wpAny (model PRG w) A (call (.ref 211) [.int p.num ts1, .int p.time ts2, .int p.size ts3, .ref fl] []) Q E s := by
  refine call_cls (fI := 208) F C.X N (by k_is) (by k_is) (by k_is) ?_
  intro x dx h' F' N' l1 l2
  have N₂ : News h₀ L h' ([(dx, dictOf [] 0)] ++ ((x, instObj 211 dx) :: news)) := fun p hp => N' p (by simp only [List.cons_append, List.nil_append, List.mem_cons] at hp ⊢; rcases hp with h | h | h; exact .inr (.inl h); exact .inl h; exact .inr (.inr h))
  obtain ⟨g, hg, LD, st, hrest, back⟩ := shift [(dx, dictOf [] 0)] ((x, instObj 211 dx) :: news) F' N₂ (by
    intro p hp q hq
    rw [List.mem_singleton.mp hq]
    rcases List.mem_cons.mp hp with rfl | hp
    · exact (Nat.ne_of_lt l2).symm
    · exact Nat.ne_of_lt (l1 p hp))
  refine pkt_init_spec (C.keeps st) ((hA.make _ _).less (by omega)) LD hg (hrest _ (.head _)) (hf.keeps st) ?_
  intro v h'' tk o' LD' ho' hv
  subst hv
  obtain ⟨F₃, N₃, _⟩ := back _ _ LD'
  exact ⟨rfl, h x dx o' h'' tk F₃ N₃ (fun q hq => ⟨Nat.ne_of_lt (Nat.lt_trans (l1 q hq) l2), Nat.ne_of_lt (l1 q hq)⟩) (Nat.ne_of_lt l2).symm ho'⟩
theorem new_reno {Q : Value → Shared → Prop} {ts : Tok} (F : Fr h₀ L s.heap m) (N : News h₀ L s.heap news) (C : Cx w mean mg mb h₀) (hA : Rm A 3)
    (h : ∀ x dx o h' tk, Fr h₀ L h' m → News h₀ L h' ((dx, o) :: (x, instObj 155 dx) :: news) → (∀ q ∈ news, q.1 ≠ x ∧ q.1 ≠ dx) → x ≠ dx → RenoIs w.params o { win := 1000, thr := none, rcv := none, inf := 0, cr := 0 } → Q (.ref x) { s with heap := h', toks := tk }) :
    wpAny (model PRG w) A (call (.ref 155) [.int 100 ts] []) Q E s := by
  refine call_cls (fI := 82) F C.X N (by k_is) (by k_is) (by k_is) ?_
  intro x dx h' F' N' l1 l2
  have N₂ : News h₀ L h' ([(dx, dictOf [] 0)] ++ ((x, instObj 155 dx) :: news)) := fun p hp => N' p (by simp only [List.cons_append, List.nil_append, List.mem_cons] at hp ⊢; rcases hp with h | h | h; exact .inr (.inl h); exact .inl h; exact .inr (.inr h))
  obtain ⟨g, hg, LD, st, hrest, back⟩ := shift [(dx, dictOf [] 0)] ((x, instObj 155 dx) :: news) F' N₂ (by
    intro p hp q hq
    rw [List.mem_singleton.mp hq]
    rcases List.mem_cons.mp hp with rfl | hp
    · exact (Nat.ne_of_lt l2).symm
    · exact Nat.ne_of_lt (l1 p hp))
  refine nr_init_spec (C.keeps st) ((hA.make _ _).less (by omega)) LD hg (hrest _ (.head _)) ?_
  intro v h'' tk o' LD' ho' hv
  subst hv
  obtain ⟨F₃, N₃, _⟩ := back _ _ LD'
  exact ⟨rfl, h x dx o' h'' tk F₃ N₃ (fun q hq => ⟨Nat.ne_of_lt (Nat.lt_trans (l1 q hq) l2), Nat.ne_of_lt (l1 q hq)⟩) (Nat.ne_of_lt l2).symm ho'⟩
theorem new_space {Q : Value → Shared → Prop} {vn : Value} (F : Fr h₀ L s.heap m) (N : News h₀ L s.heap news) (C : Cx w mean mg mb h₀) (hA : Rm A 3)
    (h : ∀ x dx sd o os h' tk, Fr h₀ L h' m → News h₀ L h' ((dx, o) :: (sd, os) :: (x, instObj 354 dx) :: news) → (∀ q ∈ news, q.1 ≠ x ∧ q.1 ≠ dx ∧ q.1 ≠ sd) → x ≠ dx → x ≠ sd → sd ≠ dx → (sd == sysModules) = false → SpaceD w.params o sd 0 none → os.IsDictOf (PySem.intKind PRG w) [] → Q (.ref x) { s with heap := h', toks := tk }) :
    wpAny (model PRG w) A (call (.ref 354) [vn] []) Q E s := by
  refine call_cls (fI := 229) F C.X N (by k_is) (by k_is) (by k_is) ?_
  intro x dx h' F' N' l1 l2
  have N₂ : News h₀ L h' ([(dx, dictOf [] 0)] ++ ((x, instObj 354 dx) :: news)) := fun p hp => N' p (by simp only [List.cons_append, List.nil_append, List.mem_cons] at hp ⊢; rcases hp with h | h | h; exact .inr (.inl h); exact .inl h; exact .inr (.inr h))
  obtain ⟨g, hg, LD, st, hrest, back⟩ := shift [(dx, dictOf [] 0)] ((x, instObj 354 dx) :: news) F' N₂ (by
    intro p hp q hq
    rw [List.mem_singleton.mp hq]
    rcases List.mem_cons.mp hp with rfl | hp
    · exact (Nat.ne_of_lt l2).symm
    · exact Nat.ne_of_lt (l1 p hp))
  refine space_init_spec (C.keeps st) ((hA.make _ _).less (by omega)) LD hg (hrest _ (.head _)) ?_
  intro v h'' tk o' sd os LD' hne hlo ho' hos hv
  subst hv
  obtain ⟨F₃, N₃, off⟩ := back _ _ LD'
  exact ⟨rfl, h x dx sd o' os h'' tk F₃ N₃ (fun q hq => ⟨Nat.ne_of_lt (Nat.lt_trans (l1 q hq) l2), Nat.ne_of_lt (l1 q hq), off q (.tail _ hq) (sd, os) (.tail _ (.head _))⟩) (Nat.ne_of_lt l2).symm (off (x, instObj 354 dx) (.head _) (sd, os) (.tail _ (.head _))) hne hlo ho' hos⟩
end
set_option maxHeartbeats 4000000 in
theorem on_sent_spec {w : World} {A : Around} {s : Shared} {mean mg mb} {R : Result → Shared → Prop} {b : Heap} (C : Cx w mean mg mb b) (hA : Rm A 5)
    {x dx sd fl : Addr} {o os : Obj} {nx : Int} {la : Option Int} {kvs : List (Int × Value)} {p : Pkt} {ts1 ts2 ts3 : Tok} (LD : Led b s.heap [(dx, o), (sd, os)]) (hb : b.objs.size ≤ s.heap.objs.size) (hx : b.get? x = some (instObj 354 dx)) (hne : dx ≠ sd)
    (ho : SpaceD w.params o sd nx la) (hos : os.IsDictOf (PySem.intKind PRG w) kvs) (hsz : kvs.length ≤ 100000) (hf : FramesAt b fl p.kind)
    (hR : ∀ px pdx v h' tk o' os' po, Led b h' [(dx, o'), (sd, os'), (pdx, po), (px, instObj 211 pdx)] → SpaceD w.params o' sd nx la → os'.IsDictOf (PySem.intKind PRG w) (stored kvs p.num (.ref px)) → PktD w.params po p fl →
      px ≠ pdx → px ≠ dx → px ≠ sd → pdx ≠ dx → pdx ≠ sd → v = .ref px → R (.ok (.ret v)) {s with heap := h', toks := tk}) :
    codeAny (model PRG w) A (.call (.ref 278) ⟨[.ref x, .int p.num ts1, .int p.time ts2, .int p.size ts3, .ref fl], []⟩) R s := by
  obtain ⟨t0, t1, t2, t3, t4, t5, t6, t7, t8, t9, t10, t11, t12, t13, t14, t15, t16, v0, v1, vn, va, vl, vt, vr, vs, vg, vf, vu, vk, vw, vh, ve, vi⟩ := ho
  obtain ⟨d, f, g, u, rfl⟩ := hA.norm
  have X := C.X
  have T := C.T
  refine' call_S (binds := [(Str.ofString "self", .ref x), (Str.ofString "number", .int p.num ts1), (Str.ofString "now", .int p.time ts2), (Str.ofString "size", .int p.size ts3), (Str.ofString "frames", .ref fl)]) LD hb C ?k1 ?k2 ?k3 ?k4 ?k5 ?_ ?c1 ?c2 ?c3 ?c4
  walk_at "m_open"
  intro L' h₁ F N lt hL
  k_fold
  k_steps
  refine new_pkt (by assumption) (by assumption) C ((hA.deeper _).less (by omega)) hf ?_
  intro px pdx po h' tk F' N' off hpp hpo
  obtain ⟨⟨a1, a2⟩, a3⟩ := List.forall_mem_cons.mp off
  obtain ⟨⟨a4, a5⟩, _⟩ := List.forall_mem_cons.mp a3
  replace a1 := neN a1
  replace a2 := neN a2
  replace a4 := neN a4
  replace a5 := neN a5
  replace hpp := neN hpp
  replace hne := neN hne
  try dsimp only at a1 a2 a4 a5
  obtain ⟨u0, u1, u2, u3, u4, u5, w0, w1, w2⟩ := hpo
  k_steps
  refine' kda_set (knd := PySem.intKind _ _) ?F ?N ?U hos (intKind_is _ _ _ _) ?z ?_
  case F => k_asm
  case N => k_asm
  case U => k_updF
  case z => exact Nat.le_trans hsz (by decide)
  intro h' os' F' N' hd'
  try dsimp only at N'
  k_steps
  all_goals exact hR px pdx _ _ _ _ _ _ (((((led_nil (by assumption)).cons (by assumption) (.tail _ (.head _))).cons (by assumption) (.head _)).cons (by assumption) (.tail _ (.tail _ (.tail _ (.head _))))).cons (by assumption) (.tail _ (.tail _ (.head _)))) ⟨_, _, _, _, _, _, _, _, _, _, _, _, _, _, _, _, _, _, _, _, _, _, _, _, _, _, _, _, _, _, _, _, _⟩ (by assumption) ⟨_, _, _, _, _, _, _, _, _⟩ hpp a1.symm a4.symm a2.symm a5.symm rfl
end
local macro_rules | `(tactic| walk_at "m_compA") => `(tactic| (refine stop_out ?_; refine' compA_S ?c0 ?c1 ?c2 ?c3 ?c4 ?c5 ?c6 ?c7 ?_; (case c0 => exact rfl); (case c1 => exact rfl); (case c2 => decide); (case c3 => exact rfl); (case c4 => decide); (case c5 => intro _; rfl); (case c6 => exact rfl); (case c7 => exact rfl)))
section
local macro_rules | `(tactic| walk_at "pad") => `(tactic| skip)
set_option maxHeartbeats 4000000 in
theorem detect_lost_spec {w : World} {A : Around} {s : Shared} {mean mg mb} {R : Result → Shared → Prop} (C : Cx w mean mg mb s.heap) (hA : Rm A 2)
    {rd : Addr} {od : Obj} {kvs : List (Int × Value)} {ps : List Pkt} {la : Option Int} {now delay : Int} {ts1 ts2 ts3 : Tok} (hrd : s.heap.get? rd = some od) (hd : od.IsDictOf (PySem.intKind PRG w) kvs) (lo : (rd == sysModules) = false)
    (hrows : RowsAt s.heap kvs ps) (hasc : (ps.map (·.num)).Pairwise (· < ·)) (hlen : ps.length < 64)
    (hR : ∀ T ll lvs c nt tl h' tk v, Led s.heap h' [(T, tupO [.ref ll, optV (detect la now delay ps).2 tl] nt), (ll, PySem.W.listOf lvs.toArray c)] → IntsAre lvs (detect la now delay ps).1 → T ≠ ll → v = .ref T → R (.ok (.ret v)) {s with heap := h', toks := tk}) :
    codeAny (model PRG w) A (.call (.ref 42) ⟨[.ref rd, optV la ts1, .int now ts2, .int delay ts3], []⟩) R s := by
  obtain ⟨d, f, g, u, rfl⟩ := hA.norm
  have X := C.X
  have T := C.T
  refine' call_S (binds := [(Str.ofString "sent", .ref rd), (Str.ofString "largest", optV la ts1), (Str.ofString "now", .int now ts2), (Str.ofString "delay", .int delay ts3)]) (Led.refl _) (Nat.le_refl _) C ?k1 ?k2 ?k3 ?k4 ?k5 ?_ ?c1 ?c2 ?c3 ?c4
  walk_at "m_open"
  intro L' h₁ F N lt hL
  k_fold
  cases la with
  | none =>
    dsimp only [optV] at F
    k_steps
    rename_i ll _ _ T0 _ hlt _ _ _ F0 N0
    refine stop_out ?_
    refine for_S (h₀ := s.heap) ?_ (by intro _; rfl)
    k_steps
    refine sorted_dict rfl (by assumption) (by assumption) lo (dict_base (by assumption) hrd hd) (by rw [← List.length_map (·.1), hrows.keys, List.length_map]; exact hlen) (hrows.keys ▸ hasc) ?_
    intro SL svs sc h' tk F' N' l1 hsv
    rw [hrows.keys] at hsv
    refine ForGo.mk _ [(ll, PySem.W.listOf [].toArray 0)] [(SL, PySem.W.listOf svs.toArray sc)] [SL] ps.length _ (fun i m S => ∃ (u1 : Option Value), m = (mput (Str.ofString "number") (u1) (mput (Str.ofString "lost") (some (.ref ll)) (mput (Str.ofString "later") (some .none) (fun y => List.lookup y [(Str.ofString "sent", .ref rd), (Str.ofString "largest", .none), (Str.ofString "now", .int now ts2), (Str.ofString "delay", .int delay ts3)].reverse)))) ∧
        S = [(ll, PySem.W.listOf [].toArray 0)]) (by assumption) ?_ (SrcOk.lst svs ps.length (by rw [IntsAre.length hsv, List.length_map]) rfl (News.isList (by assumption) (by k_mem))) ?_ ?_ ?_ ?_
    · intro p hp
      refine N' p ?_
      rcases List.mem_cons.mp hp with rfl | hp
      · exact .tail _ (.tail _ (.head _))
      · rw [List.mem_singleton.mp hp]; exact .head _
    · intro a ha
      rw [List.mem_singleton.mp ha]
      exact .inr ⟨_, .head _⟩
    · refine ⟨none, ?_, rfl⟩
      exact ch_eq (by walk_at "m_ch") (by walk_at "m_ch") (by exact rfl) (by exact rfl)
    · rintro i v m₁ S₁ I oI h₁ tk₁ hi hv hJ9 F₁ N₁ hSI hZI hIs U9 hU9
      obtain ⟨u1, hJ9⟩ := hJ9
      obtain ⟨rfl, rfl⟩ := hJ9
      refine assign_any F₁ N₁ rfl rfl ?_
      intro h₂ F₂ N₂
      k_steps
      refine hU9 _ _ ?_
      refine TurnEnd.mk [(ll, PySem.W.listOf [].toArray 0)] F₂ N₂ (fun q hq => hSI q hq) ⟨some v, ?_, rfl⟩
      exact ch_eq (by walk_at "m_ch") (by walk_at "m_ch") (by exact rfl) (by exact rfl)
    · rintro m₁ S₁ h₁ tk₁ hJ9 F₁ N₁
      obtain ⟨u1, hJ9⟩ := hJ9
      obtain ⟨rfl, rfl⟩ := hJ9
      dsimp only
      k_steps
      have lx := ‹∀ p ∈ [(ll, PySem.W.listOf [].toArray 0)] ++ [(SL, PySem.W.listOf svs.toArray sc)], p.1 < _› (ll, PySem.W.listOf [].toArray 0) (.head _)
      exact hR _ ll [] 0 0 0 _ _ _ (led2 (by assumption) (by assumption) (.head _) (.tail _ (.head _))) .nil (Nat.ne_of_gt lx) rfl
  | some lg =>
    dsimp only [optV] at F
    k_steps
    rename_i ll _ _ T0 _ hlt _ _ _ F0 N0
    refine stop_out ?_
    refine for_S (h₀ := s.heap) ?_ (by intro _; rfl)
    k_steps
    refine sorted_dict rfl (by assumption) (by assumption) lo (dict_base (by assumption) hrd hd) (by rw [← List.length_map (·.1), hrows.keys, List.length_map]; exact hlen) (hrows.keys ▸ hasc) ?_
    intro SL svs sc h' tk F' N' l1 hsv
    rw [hrows.keys] at hsv
    have l2 := ltN (l1 (T0, _) (.head _))
    have l3 := ltN (l1 (ll, _) (.tail _ (.head _)))
    dsimp only at l2 l3
    have hD : ∀ h : Heap, (∀ b o, s.heap.get? b = some o → h.get? b = some o) → h.DictOf (PySem.intKind PRG w) rd kvs := fun h k => Heap.dictOf_iff.mpr ⟨od, k _ _ hrd, hd⟩
    have hnd := asc_nodup hasc
    refine ForGo.mk _ [(ll, PySem.W.listOf [].toArray 0)] [(SL, PySem.W.listOf svs.toArray sc)] [SL] ps.length _ (fun i m S => ∃ (lvs : List Value) (c : Nat) (tl : Tok) (u1 u2 : Option Value), m = (mput (Str.ofString "later") (some (optV ((ps.take i).foldl (lostStep lg now delay) ([], none)).2 tl)) (mput (Str.ofString "sent_at") (u2) (mput (Str.ofString "number") (u1) (mput (Str.ofString "lost") (some (.ref ll)) (fun y => List.lookup y [(Str.ofString "sent", .ref rd), (Str.ofString "largest", .int lg ts1), (Str.ofString "now", .int now ts2), (Str.ofString "delay", .int delay ts3)].reverse))))) ∧
        S = [(ll, PySem.W.listOf lvs.toArray c)] ∧ IntsAre lvs ((ps.take i).foldl (lostStep lg now delay) ([], none)).1 ∧ lvs.length ≤ i) (by assumption) ?_ (SrcOk.lst svs ps.length (by rw [IntsAre.length hsv, List.length_map]) rfl (News.isList (by assumption) (by k_mem))) ?_ ?_ ?_ ?_
    · intro p hp
      refine N' p ?_
      rcases List.mem_cons.mp hp with rfl | hp
      · exact .tail _ (.tail _ (.head _))
      · rw [List.mem_singleton.mp hp]; exact .head _
    · intro a ha
      rw [List.mem_singleton.mp ha]
      exact .inr ⟨_, .head _⟩
    · refine exI5 [] 0 0 none none ⟨?_, rfl, .nil, Nat.le_refl _⟩
      exact ch_eq (by walk_at "m_ch") (by walk_at "m_ch") (by exact rfl) (by exact rfl)
    · rintro i v m₁ S₁ I oI h₁ tk₁ hi hv hJ9 F₁ N₁ hSI hZI hIs U9 hU9
      refine exE5 hJ9 ?_
      clear hJ9
      rintro lvs c tl u1 u2 hJ9
      refine andE4 hJ9 ?_
      clear hJ9
      rintro rfl rfl hints hll
      obtain ⟨p, hp⟩ : ∃ p, ps[i]? = some p := ⟨ps[i], by simp [hi]⟩
      have hv' : ∃ t, v = .int p.num t := by
        obtain ⟨n, t, e1, e2⟩ := IntsAre.at hsv i v hv
        rw [List.getElem?_map, hp] at e2
        cases e2
        exact ⟨t, e1⟩
      obtain ⟨tv, rfl⟩ := hv'
      obtain ⟨rv, hrv, tt, nt, tt1, tt2, rfl, hrt⟩ := hrows.at hnd hp
      have IT : IsTup s.heap tt [Value.int p.time tt1, .int p.size tt2, .bool p.kind, .bool p.kind].toArray := ⟨_, hrt, rfl, _, rfl⟩
      have hIl := neN (hSI _ (.head _))
      have hIS := ltN (hZI _ (.head _))
      have estep : ∀ a, (ps.take i).foldl (lostStep lg now delay) ([], none) = a → (ps.take (i + 1)).foldl (lostStep lg now delay) ([], none) = lostStep lg now delay a p := fun a e => by
        rw [List.take_add_one, hp, List.foldl_append, e]; rfl
      generalize hacc : (ps.take i).foldl (lostStep lg now delay) ([], none) = acc at F₁ hints
      replace estep := estep _ hacc
      refine assign_any F₁ N₁ rfl rfl ?_
      intro h₂ F₂ N₂
      k_steps
      · refine hU9 _ _ ?_
        refine TurnEnd.mk [(ll, PySem.W.listOf lvs.toArray c)] F₂ N₂ (fun q hq => hSI q hq) (exI5 lvs c tl (some (.int p.num tv)) u2 ⟨?_, rfl, ?_, Nat.le_succ_of_le hll⟩)
        · rw [estep, lostStep, if_pos (by omega)]
          exact ch_eq (by walk_at "m_ch") (by walk_at "m_ch") (by exact rfl) (by exact rfl)
        · rw [estep, lostStep, if_pos (by omega)]
          exact hints
      · have hgt : ¬ p.num > lg := by omega
        refine item_D (hD _ (Fr.keep (by assumption))) hrv ?_
        k_steps
        refine wpAny_call (is_lost_spec (C.keeps (Fr.keep (by assumption))) ((hA.deeper _).less (by omega)) ?_)
        cases hb : isLost lg now delay p
        · intro v h' tk hk hv
          rw [show decide (lg ≥ p.num + 3 ∨ p.time + delay ≤ now) = false from hb] at hv
          subst hv
          have F' := Fr.keeps (by assumption) hk
          have N' := News.grown (by assumption) hk
          try dsimp only
          k_steps
          obtain ⟨al, ao⟩ := acc
          cases ao with
          | none =>
            dsimp only [optV] at F' ⊢
            k_steps
            rename_i FL NL
            refine hU9 _ _ ?_
            refine' TurnEnd.mk [(ll, PySem.W.listOf lvs.toArray c)] FL NL (fun q hq => hSI q hq) (exI5 lvs c _ (some (.int p.num tv)) (some (.int p.time tt1)) ⟨?e1, rfl, ?e2, Nat.le_succ_of_le hll⟩)
            case e1 =>
              rw [estep, lostStep, if_neg hgt, if_neg (by rw [hb]; exact Bool.false_ne_true)]
              exact ch_eq (by walk_at "m_ch") (by walk_at "m_ch") (by exact rfl) (by exact rfl)
            case e2 =>
              rw [estep, lostStep, if_neg hgt, if_neg (by rw [hb]; exact Bool.false_ne_true)]
              exact hints
          | some t0 =>
            dsimp only [optV] at F' ⊢
            k_steps
            · rename_i hlt2 _ _ FL NL
              refine hU9 _ _ ?_
              refine' TurnEnd.mk [(ll, PySem.W.listOf lvs.toArray c)] FL NL (fun q hq => hSI q hq) (exI5 lvs c _ (some (.int p.num tv)) (some (.int p.time tt1)) ⟨?e1, rfl, ?e2, Nat.le_succ_of_le hll⟩)
              case e1 =>
                rw [estep, lostStep, if_neg hgt, if_neg (by rw [hb]; exact Bool.false_ne_true)]
                dsimp only
                rw [if_pos (by assumption)]
                exact ch_eq (by walk_at "m_ch") (by walk_at "m_ch") (by exact rfl) (by exact rfl)
              case e2 =>
                rw [estep, lostStep, if_neg hgt, if_neg (by rw [hb]; exact Bool.false_ne_true)]
                exact hints
            · refine hU9 _ _ ?_
              refine TurnEnd.mk [(ll, PySem.W.listOf lvs.toArray c)] (by assumption) (by assumption) (fun q hq => hSI q hq) (exI5 lvs c tl (some (.int p.num tv)) (some (.int p.time tt1)) ⟨?_, rfl, ?_, Nat.le_succ_of_le hll⟩)
              · rw [estep, lostStep, if_neg hgt, if_neg (by rw [hb]; exact Bool.false_ne_true)]
                dsimp only
                rw [if_neg (by assumption)]
                exact ch_eq (by walk_at "m_ch") (by walk_at "m_ch") (by exact rfl) (by exact rfl)
              · rw [estep, lostStep, if_neg hgt, if_neg (by rw [hb]; exact Bool.false_ne_true)]
                exact hints
        · intro v h' tk hk hv
          rw [show decide (lg ≥ p.num + 3 ∨ p.time + delay ≤ now) = true from hb] at hv
          subst hv
          have F' := Fr.keeps (by assumption) hk
          have N' := News.grown (by assumption) hk
          try dsimp only
          k_steps
          rename_i FL NL
          rw [List.push_toArray] at NL
          refine hU9 _ _ ?_
          refine TurnEnd.mk [(ll, PySem.W.listOf (lvs ++ [Value.int p.num tv]).toArray (c + 1))] FL NL (fun q hq => by rw [List.mem_singleton.mp hq]; exact hIl) (exI5 (lvs ++ [Value.int p.num tv]) (c + 1) tl (some (.int p.num tv)) (some (.int p.time tt1)) ⟨?_, rfl, ?_, by rw [List.length_append]; exact Nat.succ_le_succ hll⟩)
          · rw [estep, lostStep, if_neg hgt, if_pos hb]
            exact ch_eq (by walk_at "m_ch") (by walk_at "m_ch") (by exact rfl) (by exact rfl)
          · rw [estep, lostStep, if_neg hgt, if_pos hb]
            exact hints.append (.cons _ _ .nil)
    · rintro m₁ S₁ h₁ tk₁ hJ9 F₁ N₁
      refine exE5 hJ9 ?_
      clear hJ9
      rintro lvs c tl u1 u2 hJ9
      refine andE4 hJ9 ?_
      clear hJ9
      rintro rfl rfl hints hll
      rw [List.take_of_length_le (Nat.le_refl _)] at F₁ hints
      dsimp only
      k_steps
      have lx := ‹∀ p ∈ [(ll, PySem.W.listOf lvs.toArray c)] ++ [(SL, PySem.W.listOf svs.toArray sc)], p.1 < _› (ll, PySem.W.listOf lvs.toArray c) (.head _)
      exact hR _ ll lvs c 0 tl _ _ _ (led2 (by assumption) (by assumption) (.head _) (.tail _ (.head _))) hints (Nat.ne_of_gt lx) rfl
end
section
set_option maxHeartbeats 4000000 in
theorem newest_time_spec {w : World} {A : Around} {s : Shared} {mean mg mb} {R : Result → Shared → Prop} (C : Cx w mean mg mb s.heap) (hA : Rm A 1)
    {rd nl : Addr} {kvs : List (Int × Value)} {ps qs : List Pkt} {nvs : List Value} (hD : s.heap.DictOf (PySem.intKind PRG w) rd kvs)
    (hrows : RowsAt s.heap kvs ps) (hasc : (ps.map (·.num)).Pairwise (· < ·)) (hnl : s.heap.IsList nl nvs.toArray) (hns : IntsAre nvs (qs.map (·.num))) (hsub : ∀ q ∈ qs, q ∈ ps)
    (hR : ∀ v h' tk t, s.heap.StaysIn h' → v = optV (newest qs) t → R (.ok (.ret v)) {s with heap := h', toks := tk}) :
    codeAny (model PRG w) A (.call (.ref 49) ⟨[.ref rd, .ref nl], []⟩) R s := by
  obtain ⟨d, f, g, u, rfl⟩ := hA.norm
  have X := C.X
  have T := C.T
  refine' call_S (binds := [(Str.ofString "sent", .ref rd), (Str.ofString "numbers", .ref nl)]) (Led.refl _) (Nat.le_refl _) C ?k1 ?k2 ?k3 ?k4 ?k5 ?_ ?c1 ?c2 ?c3 ?c4
  walk_at "m_open"
  intro L' h₁ F N lt hL
  k_fold
  k_steps
  refine stop_out ?_
  refine for_S (h₀ := s.heap) ?_ (by intro _; rfl)
  k_steps
  refine ForGo.mk _ [] [] [nl] qs.length _ (fun i m S => ∃ (tl : Tok) (u1 : Option Value), m = (mput (Str.ofString "found") (some (optV ((qs.take i).foldl newestStep none) tl)) (mput (Str.ofString "number") (u1) (fun y => List.lookup y [(Str.ofString "sent", .ref rd), (Str.ofString "numbers", .ref nl)].reverse))) ∧ S = []) (by assumption) News.nil (SrcOk.lst nvs qs.length (by rw [IntsAre.length hns, List.length_map]) rfl (hnl.at fun o e => Fr.keep (by assumption) _ _ e)) ?_ ?_ ?_ ?_
  · intro a ha
    rw [List.mem_singleton.mp ha]
    obtain ⟨o, ho, _⟩ := hnl
    exact .inl ⟨o, ho⟩
  · refine ⟨0, none, ?_, rfl⟩
    exact ch_eq (by walk_at "m_ch") (by walk_at "m_ch") (by exact rfl) (by exact rfl)
  · rintro i v m₁ S₁ I oI h₁ tk₁ hi hv hJ9 F₁ N₁ hSI hZI hIs U9 hU9
    refine exE2 hJ9 ?_
    clear hJ9
    rintro tl u1 hJ9
    obtain ⟨rfl, rfl⟩ := hJ9
    obtain ⟨p, hp⟩ : ∃ p, qs[i]? = some p := ⟨qs[i], by simp [hi]⟩
    have hv' : ∃ t, v = .int p.num t := by
      obtain ⟨n, t, e1, e2⟩ := IntsAre.at hns i v hv
      rw [List.getElem?_map, hp] at e2
      cases e2
      exact ⟨t, e1⟩
    obtain ⟨tv, rfl⟩ := hv'
    obtain ⟨rv, hrv, tt, nt, tt1, tt2, rfl, hrt⟩ := hrows.of_mem (asc_nodup hasc) (hsub p (List.mem_of_getElem? hp))
    have IT : IsTup s.heap tt [Value.int p.time tt1, .int p.size tt2, .bool p.kind, .bool p.kind].toArray := ⟨_, hrt, rfl, _, rfl⟩
    have estep : ∀ a, (qs.take i).foldl newestStep none = a → (qs.take (i + 1)).foldl newestStep none = newestStep a p := fun a e => by
      rw [List.take_add_one, hp, List.foldl_append, e]; rfl
    generalize hacc : (qs.take i).foldl newestStep none = acc at F₁
    replace estep := estep _ hacc
    refine assign_any F₁ N₁ rfl rfl ?_
    intro h₂ F₂ N₂
    cases acc with
    | none =>
      dsimp only [optV] at F₂
      k_steps
      · refine hU9 _ _ ?_
        refine TurnEnd.mk [] (by assumption) (by assumption) (fun _ h => nomatch h) (exI2 tt1 (some (.int p.num tv)) ⟨?_, rfl⟩)
        rw [estep, newestStep, if_pos (by assumption)]
        exact ch_eq (by walk_at "m_ch") (by walk_at "m_ch") (by exact rfl) (by exact rfl)
      · refine hU9 _ _ ?_
        refine TurnEnd.mk [] (by assumption) (by assumption) (fun _ h => nomatch h) (exI2 tl (some (.int p.num tv)) ⟨?_, rfl⟩)
        rw [estep, newestStep, if_neg (by simp_all)]
        exact ch_eq (by walk_at "m_ch") (by walk_at "m_ch") (by exact rfl) (by exact rfl)
    | some t0 =>
      dsimp only [optV] at F₂
      k_steps
      · refine hU9 _ _ ?_
        refine TurnEnd.mk [] (by assumption) (by assumption) (fun _ h => nomatch h) (exI2 tt1 (some (.int p.num tv)) ⟨?_, rfl⟩)
        rw [estep, newestStep, if_pos (by assumption)]
        rw [if_pos (by omega)]
        exact ch_eq (by walk_at "m_ch") (by walk_at "m_ch") (by exact rfl) (by exact rfl)
      · refine hU9 _ _ ?_
        refine TurnEnd.mk [] (by assumption) (by assumption) (fun _ h => nomatch h) (exI2 tl (some (.int p.num tv)) ⟨?_, rfl⟩)
        rw [estep, newestStep, if_pos (by assumption)]
        rw [if_neg (by omega)]
        exact ch_eq (by walk_at "m_ch") (by walk_at "m_ch") (by exact rfl) (by exact rfl)
      · refine hU9 _ _ ?_
        refine TurnEnd.mk [] (by assumption) (by assumption) (fun _ h => nomatch h) (exI2 tl (some (.int p.num tv)) ⟨?_, rfl⟩)
        rw [estep, newestStep, if_neg (by simp_all)]
        exact ch_eq (by walk_at "m_ch") (by walk_at "m_ch") (by exact rfl) (by exact rfl)
  · rintro m₁ S₁ h₁ tk₁ hJ9 F₁ N₁
    refine exE2 hJ9 ?_
    clear hJ9
    rintro tl u1 hJ9
    obtain ⟨rfl, rfl⟩ := hJ9
    rw [List.take_of_length_le (Nat.le_refl _)] at F₁
    dsimp only
    k_steps
    exact hR _ _ _ _ (Fr.keep (by assumption)) rfl
set_option maxHeartbeats 4000000 in
theorem flight_size_spec {w : World} {A : Around} {s : Shared} {mean mg mb} {R : Result → Shared → Prop} (C : Cx w mean mg mb s.heap) (hA : Rm A 1)
    {rd nl : Addr} {kvs : List (Int × Value)} {ps qs : List Pkt} {nvs : List Value} (hD : s.heap.DictOf (PySem.intKind PRG w) rd kvs)
    (hrows : RowsAt s.heap kvs ps) (hasc : (ps.map (·.num)).Pairwise (· < ·)) (hnl : s.heap.IsList nl nvs.toArray) (hns : IntsAre nvs (qs.map (·.num))) (hsub : ∀ q ∈ qs, q ∈ ps) (hlen : qs.length < 64) (hsz : ∀ q ∈ qs, 0 ≤ q.size ∧ q.size ≤ 1000)
    (hR : ∀ v h' tk t, s.heap.StaysIn h' → v = .int (octets qs) t → R (.ok (.ret v)) {s with heap := h', toks := tk}) :
    codeAny (model PRG w) A (.call (.ref 54) ⟨[.ref rd, .ref nl], []⟩) R s := by
  obtain ⟨d, f, g, u, rfl⟩ := hA.norm
  have X := C.X
  have T := C.T
  refine' call_SC (binds := [(Str.ofString "sent", .ref rd), (Str.ofString "numbers", .ref nl)]) (Led.refl _) (Nat.le_refl _) C ?k1 ?k2 ?k3 ?k4 ?k5 ?k6 ?_ ?c1 ?c2 ?c3
  walk_at "m_openc"
  intro L' h₁ tk cells F N Y lt hL
  k_cells Y
  k_steps
  walk_at "m_comp"
  k_steps
  have X' := X.keeps F.keep
  have T' := T.keeps F.keep
  have hD' := dictOf_keeps hD F.keep
  have hnl' : h₁.IsList nl nvs.toArray := hnl.at fun o e => F.keep _ _ e
  have HC : CellAt h₁ (L' + 1) (.ref rd) := ⟨_, News.get N (.head _), by assumption⟩
  refine CompGo.mk h₁ [] [nl] qs.length _ (fun i ys S => S = [] ∧ IntsAre ys (((qs.take i).filter (·.kind)).map (·.size))) (Nat.le_refl _) (Led.refl _) (SrcOk.lst nvs qs.length (by rw [IntsAre.length hns, List.length_map]) rfl hnl') ?_ (Nat.le_trans (Nat.le_of_lt hlen) (by decide)) ⟨rfl, .nil⟩ ?_ ?_
  · intro a ha
    rw [List.mem_singleton.mp ha]
    obtain ⟨o, ho, _⟩ := hnl'
    exact ⟨o, ho⟩
  · rintro i v ys S₁ I oI D C h₂ tk₂ m₁ hi hv hJ9 hyl F₁ N₁ hoff hID hDC hI U9 hU9 V9 hV9
    obtain ⟨rfl, hys⟩ := hJ9
    obtain ⟨p, hp⟩ : ∃ p, qs[i]? = some p := ⟨qs[i], by simp [hi]⟩
    have hv' : ∃ t, v = .int p.num t := by
      obtain ⟨n, t, e1, e2⟩ := IntsAre.at hns i v hv
      rw [List.getElem?_map, hp] at e2
      cases e2
      exact ⟨t, e1⟩
    obtain ⟨tv, rfl⟩ := hv'
    obtain ⟨rv, hrv, tt, nt, tt1, tt2, rfl, hrt⟩ := hrows.of_mem (asc_nodup hasc) (hsub p (List.mem_of_getElem? hp))
    have IT : IsTup h₁ tt [Value.int p.time tt1, .int p.size tt2, .bool p.kind, .bool p.kind].toArray := ⟨_, F.keep _ _ hrt, rfl, _, rfl⟩
    refine assign_any F₁ N₁ rfl rfl ?_
    intro h₃ F₂ N₂
    refine wpAny_tests_one ?_
    k_steps
    · (first | refine hU9 _ _ ?_ | refine hV9 _ ?_)
      refine CompEnd'.mk [] (by assumption) (by assumption) (fun _ h => nomatch h) ⟨rfl, ?_⟩
      rw [take_succ_filter _ _ _ _ hp, List.map_append, if_pos (by assumption)]
      exact hys.append (.cons _ _ .nil)
    · (first | refine hU9 _ _ ?_ | refine hV9 _ ?_)
      refine CompEnd'.mk [] (by assumption) (by assumption) (fun _ h => nomatch h) ⟨rfl, ?_⟩
      rw [take_succ_filter _ _ _ _ hp, List.map_append, if_neg (by simp_all)]
      rw [List.map_nil, List.append_nil]
      exact hys
  · rintro ys S₁ D h₂ tk₂ hJ9 hyl LD₂ hoff hDs
    obtain ⟨rfl, hys⟩ := hJ9
    have F₂ := F.keeps LD₂.sub
    have N₂ := led_news F LD₂
    rw [List.take_of_length_le (Nat.le_refl _)] at hys
    k_steps
    exact hR _ _ _ _ (Fr.keep (by assumption)) rfl
end
section
local macro_rules | `(tactic| walk_at "pad") => `(tactic| skip)
set_option maxHeartbeats 4000000 in
theorem has_number_spec {w : World} {A : Around} {s : Shared} {mean mg mb} {R : Result → Shared → Prop} (C : Cx w mean mg mb s.heap) (hA : Rm A 1)
    {rl : Addr} {rvs : List Value} {abs : List (Int × Int)} {n : Int} {tn : Tok} (hrl : s.heap.IsList rl rvs.toArray) (hps : PairsAt s.heap rvs abs) (hlen : abs.length < 64)
    (hR : ∀ v h' tk, s.heap.StaysIn h' → v = .bool (abs.any fun ab => decide (ab.1 ≤ n) && decide (n ≤ ab.2)) → R (.ok (.ret v)) {s with heap := h', toks := tk}) :
    codeAny (model PRG w) A (.call (.ref 189) ⟨[.ref rl, .int n tn], []⟩) R s := by
  obtain ⟨d, f, g, u, rfl⟩ := hA.norm
  have X := C.X
  have T := C.T
  refine' call_SC (binds := [(Str.ofString "ranges", .ref rl), (Str.ofString "n", .int n tn)]) (Led.refl _) (Nat.le_refl _) C ?k1 ?k2 ?k3 ?k4 ?k5 ?k6 ?_ ?c1 ?c2 ?c3
  walk_at "m_openc"
  intro L' h₁ tk cells F N Y lt hL
  k_cells Y
  k_steps
  walk_at "m_comp"
  k_steps
  have X' := X.keeps F.keep
  have T' := T.keeps F.keep
  have hrl' : h₁.IsList rl rvs.toArray := hrl.at fun o e => F.keep _ _ e
  have HC : CellAt h₁ (L' + 1) (.int n tn) := ⟨_, News.get N (.head _), by assumption⟩
  refine CompGo.mk h₁ [] [rl] abs.length _ (fun i ys S => S = [] ∧ LSm.BoolsAre ys ((abs.take i).map fun ab => decide (ab.1 ≤ n) && decide (n ≤ ab.2))) (Nat.le_refl _) (Led.refl _) (SrcOk.lst rvs abs.length (Paired.length hps) rfl hrl') ?_ (Nat.le_trans (Nat.le_of_lt hlen) (by decide)) ⟨rfl, .nil⟩ ?_ ?_
  · intro a ha
    rw [List.mem_singleton.mp ha]
    obtain ⟨o, ho, _⟩ := hrl'
    exact ⟨o, ho⟩
  · rintro i v ys S₁ I oI D C h₂ tk₂ m₁ hi hv hJ9 hyl F₁ N₁ hoff hID hDC hI U9 hU9 V9 hV9
    obtain ⟨rfl, hys⟩ := hJ9
    obtain ⟨⟨a, c⟩, hab, t, nt, t1, t2, rfl, ht⟩ := Paired.get' hps hv
    have IT : IsTup h₁ t [Value.int a t1, .int c t2].toArray := ⟨_, F.keep _ _ ht, rfl, _, rfl⟩
    have hstep : (abs.take (i + 1)).map (fun ab => decide (ab.1 ≤ n) && decide (n ≤ ab.2)) = (abs.take i).map (fun ab => decide (ab.1 ≤ n) && decide (n ≤ ab.2)) ++ [decide (a ≤ n) && decide (n ≤ c)] := by
      rw [List.take_add_one, hab, List.map_append]; rfl
    refine assign2 rfl F₁ N₁ (IT.keeps F₁.keep) rfl rfl rfl ?_
    intro h₃ tk₃ F₂ N₂
    refine wpAny_tests_nil ?_
    rw [if_pos rfl]
    k_steps
    · (first | refine hU9 _ _ ?_ | refine hV9 _ ?_)
      refine CompEnd'.mk [] (by assumption) (by assumption) (fun _ h => nomatch h) ⟨rfl, ?_⟩
      rw [hstep, decide_eq_true (p := a ≤ n) (by assumption), Bool.true_and]
      exact boolsAppend hys (.cons _ .nil)
    · (first | refine hU9 _ _ ?_ | refine hV9 _ ?_)
      refine CompEnd'.mk [] (by assumption) (by assumption) (fun _ h => nomatch h) ⟨rfl, ?_⟩
      rw [hstep, decide_eq_false (p := a ≤ n) (by assumption), Bool.false_and]
      exact boolsAppend hys (.cons _ .nil)
  · rintro ys S₁ D h₂ tk₂ hJ9 hyl LD₂ hoff hDs
    obtain ⟨rfl, hys⟩ := hJ9
    have F₂ := F.keeps LD₂.sub
    have N₂ := led_news F LD₂
    rw [List.take_of_length_le (Nat.le_refl _)] at hys
    k_steps
    refine LSm.any_bools (by assumption) (by assumption) rfl (News.isList (by assumption) (.head _)) hys ?_
    intro h' tk' F' N'
    refine hR _ _ _ (Fr.keep (by assumption)) ?_
    rw [List.any_map]
    rfl
set_option maxHeartbeats 4000000 in
theorem newly_acked_spec {w : World} {A : Around} {s : Shared} {mean mg mb} {R : Result → Shared → Prop} (C : Cx w mean mg mb s.heap) (hA : Rm A 3)
    {sl rl : Addr} {svs rvs : List Value} {ns : List Int} {abs : List (Int × Int)} (hsl : s.heap.IsList sl svs.toArray) (hns : IntsAre svs ns) (hasc : ns.Pairwise (· < ·)) (hlen : ns.length < 64) (hrl : s.heap.IsList rl rvs.toArray) (hps : PairsAt s.heap rvs abs) (hlen2 : abs.length < 64)
    (hR : ∀ D vs c v h' tk, Led s.heap h' [(D, PySem.W.listOf vs.toArray c)] → IntsAre vs (ns.filter fun n => abs.any fun ab => decide (ab.1 ≤ n) && decide (n ≤ ab.2)) → v = .ref D → R (.ok (.ret v)) {s with heap := h', toks := tk}) :
    codeAny (model PRG w) A (.call (.ref 194) ⟨[.ref sl, .ref rl], []⟩) R s := by
  obtain ⟨d, f, g, u, rfl⟩ := hA.norm
  have X := C.X
  have T := C.T
  refine' call_SC (binds := [(Str.ofString "sent_numbers", .ref sl), (Str.ofString "ranges", .ref rl)]) (Led.refl _) (Nat.le_refl _) C ?k1 ?k2 ?k3 ?k4 ?k5 ?k6 ?_ ?c1 ?c2 ?c3
  walk_at "m_openc"
  intro L' h₁ tk cells F N Y lt hL
  k_cells Y
  k_steps
  walk_at "m_comp"
  k_steps
  have X' := X.keeps F.keep
  have T' := T.keeps F.keep
  have hsl' : h₁.IsList sl svs.toArray := hsl.at fun o e => F.keep _ _ e
  have HC : CellAt h₁ (L' + 1) (.ref rl) := ⟨_, News.get N (.head _), by assumption⟩
  refine CompGo.mk h₁ [] [sl] ns.length _ (fun i ys S => S = [] ∧ IntsAre ys ((ns.take i).filter fun n => abs.any fun ab => decide (ab.1 ≤ n) && decide (n ≤ ab.2))) (Nat.le_refl _) (Led.refl _) (SrcOk.lst svs ns.length hns.length rfl hsl') ?_ (Nat.le_trans (Nat.le_of_lt hlen) (by decide)) ⟨rfl, .nil⟩ ?_ ?_
  · intro a ha
    rw [List.mem_singleton.mp ha]
    obtain ⟨o, ho, _⟩ := hsl'
    exact ⟨o, ho⟩
  · rintro i v ys S₁ I oI D C h₂ tk₂ m₁ hi hv hJ9 hyl F₁ N₁ hoff hID hDC hI U9 hU9 V9 hV9
    obtain ⟨rfl, hys⟩ := hJ9
    obtain ⟨n, t, rfl, hn⟩ := IntsAre.at hns i v hv
    refine assign_any F₁ N₁ rfl rfl ?_
    intro h₃ F₂ N₂
    refine wpAny_tests_one ?_
    k_steps
    refine wpAny_call (has_number_spec ⟨X'.keeps (Fr.keep (by assumption)), T'.keeps (Fr.keep (by assumption))⟩ ((hA.deeper _).less (by omega)) (hrl.at fun o e => Fr.keep (by assumption) _ _ (F.keep _ _ e)) (hps.keeps fun b o e => Fr.keep (by assumption) _ _ (F.keep _ _ e)) hlen2 ?_)
    have hstep := take_succ_filter (fun n => abs.any fun ab => decide (ab.1 ≤ n) && decide (n ≤ ab.2)) ns i n hn
    cases hb : (abs.any fun ab => decide (ab.1 ≤ n) && decide (n ≤ ab.2))
    · intro v h' tk hk hv
      subst hv
      have F' := Fr.keeps (by assumption) hk
      have N' := News.grown (by assumption) hk
      try dsimp only
      k_steps
      (first | refine hU9 _ _ ?_ | refine hV9 _ ?_)
      refine CompEnd'.mk [] (by assumption) (by assumption) (fun _ h => nomatch h) ⟨rfl, ?_⟩
      rw [hstep, if_neg (by rw [hb]; exact Bool.false_ne_true), List.append_nil]
      exact hys
    · intro v h' tk hk hv
      subst hv
      have F' := Fr.keeps (by assumption) hk
      have N' := News.grown (by assumption) hk
      try dsimp only
      k_steps
      (first | refine hU9 _ _ ?_ | refine hV9 _ ?_)
      refine CompEnd'.mk [] (by assumption) (by assumption) (fun _ h => nomatch h) ⟨rfl, ?_⟩
      rw [hstep, if_pos hb]
      exact hys.append (.cons _ _ .nil)
  · rintro ys S₁ D h₂ tk₂ hJ9 hyl LD₂ hoff hDs
    obtain ⟨rfl, hys⟩ := hJ9
    have F₂ := F.keeps LD₂.sub
    have N₂ := led_news F LD₂
    rw [List.take_of_length_le (Nat.le_refl _)] at hys
    k_steps
    have e := sorted_eq (by assumption : List.Perm _ (ns.filter fun n => abs.any fun ab => decide (ab.1 ≤ n) && decide (n ≤ ab.2))) (by assumption) (asc_le (hasc.filter _))
    subst e
    exact hR _ _ _ _ _ _ ((led_nil (by assumption)).cons (by assumption) (.head _)) (by assumption) rfl
set_option maxHeartbeats 4000000 in
theorem acked_by_spec {w : World} {A : Around} {s : Shared} {mean mg mb} {R : Result → Shared → Prop} (C : Cx w mean mg mb s.heap) (hA : Rm A 5)
    {x dx sd rl : Addr} {o os : Obj} {kvs : List (Int × Value)} {nx : Int} {la : Option Int} {rvs : List Value} {abs : List (Int × Int)} (hx : s.heap.get? x = some (instObj 354 dx)) (hdx : s.heap.get? dx = some o) (ho : SpaceD w.params o sd nx la)
    (hsd : s.heap.get? sd = some os) (hos : os.IsDictOf (PySem.intKind PRG w) kvs) (lo : (sd == sysModules) = false) (hasc : (kvs.map (·.1)).Pairwise (· < ·)) (hlen : kvs.length < 64) (hrl : s.heap.IsList rl rvs.toArray) (hps : PairsAt s.heap rvs abs) (hlen2 : abs.length < 64)
    (hR : ∀ D vs c v h' tk, Led s.heap h' [(D, PySem.W.listOf vs.toArray c)] → IntsAre vs ((kvs.map (·.1)).filter fun n => abs.any fun ab => decide (ab.1 ≤ n) && decide (n ≤ ab.2)) → v = .ref D → R (.ok (.ret v)) {s with heap := h', toks := tk}) :
    codeAny (model PRG w) A (.call (.ref 290) ⟨[.ref x, .ref rl], []⟩) R s := by
  obtain ⟨t0, t1, t2, t3, t4, t5, t6, t7, t8, t9, t10, t11, t12, t13, t14, t15, t16, v0, v1, vn, va, vl, vt, vr, vs, vg, vf, vu, vk, vw, vh, ve, vi⟩ := ho
  have I := inst_mk hx hdx
  have hD : s.heap.DictOf (PySem.intKind PRG w) sd kvs := Heap.dictOf_iff.mpr ⟨os, hsd, hos⟩
  obtain ⟨d, f, g, u, rfl⟩ := hA.norm
  have X := C.X
  have T := C.T
  refine' call_S (binds := [(Str.ofString "self", .ref x), (Str.ofString "ranges", .ref rl)]) (Led.refl _) (Nat.le_refl _) C ?k1 ?k2 ?k3 ?k4 ?k5 ?_ ?c1 ?c2 ?c3 ?c4
  walk_at "m_open"
  intro L' h₁ F N lt hL
  k_fold
  k_steps
  refine list_dict rfl (by assumption) (by assumption) lo (dictOf_keeps hD (Fr.keep (by assumption))) hlen ?_
  intro SL svs sc h' tk F' N' l1 hsv
  k_steps
  refine wpAny_call (newly_acked_spec (C.keeps (Fr.keep (by assumption))) ((hA.deeper _).less (by omega)) (News.isList N' (.head _)) hsv hasc (by rw [List.length_map]; exact hlen) (hrl.at fun o e => Fr.keep F' _ _ e) (hps.keeps F'.keep) hlen2 ?_)
  intro D vs c v h'' tk LD' hvs hv
  subst hv
  dsimp only
  k_steps
  exact hR _ _ _ _ _ _ (LD'.weaken F'.keep) hvs rfl
end
section
open PyProof.Rows.LCg
set_option maxHeartbeats 1000000
/-- a kept packet's object -/
def PktAt (P : Params) (h : Heap) (v : Value) (p : Pkt) : Prop := ∃ x dx o fl, v = .ref x ∧ h.get? x = some (instObj 211 dx) ∧ h.get? dx = some o ∧ PktD P o p fl
theorem PktAt.keeps {P : Params} {h h' : Heap} {v : Value} {p : Pkt} (x : PktAt P h v p) (k : ∀ b o, h.get? b = some o → h'.get? b = some o) : PktAt P h' v p := by
  obtain ⟨x, dx, o, fl, rfl, h1, h2, h3⟩ := x; exact ⟨x, dx, o, fl, rfl, k _ _ h1, k _ _ h2, h3⟩
def PktsAt (P : Params) (h : Heap) (kvs : List (Int × Value)) (ps : List Pkt) : Prop := Paired (fun kv p => kv.1 = p.num ∧ PktAt P h kv.2 p) kvs ps
theorem PktsAt.keeps {P : Params} {h h' : Heap} {kvs : List (Int × Value)} {ps : List Pkt} (x : PktsAt P h kvs ps) (k : ∀ b o, h.get? b = some o → h'.get? b = some o) : PktsAt P h' kvs ps := Paired.mono (fun _ _ y => ⟨y.1, y.2.keeps k⟩) x
theorem PktsAt.keys {P : Params} {h : Heap} {kvs : List (Int × Value)} {ps : List Pkt} (x : PktsAt P h kvs ps) : kvs.map (·.1) = ps.map (·.num) := by
  induction x with
  | nil => rfl
  | cons a _ ih => rw [List.map_cons, List.map_cons, ih, a.1]
theorem PktsAt.length {P : Params} {h : Heap} {kvs : List (Int × Value)} {ps : List Pkt} (x : PktsAt P h kvs ps) : kvs.length = ps.length := Paired.length x
theorem PktsAt.at {P : Params} {h : Heap} {kvs : List (Int × Value)} {ps : List Pkt} (x : PktsAt P h kvs ps) (hn : (ps.map (·.num)).Nodup) {i : Nat} {p : Pkt} (e : ps[i]? = some p) : ∃ v, kvs[i]? = some (p.num, v) ∧ valueAt kvs p.num = some v ∧ PktAt P h v p := by
  obtain ⟨⟨k, v⟩, e1, e2, e3⟩ := Paired.get x e
  dsimp only at e2 e3
  subst e2
  exact ⟨v, e1, valueAt_of_nodup (x.keys ▸ hn) e1, e3⟩
theorem PktsAt.of_mem {P : Params} {h : Heap} {kvs : List (Int × Value)} {ps : List Pkt} (x : PktsAt P h kvs ps) (hn : (ps.map (·.num)).Nodup) {p : Pkt} (e : p ∈ ps) : ∃ v, valueAt kvs p.num = some v ∧ PktAt P h v p := by
  obtain ⟨i, hi, rfl⟩ := List.mem_iff_getElem.mp e
  obtain ⟨v, _, a, b⟩ := x.at hn (i := i) (by simp [hi] : ps[i]? = some ps[i])
  exact ⟨v, a, b⟩
theorem PktsAt.without {P : Params} {h : Heap} {kvs : List (Int × Value)} {ps : List Pkt} (x : PktsAt P h kvs ps) (k : Int) : PktsAt P h (PySem.without kvs k) (ps.filter fun p => decide (p.num ≠ k)) := by
  induction x with
  | nil => exact .nil
  | @cons kv p kvs ps a _ ih =>
    unfold PySem.without
    rw [List.filter_cons, List.filter_cons, a.1]
    split
    · exact .cons a ih
    · exact ih
theorem PktsAt.push {P : Params} {h : Heap} {kvs : List (Int × Value)} {ps : List Pkt} (x : PktsAt P h kvs ps) {v : Value} {p : Pkt} (hv : PktAt P h v p) : PktsAt P h (kvs ++ [(p.num, v)]) (ps ++ [p]) := Paired.snoc x ⟨rfl, hv⟩
def PktsV (V : Value → Pkt → Prop) (kvs : List (Int × Value)) (ps : List Pkt) : Prop := Paired (fun kv p => kv.1 = p.num ∧ V kv.2 p) kvs ps
theorem PktsV.at_ {V : Value → Pkt → Prop} {P : Params} {h : Heap} {kvs : List (Int × Value)} {ps : List Pkt} (x : PktsV V kvs ps) (k : ∀ v p, V v p → PktAt P h v p) : PktsAt P h kvs ps := Paired.mono (fun _ _ y => ⟨y.1, k _ _ y.2⟩) x
theorem PktsV.keys {V : Value → Pkt → Prop} {kvs : List (Int × Value)} {ps : List Pkt} (x : PktsV V kvs ps) : kvs.map (·.1) = ps.map (·.num) := by
  induction x with
  | nil => rfl
  | cons a _ ih => rw [List.map_cons, List.map_cons, ih, a.1]
theorem PktsV.length {V : Value → Pkt → Prop} {kvs : List (Int × Value)} {ps : List Pkt} (x : PktsV V kvs ps) : kvs.length = ps.length := Paired.length x
theorem PktsV.at {V : Value → Pkt → Prop} {kvs : List (Int × Value)} {ps : List Pkt} (x : PktsV V kvs ps) (hn : (ps.map (·.num)).Nodup) {i : Nat} {p : Pkt} (e : ps[i]? = some p) : ∃ v, kvs[i]? = some (p.num, v) ∧ valueAt kvs p.num = some v ∧ V v p := by
  obtain ⟨⟨k, v⟩, e1, e2, e3⟩ := Paired.get x e
  dsimp only at e2 e3
  subst e2
  exact ⟨v, e1, valueAt_of_nodup (x.keys ▸ hn) e1, e3⟩
theorem PktsV.of_mem {V : Value → Pkt → Prop} {kvs : List (Int × Value)} {ps : List Pkt} (x : PktsV V kvs ps) (hn : (ps.map (·.num)).Nodup) {p : Pkt} (e : p ∈ ps) : ∃ v, valueAt kvs p.num = some v ∧ V v p := by
  obtain ⟨i, hi, rfl⟩ := List.mem_iff_getElem.mp e
  obtain ⟨v, _, a, b⟩ := x.at hn (i := i) (by simp [hi] : ps[i]? = some ps[i])
  exact ⟨v, a, b⟩
theorem PktsV.without {V : Value → Pkt → Prop} {kvs : List (Int × Value)} {ps : List Pkt} (x : PktsV V kvs ps) (k : Int) : PktsV V (PySem.without kvs k) (ps.filter fun p => decide (p.num ≠ k)) := by
  induction x with
  | nil => exact .nil
  | @cons kv p kvs ps a _ ih =>
    unfold PySem.without
    rw [List.filter_cons, List.filter_cons, a.1]
    split
    · exact .cons a ih
    · exact ih
theorem PktsV.push {V : Value → Pkt → Prop} {kvs : List (Int × Value)} {ps : List Pkt} (x : PktsV V kvs ps) {v : Value} {p : Pkt} (hv : V v p) : PktsV V (kvs ++ [(p.num, v)]) (ps ++ [p]) := Paired.snoc x ⟨rfl, hv⟩
/-- the rows' tuples, in the ledger -/
def RowIn (blk : List (Addr × Obj)) (v : Value) (p : Pkt) : Prop := ∃ t nt t1 t2, v = .ref t ∧ (t, tupO [.int p.time t1, .int p.size t2, .bool p.kind, .bool p.kind] nt) ∈ blk
def RowsIn (blk : List (Addr × Obj)) (kvs : List (Int × Value)) (ps : List Pkt) : Prop := Paired (fun kv p => kv.1 = p.num ∧ RowIn blk kv.2 p) kvs ps
theorem RowsIn.mono {blk blk' : List (Addr × Obj)} {kvs : List (Int × Value)} {ps : List Pkt} (x : RowsIn blk kvs ps) (h : ∀ p ∈ blk, p ∈ blk') : RowsIn blk' kvs ps := Paired.mono (fun _ _ y => ⟨y.1, by obtain ⟨t, nt, t1, t2, e, m⟩ := y.2; exact ⟨t, nt, t1, t2, e, h _ m⟩⟩) x
theorem RowsIn.at {blk : List (Addr × Obj)} {kvs : List (Int × Value)} {ps : List Pkt} {h : Heap} (x : RowsIn blk kvs ps) (hm : ∀ p ∈ blk, h.get? p.1 = some p.2) : RowsAt h kvs ps := Paired.mono (fun _ _ y => ⟨y.1, by obtain ⟨t, nt, t1, t2, e, m⟩ := y.2; exact ⟨t, nt, t1, t2, e, hm _ m⟩⟩) x
theorem RowsIn.keys {blk : List (Addr × Obj)} {kvs : List (Int × Value)} {ps : List Pkt} (x : RowsIn blk kvs ps) : kvs.map (·.1) = ps.map (·.num) := by
  induction x with
  | nil => rfl
  | cons a _ ih => rw [List.map_cons, List.map_cons, ih, a.1]
theorem stored_new {kvs : List (Int × Value)} {k : Int} {v : Value} (h : k ∉ kvs.map (·.1)) : stored kvs k v = kvs ++ [(k, v)] := by
  unfold stored
  rw [if_neg]
  simp only [List.any_eq_true, decide_eq_true_eq, not_exists, not_and]
  intro kv hkv e
  exact h (e ▸ List.mem_map_of_mem hkv)
section
variable {w : World} {A : Around} {E : Value → Shared → Prop} {s : Shared} {b : Heap} {L d : Addr} {m : Str → Option Value} {news : List (Addr × Obj)} {kvs : List (Int × Value)}
theorem values_method {name : Str} {pl : Sem Bool} {Q : Value × List Value → Shared → Prop} {id : String} (slot : Slot "dict" name id) (ty : typeOf (.builtin id) = pure (.type "method_descriptor")) (F : Fr b L s.heap m) (hD : b.DictOf (PySem.intKind PRG w) d kvs) (h : Q (.builtin id, [.ref d]) s) :
    wpAny (model PRG w) A (getMethod (.ref d) name pl) Q E s :=
  have hD' := dictOf_keeps hD F.keep
  getMethod_builtin hD'.typeIs PySem.F.plainAttrs_dict slot ty hD'.mapOf.noDict h
end
end
section
local macro_rules | `(tactic| walk_at "pad") => `(tactic| skip)
local macro_rules | `(tactic| walk_at "getMethod ref") => `(tactic| (k_here; (with_reducible show wpAny _ _ (getMethod (Value.ref _) (Str.ofString "values") _) _ _ _); (refine' values_method PySem.F.slot_dict_values PySem.F.type_dict_values ?F ?D ?_; (case F => k_asm); (case D => assumption))))
set_option maxHeartbeats 4000000 in
theorem octets_out_spec {w : World} {A : Around} {s : Shared} {mean mg mb} {R : Result → Shared → Prop} (C : Cx w mean mg mb s.heap) (hA : Rm A 1)
    {x dx sd : Addr} {o os : Obj} {kvs : List (Int × Value)} {ps : List Pkt} {nx : Int} {la : Option Int} (hx : s.heap.get? x = some (instObj 354 dx)) (hdx : s.heap.get? dx = some o) (ho : SpaceD w.params o sd nx la)
    (hsd : s.heap.get? sd = some os) (hos : os.IsDictOf (PySem.intKind PRG w) kvs) (lo : (sd == sysModules) = false) (hp : PktsAt w.params s.heap kvs ps) (hlen : ps.length < 64)
    (hR : ∀ v h' tk t, s.heap.StaysIn h' → v = .int (octets ps) t → R (.ok (.ret v)) {s with heap := h', toks := tk}) :
    codeAny (model PRG w) A (.call (.ref 337) ⟨[.ref x], []⟩) R s := by
  obtain ⟨t0, t1, t2, t3, t4, t5, t6, t7, t8, t9, t10, t11, t12, t13, t14, t15, t16, v0, v1, vn, va, vl, vt, vr, vs, vg, vf, vu, vk, vw, vh, ve, vi⟩ := ho
  have I := inst_mk hx hdx
  have hD : s.heap.DictOf (PySem.intKind PRG w) sd kvs := Heap.dictOf_iff.mpr ⟨os, hsd, hos⟩
  obtain ⟨d, f, g, u, rfl⟩ := hA.norm
  have X := C.X
  have T := C.T
  refine' call_S (binds := [(Str.ofString "self", .ref x)]) (Led.refl _) (Nat.le_refl _) C ?k1 ?k2 ?k3 ?k4 ?k5 ?_ ?c1 ?c2 ?c3 ?c4
  walk_at "m_open"
  intro L' h₁ F N lt hL
  k_fold
  k_steps
  walk_at "m_comp"
  k_steps
  have hD' := dictOf_keeps hD F.keep
  refine call_meetsIn PySem.F.slot_dict_values hD'.typeIs PySem.F.entry_dict_values (PySem.F.args_dict_values_1 _) (meets_dict_values (PySem.intKind PRG w) sd lo) ⟨⟨kvs, hD'⟩, ?_⟩
  have hV : (h₁.push { cls := .type "dict_values", data := .fields #[.ref sd] }).IsValuesView h₁.objs.size sd := ⟨_, Heap.get?_push_size _ rfl, rfl, rfl⟩
  have F' := F.push { cls := .type "dict_values", data := .fields #[.ref sd] }
  have N' := News.push F N { cls := .type "dict_values", data := .fields #[.ref sd] } rfl
  have hD'' : (h₁.push { cls := .type "dict_values", data := .fields #[.ref sd] }).DictOf (PySem.intKind PRG w) sd kvs := dictOf_keeps hD F'.keep
  dsimp only
  generalize (h₁.push { cls := .type "dict_values", data := .fields #[.ref sd] }) = h₂ at hV F' N' hD''
  k_steps
  have X' := X.keeps F'.keep
  have T' := T.keeps F'.keep
  refine CompGo.mk h₂ [] [sd] kvs.length _ (fun i ys S => S = [] ∧ IntsAre ys (((ps.take i).filter (·.kind)).map (·.size))) (Nat.le_refl _) (Led.refl _) (SrcOk.vals rfl hV hD'') ?_ (Nat.le_trans (Nat.le_of_lt (hp.length ▸ hlen)) (by decide)) ⟨rfl, .nil⟩ ?_ ?_
  · intro a ha
    rw [List.mem_singleton.mp ha]
    exact ⟨os, F'.keep _ _ hsd⟩
  · rintro i v ys S₁ I oI D C h₃ tk₂ m₁ hi ⟨k, hv⟩ hJ9 hyl F₁ N₁ hoff hID hDC hI U9 hU9 V9 hV9
    obtain ⟨rfl, hys⟩ := hJ9
    obtain ⟨p, hpi, hk, px, pdx, po, fl, e, h1, h2, h3⟩ := Paired.get' hp hv
    dsimp only at e
    subst e
    obtain ⟨u0, u1, u2, u3, u4, u5, w0, w1, w2⟩ := h3
    have IP := inst_mk (F'.keep _ _ h1) (F'.keep _ _ h2)
    refine assign_any F₁ N₁ rfl rfl ?_
    intro h₄ F₂ N₂
    refine wpAny_tests_one ?_
    k_steps
    · (first | refine hU9 _ _ ?_ | refine hV9 _ ?_)
      refine CompEnd'.mk [] (by assumption) (by assumption) (fun _ h => nomatch h) ⟨rfl, ?_⟩
      rw [take_succ_filter _ _ _ _ hpi, List.map_append, if_pos (by assumption)]
      exact hys.append (.cons _ _ .nil)
    · (first | refine hU9 _ _ ?_ | refine hV9 _ ?_)
      refine CompEnd'.mk [] (by assumption) (by assumption) (fun _ h => nomatch h) ⟨rfl, ?_⟩
      rw [take_succ_filter _ _ _ _ hpi, List.map_append, if_neg (by simp_all), List.map_nil, List.append_nil]
      exact hys
  · rintro ys S₁ D h₃ tk₂ hJ9 hyl LD₂ hoff hDs
    obtain ⟨rfl, hys⟩ := hJ9
    have F₂ := F'.keeps LD₂.sub
    have N₂ := led_news F' LD₂
    rw [hp.length, List.take_of_length_le (Nat.le_refl _)] at hys
    k_steps
    exact hR _ _ _ _ (Fr.keep (by assumption)) rfl
set_option maxHeartbeats 4000000 in
theorem sent_rows_spec {w : World} {A : Around} {s : Shared} {mean mg mb} {R : Result → Shared → Prop} (C : Cx w mean mg mb s.heap) (hA : Rm A 1)
    {x dx sd : Addr} {o os : Obj} {kvs : List (Int × Value)} {ps : List Pkt} {nx : Int} {la : Option Int} (hx : s.heap.get? x = some (instObj 354 dx)) (hdx : s.heap.get? dx = some o) (ho : SpaceD w.params o sd nx la)
    (hsd : s.heap.get? sd = some os) (hos : os.IsDictOf (PySem.intKind PRG w) kvs) (lo : (sd == sysModules) = false) (hp : PktsAt w.params s.heap kvs ps) (hlen : ps.length < 64) (hasc : (ps.map (·.num)).Pairwise (· < ·))
    (hR : ∀ fd od kvs' blk h' tk v, Led s.heap h' ((fd, od) :: blk) → od.IsDictOf (PySem.intKind PRG w) kvs' → RowsIn blk kvs' ps → (fd == sysModules) = false → (∀ p ∈ blk, p.1 ≠ fd) → v = .ref fd → R (.ok (.ret v)) {s with heap := h', toks := tk}) :
    codeAny (model PRG w) A (.call (.ref 344) ⟨[.ref x], []⟩) R s := by
  obtain ⟨t0, t1, t2, t3, t4, t5, t6, t7, t8, t9, t10, t11, t12, t13, t14, t15, t16, v0, v1, vn, va, vl, vt, vr, vs, vg, vf, vu, vk, vw, vh, ve, vi⟩ := ho
  have I := inst_mk hx hdx
  have hD : s.heap.DictOf (PySem.intKind PRG w) sd kvs := Heap.dictOf_iff.mpr ⟨os, hsd, hos⟩
  obtain ⟨d, f, g, u, rfl⟩ := hA.norm
  have X := C.X
  have T := C.T
  refine' call_S (binds := [(Str.ofString "self", .ref x)]) (Led.refl _) (Nat.le_refl _) C ?k1 ?k2 ?k3 ?k4 ?k5 ?_ ?c1 ?c2 ?c3 ?c4
  walk_at "m_open"
  intro L' h₁ F N lt hL
  k_fold
  k_steps
  refine stop_out ?_
  refine for_S (h₀ := s.heap) ?_ (by intro _; rfl)
  k_steps
  rename_i fd _ od0 hlo _ _ hod _ _ _ FF NN
  have hnd := asc_nodup hasc
  refine ForGo.mk _ [(fd, od0)] [] [sd] kvs.length _ (fun i m S => ∃ (od : Obj) (kvs' : List (Int × Value)) (blk : List (Addr × Obj)) (u1 u2 : Option Value), m = (mput (Str.ofString "packet") (u2) (mput (Str.ofString "number") (u1) (mput (Str.ofString "found") (some (.ref fd)) (fun y => List.lookup y [(Str.ofString "self", .ref x)].reverse)))) ∧ S = (fd, od) :: blk ∧
        od.IsDictOf (PySem.intKind PRG w) kvs' ∧ RowsIn blk kvs' (ps.take i) ∧ (∀ p ∈ blk, p.1 ≠ fd)) FF NN (SrcOk.keys (knd := PySem.intKind PRG w) rfl lo (dictOf_keeps hD FF.keep)) ?_ ?_ ?_ ?_
  · intro a ha
    rw [List.mem_singleton.mp ha]
    exact .inl ⟨os, hsd⟩
  · refine exI5 od0 [] [] none none ⟨?_, rfl, hod, .nil, fun _ h => nomatch h⟩
    exact ch_eq (by walk_at "m_ch") (by walk_at "m_ch") (by exact rfl) (by exact rfl)
  · rintro i v m₁ S₁ I oI h₁ tk₁ hi ⟨k, y, hk, hkv⟩ hJ9 F₁ N₁ hSI hZI hIs U9 hU9
    refine exE5 hJ9 ?_
    clear hJ9
    rintro od kvs' blk u1 u2 hJ9
    refine andE5 hJ9 ?_
    clear hJ9
    rintro rfl rfl hod' hrows hblk
    obtain ⟨p, hpi, hkp, px, pdx, po, fl, hy, h1, h2, h3⟩ := Paired.get' hp hk
    dsimp only at hkp hy
    subst hkp hy
    obtain ⟨v', hv1, hv2, _⟩ := hp.at hnd hpi
    rw [hk] at hv1; cases hv1
    have hv' : ∃ t, v = .int p.num t := by
      cases v with
      | int i t => exact ⟨t, by rw [show i = p.num from (PySem.intKind PRG w).inj (.int i t) i p.num (intKind_is _ _ _ _) hkv]⟩
      | _ => cases hkv
    obtain ⟨tv, rfl⟩ := hv'
    obtain ⟨u0', u1', u2', u3', u4', u5', w0, w1, w2⟩ := h3
    have IP := inst_mk h1 h2
    have hIf := neN (hSI _ (.head _))
    refine assign_any F₁ N₁ rfl rfl ?_
    intro h₂ F₂ N₂
    k_steps
    rename_i _ hA1 _ NA hB FB NB _ _
    dsimp only at NB
    have ht : hA1.objs.size ≠ fd := Nat.ne_of_gt (Heap.lt_size (NA (fd, od) (.tail _ (.head _))).1)
    have htI : hA1.objs.size ≠ I := Nat.ne_of_gt (Heap.lt_size (NA (I, oI) (.head _)).1)
    have hlk : kvs'.length ≤ sizeLine := by
      have e := Paired.length hrows
      rw [List.length_take] at e
      have e2 := hp.length
      rw [e]
      exact Nat.le_trans (Nat.min_le_right _ _) (Nat.le_trans (Nat.le_of_lt hlen) (by decide))
    have hnew : p.num ∉ kvs'.map (·.1) := by
      rw [hrows.keys]
      intro hm
      obtain ⟨q, hq, e⟩ := List.mem_map.mp hm
      obtain ⟨j, hj, rfl⟩ := List.mem_iff_getElem.mp hq
      rw [List.length_take] at hj
      have hji : j < i := by omega
      rw [List.getElem_take] at e
      have hil : i < ps.length := by rw [← hp.length]; exact hi
      have hpi' : ps[i] = p := by rw [List.getElem?_eq_getElem hil] at hpi; exact Option.some.inj hpi
      have := List.pairwise_iff_getElem.mp hasc j i (by rw [List.length_map]; omega) (by rw [List.length_map]; exact hil) hji
      simp only [List.getElem_map] at this
      rw [hpi'] at this
      omega
    refine kda_set (knd := PySem.intKind PRG w) FB NB (.tail ht (.tail hIf.symm (.head fun q hq => hblk q (by simpa using hq)))) hod' (intKind_is _ _ _ _) hlk ?_
    intro hC oC FC NC hdC
    rw [stored_new hnew] at hdC
    k_steps
    refine hU9 _ _ ?_
    refine TurnEnd.mk ((fd, oC) :: (hA1.objs.size, tupO [.int p.time w1, .int p.size w2, .bool p.kind, .bool p.kind] 0) :: blk) FC (fun q hq => NC q (by
        simp only [List.cons_append, List.append_nil, List.mem_cons] at hq ⊢
        rcases hq with h | h | h | h
        · exact .inr (.inl h)
        · exact .inr (.inr (.inl h))
        · exact .inl h
        · exact .inr (.inr (.inr (by show q ∈ blk ++ []; rw [List.append_nil]; exact h))))) (fun q hq => by
        simp only [List.mem_cons] at hq
        rcases hq with rfl | rfl | h
        · exact hIf
        · exact htI
        · exact hSI q (.tail _ h)) (exI5 oC _ _ (some (.int p.num tv)) (some (.ref px)) ⟨?_, rfl, hdC, ?_, ?_⟩)
    · exact ch_eq (by walk_at "m_ch") (by walk_at "m_ch") (by exact rfl) (by exact rfl)
    · rw [List.take_add_one, hpi]
      refine Paired.snoc (RowsIn.mono hrows fun q hq => .tail _ hq) ⟨rfl, hA1.objs.size, 0, w1, w2, rfl, .head _⟩
    · intro q hq
      rcases List.mem_cons.mp hq with rfl | hq
      · exact ht
      · exact hblk q hq
  · rintro m₁ S₁ h₁ tk₁ hJ9 F₁ N₁
    refine exE5 hJ9 ?_
    clear hJ9
    rintro od kvs' blk u1 u2 hJ9
    refine andE5 hJ9 ?_
    clear hJ9
    rintro rfl rfl hod' hrows hblk
    rw [hp.length, List.take_of_length_le (Nat.le_refl _)] at hrows
    dsimp only
    k_steps
    exact hR fd od kvs' blk _ _ _ (led_of (by assumption) (by assumption) (fun p hp => by rw [List.append_nil]; exact hp)) hod' hrows hlo hblk rfl
end
section
set_option maxHeartbeats 4000000 in
theorem take_spec {w : World} {A : Around} {s : Shared} {mean mg mb} {R : Result → Shared → Prop} {b : Heap} (C : Cx w mean mg mb b) (hA : Rm A 1)
    {x dx sd nl : Addr} {o os : Obj} {kvs : List (Int × Value)} {ps qs : List Pkt} {nx : Int} {la : Option Int} {nvs : List Value} {V : Value → Pkt → Prop} (LD : Led b s.heap [(sd, os)]) (hb : b.objs.size ≤ s.heap.objs.size) (hx : b.get? x = some (instObj 354 dx)) (hdx : b.get? dx = some o) (ho : SpaceD w.params o sd nx la)
    (hos : os.IsDictOf (PySem.intKind PRG w) kvs) (lo : (sd == sysModules) = false) (hp : PktsV V kvs ps) (hlen : ps.length < 64) (hasc : (ps.map (·.num)).Pairwise (· < ·))
    (hnl : b.IsList nl nvs.toArray) (hns : IntsAre nvs (qs.map (·.num))) (hsub : ∀ q ∈ qs, q ∈ ps) (hqasc : (qs.map (·.num)).Pairwise (· < ·)) (hqlen : qs.length < 64)
    (hR : ∀ os' kvs' fl fvs c h' tk v, Led b h' [(sd, os'), (fl, PySem.W.listOf fvs.toArray c)] → os'.IsDictOf (PySem.intKind PRG w) kvs' → PktsV V kvs' (ps.filter fun p => !((qs.map (·.num)).contains p.num)) →
      Paired V fvs qs → fl ≠ sd → v = .ref fl → R (.ok (.ret v)) {s with heap := h', toks := tk}) :
    codeAny (model PRG w) A (.call (.ref 283) ⟨[.ref x, .ref nl], []⟩) R s := by
  obtain ⟨t0, t1, t2, t3, t4, t5, t6, t7, t8, t9, t10, t11, t12, t13, t14, t15, t16, v0, v1, vn, va, vl, vt, vr, vs, vg, vf, vu, vk, vw, vh, ve, vi⟩ := ho
  obtain ⟨d, f, g, u, rfl⟩ := hA.norm
  have X := C.X
  have T := C.T
  refine' call_SC (binds := [(Str.ofString "self", .ref x), (Str.ofString "numbers", .ref nl)]) LD hb C ?k1 ?k2 ?k3 ?k4 ?k5 ?k6 ?_ ?c1 ?c2 ?c3
  walk_at "m_openc"
  intro L' h₁ tk cells F N Y lt hL
  k_cells Y
  k_steps
  walk_at "m_compA"
  k_steps
  have e := sorted_eq (by assumption : List.Perm _ (qs.map (·.num))) (by assumption) (asc_le hqasc)
  subst e
  rename_i co hcell SL svs sc hS FS NS lS hsv _ _ _ _ _
  have lsd := neN (Nat.ne_of_lt (lS (sd, os) (.tail _ (.head _))))
  have lco := ltN (lS (L' + 1, co) (.head _))
  have lcs : L' + 1 ≠ sd := neN (Nat.ne_of_gt (Nat.lt_succ_of_lt (lt (sd, os) (.head _))))
  dsimp only at lsd lco
  obtain ⟨g', hg', LD', st, hrest, back⟩ := shift [(sd, os)] [(SL, PySem.W.listOf svs.toArray sc), (L' + 1, co)] FS (fun p hp => NS p (by
      simp only [List.cons_append, List.nil_append, List.mem_cons] at hp ⊢
      rcases hp with h | h | h | h
      · exact .inr (.inr (.inl h))
      · exact .inl h
      · exact .inr (.inl h)
      · exact .inr (.inr (.inr h)))) (by
      intro p hp q hq
      rw [List.mem_singleton.mp hq]
      rcases List.mem_cons.mp hp with rfl | hp
      · exact lsd.symm
      · rw [List.mem_singleton.mp hp]; exact lcs)
  have X' := X.keeps st
  have T' := T.keeps st
  have HC : CellAt g' (L' + 1) (.ref x) := ⟨co, hrest _ (.tail _ (.head _)), hcell⟩
  have I' := inst_mk (st _ _ hx) (st _ _ hdx)
  have hnd := asc_nodup hasc
  refine CompGo.mk (g') [(sd, os)] [SL] qs.length _ (fun i ys S => ∃ osi kvsi, S = [(sd, osi)] ∧ osi.IsDictOf (PySem.intKind PRG w) kvsi ∧ PktsV V kvsi (ps.filter fun p => !(((qs.take i).map (·.num)).contains p.num)) ∧ Paired V ys (qs.take i)) (hg') (LD') (SrcOk.lst svs qs.length (by rw [hsv.length, List.length_map]) rfl (News.isList NS (.head _))) ?_ (Nat.le_trans (Nat.le_of_lt hqlen) (by decide)) (exI2 os kvs ⟨rfl, hos, by rw [show (ps.filter fun p => !(((qs.take 0).map (·.num)).contains p.num)) = ps from List.filter_eq_self.mpr (fun _ _ => rfl)]; exact hp, .nil⟩) ?_ ?_
  · intro a ha
    rw [List.mem_singleton.mp ha]
    exact ⟨_, hrest _ (.head _)⟩
  · rintro i v ys S₁ I oI D C h₂ tk₂ m₁ hi hv hJ9 hyl F₁ N₁ hoff hID hDC hI U9 hU9 V9 hV9
    refine exE2 hJ9 ?_
    clear hJ9
    rintro osi kvsi hJ9
    refine andE4 hJ9 ?_
    clear hJ9
    rintro rfl hoi hpi hys
    obtain ⟨p, hq⟩ : ∃ p, qs[i]? = some p := ⟨qs[i], by simp [hi]⟩
    have hv' : ∃ t, v = .int p.num t := by
      obtain ⟨n, t, e1, e2⟩ := IntsAre.at hsv i v hv
      rw [List.getElem?_map, hq] at e2
      cases e2
      exact ⟨t, e1⟩
    obtain ⟨tv, rfl⟩ := hv'
    have hmem : p ∈ ps.filter fun p => !(((qs.take i).map (·.num)).contains p.num) := by
      refine List.mem_filter.mpr ⟨hsub p (List.mem_of_getElem? hq), ?_⟩
      have hnot : p.num ∉ (qs.take i).map (·.num) := by
        intro hm
        obtain ⟨q, hqm, e⟩ := List.mem_map.mp hm
        obtain ⟨j, hj, rfl⟩ := List.mem_iff_getElem.mp hqm
        rw [List.length_take] at hj
        have hji : j < i := by omega
        rw [List.getElem_take] at e
        have hpi' : qs[i] = p := by rw [List.getElem?_eq_getElem hi] at hq; exact Option.some.inj hq
        have := List.pairwise_iff_getElem.mp hqasc j i (by rw [List.length_map]; omega) (by rw [List.length_map]; exact hi) hji
        simp only [List.getElem_map] at this
        rw [hpi'] at this
        omega
      simpa using hnot
    have hndi : ((ps.filter fun p => !(((qs.take i).map (·.num)).contains p.num)).map (·.num)).Nodup := hnd.sublist (List.filter_sublist.map _)
    obtain ⟨pv, hpv, hpa⟩ := hpi.of_mem hndi hmem
    have hki : kvsi.length ≤ sizeLine := by
      rw [hpi.length]
      exact Nat.le_trans (List.length_filter_le _ _) (Nat.le_trans (Nat.le_of_lt hlen) (by decide))
    have hIs := neN (hoff _ (.head _)).1
    have hDs := neN (hoff _ (.head _)).2
    dsimp only at hIs hDs
    refine assign_any F₁ N₁ rfl rfl ?_
    intro h₃ F₂ N₂
    refine wpAny_tests_one ?_
    k_steps
    refine kda_in (knd := PySem.intKind PRG w) (by assumption) (.tail _ (.tail _ (.head _))) hoi lo (intKind_is _ _ _ _) true (by rw [hpv]; rfl) ?_
    k_steps
    refine kob_pop (knd := PySem.intKind PRG w) (more := []) F₂ N₂ (.tail hIs.symm (.tail hDs.symm (.head fun _ h => nomatch h))) hoi (intKind_is _ _ _ _) (.inl rfl) (by rfl) (PySem.F.args_dict_pop_2 _ _) hpv hki ?_
    intro h' o' F' N' hd'
    (first | refine hU9 _ _ ?_ | refine hV9 _ ?_)
    refine CompEnd'.mk [(sd, o')] F' N' (fun q hq => by rw [List.mem_singleton.mp hq]; exact ⟨hIs, hDs⟩) (exI2 (o') _ ⟨rfl, hd', ?_, ?_⟩)
    · have e : (ps.filter fun p => !(((qs.take i).map (·.num)).contains p.num)).filter (fun q => decide (q.num ≠ p.num)) = ps.filter fun q => !(((qs.take (i + 1)).map (·.num)).contains q.num) := by
        rw [List.filter_filter, List.take_add_one, hq]
        refine List.filter_congr fun a _ => ?_
        simp only [Option.toList_some, List.map_append, List.map_cons, List.map_nil, List.contains_append, List.contains_cons, List.contains_nil, Bool.or_false, Bool.not_or]
        rw [Bool.and_comm]
        congr 1
        by_cases h : a.num = p.num <;> simp [h]
      exact e ▸ hpi.without p.num
    · rw [List.take_add_one, hq]
      exact Paired.snoc hys hpa
  · rintro ys S₁ D h₂ tk₂ hJ9 hyl LD₂ hoff hDs
    refine exE2 hJ9 ?_
    clear hJ9
    rintro osi kvsi hJ9
    refine andE4 hJ9 ?_
    clear hJ9
    rintro rfl hoi hpi hys
    obtain ⟨F₂, N₂, _⟩ := back _ _ LD₂
    rw [List.take_of_length_le (Nat.le_refl _)] at hpi hys
    refine ⟨FS.ns.lt, ⟨_, F₂.ns⟩, fun h' m hm hn hs => ?_⟩
    have F₃ := F₂.set hn hs
    have N₃ := N₂.set hs
    dsimp only
    k_steps
    exact hR osi kvsi D ys ys.length _ _ _ (led2 F₃ N₃ (.tail _ (.head _)) (.head _)) hoi hpi hys (fun e => hoff _ (.head _) e.symm) rfl
end
section
local macro_rules | `(tactic| walk_at "pad") => `(tactic| skip)
set_option maxHeartbeats 4000000 in
theorem law_take_spec {w : World} {A : Around} {s : Shared} {mean mg mb} {R : Result → Shared → Prop} {b : Heap} (C : Cx w mean mg mb b) (hA : Rm A 0)
    {bx bl c : Nat} {k m : Int} {tk tm : Tok} {vs : List Value} {ns : List Int} (LD : Led b s.heap [(bx, PySem.W.listOf [Value.ref bl, .int k tk].toArray c)]) (hb : b.objs.size ≤ s.heap.objs.size) (hbl : b.IsList bl vs.toArray) (hi : IntsAre vs ns) (hlen : ns.length < 64)
    (hk0 : 0 ≤ k) (hk1 : k ≤ 1000) (hm : 0 < m) (hm1 : m ≤ 1000)
    (hR : ∀ r t tk' c' v h' tk, Led b h' [(bx, PySem.W.listOf [Value.ref bl, .int (k + 1) tk'].toArray c')] → 0 ≤ r → r < m → v = .int r t → R (.ok (.ret v)) {s with heap := h', toks := tk}) :
    codeAny (model PRG w) A (.call (.ref 365) ⟨[.ref bx, .int m tm], []⟩) R s := by
  obtain ⟨d, f, g, u, rfl⟩ := hA.norm
  have X := C.X
  have T := C.T
  refine' call_S (binds := [(Str.ofString "box", .ref bx), (Str.ofString "many", .int m tm)]) LD hb C ?k1 ?k2 ?k3 ?k4 ?k5 ?_ ?c1 ?c2 ?c3 ?c4
  walk_at "m_open"
  intro L' h₁ F N lt hL
  k_fold
  k_steps
  all_goals exact hR _ _ _ _ _ _ _ ((led_nil (by assumption)).cons (by assumption) (.head _)) (Int.fmod_nonneg_of_pos _ hm) (Int.fmod_lt_of_pos _ hm) rfl
end
section
open PyProof.Rows.LCg
set_option maxHeartbeats 1000000
/-- a ≠ b, out of omega's sight -/
def NeA (a b : Addr) : Prop := a ≠ b
theorem NeA.out {a b : Addr} (h : NeA a b) : a ≠ b := h
theorem NeA.outs {a b : Addr} (h : NeA b a) : a ≠ b := Ne.symm h
theorem neA {a b : Addr} (h : a ≠ b) : NeA a b := h
structure Wd where
  sent : List Pkt
  nx : Int
  la : Option Int
  nr : NR
  later : Option Int
  lost : List (Int × Int)
def lookLost (delay now : Int) (W : Wd) : List Int := (detect W.la now delay W.sent).1
def look (delay now : Int) (W : Wd) : Wd :=
  if lookLost delay now W = [] then { W with later := (detect W.la now delay W.sent).2 }
  else { W with
    later := (detect W.la now delay W.sent).2
    nr := W.nr.lost (octets (W.sent.filter fun p => (lookLost delay now W).contains p.num)) (newest (W.sent.filter fun p => (lookLost delay now W).contains p.num)) now
    sent := W.sent.filter fun p => !(lookLost delay now W).contains p.num
    lost := W.lost ++ (lookLost delay now W).map fun n => (n, now) }
def looks (delay now : Int) (W : Wd) : Bool := !(lookLost delay now W).isEmpty
def worldL (pl ct ll sl : Addr) (lv dv : Value) : List (Str × Value) :=
  [(Str.ofString "place", .ref pl), (Str.ofString "control", .ref ct), (Str.ofString "later", lv), (Str.ofString "delay", dv), (Str.ofString "lost", .ref ll), (Str.ofString "seen", .ref sl)]
section
variable {pl ct ll sl : Addr} {lv dv : Value}
theorem worldL_place : valueAt (worldL pl ct ll sl lv dv) (Str.ofString "place") = some (.ref pl) := rfl
theorem worldL_control : valueAt (worldL pl ct ll sl lv dv) (Str.ofString "control") = some (.ref ct) := rfl
theorem worldL_later : valueAt (worldL pl ct ll sl lv dv) (Str.ofString "later") = some lv := rfl
theorem worldL_delay : valueAt (worldL pl ct ll sl lv dv) (Str.ofString "delay") = some dv := rfl
theorem worldL_lost : valueAt (worldL pl ct ll sl lv dv) (Str.ofString "lost") = some (.ref ll) := rfl
theorem worldL_seen : valueAt (worldL pl ct ll sl lv dv) (Str.ofString "seen") = some (.ref sl) := rfl
theorem worldL_set (v : Value) : stored (worldL pl ct ll sl lv dv) (Str.ofString "later") v = worldL pl ct ll sl v dv := by
  unfold stored worldL
  simp only [List.any_cons, List.map_cons, List.map_nil]
  have n1 : ¬ Str.ofString "place" = Str.ofString "later" := by decide
  have n2 : ¬ Str.ofString "control" = Str.ofString "later" := by decide
  have n3 : ¬ Str.ofString "delay" = Str.ofString "later" := by decide
  have n4 : ¬ Str.ofString "lost" = Str.ofString "later" := by decide
  have n5 : ¬ Str.ofString "seen" = Str.ofString "later" := by decide
  simp [n1, n2, n3, n4, n5]
end
section
variable {w : World} {A : Around} {E : Value → Shared → Prop} {s : Shared} {h₀ : Heap} {L wd : Addr} {m : Str → Option Value} {news : List (Addr × Obj)} {g : Obj → List (Addr × Obj)} {ow : Obj} {pl ct ll sl : Addr} {lv dv : Value}
theorem world_item {k : Str} {t : Tok} {v : Value} {value slice : PySem.Expr} {Q : Value → Shared → Prop} (N : News h₀ L s.heap news) (hp : (wd, ow) ∈ news) (hd : ow.IsDictOf (PySem.strKind PRG w) (worldL pl ct ll sl lv dv)) (hl : valueAt (worldL pl ct ll sl lv dv) k = some v) (h : Q v { s with toks := s.toks + 1 })
    (hs : subscripted slice false (.ref wd) (.str k t) = operate [.ref wd, .str k t] (getItem (.ref wd) (.str k t)) := by with_unfolding_all rfl) (hg : ∀ r, letTemporaryGo value (.ref wd) r = pure () := by intro _; with_unfolding_all rfl) :
    wpAny (model PRG w) A (subscriptTail value slice (.ref wd) (.str k t)) Q E s := kda_item (knd := PySem.strKind PRG w) N hp hd (strKind_is _ _ _ _) hl h hs hg
theorem world_itemB {b : Heap} {k : Str} {t : Tok} {v : Value} {value slice : PySem.Expr} {Q : Value → Shared → Prop} (F : Fr b L s.heap m) (hp : b.get? wd = some ow) (hd : ow.IsDictOf (PySem.strKind PRG w) (worldL pl ct ll sl lv dv)) (hl : valueAt (worldL pl ct ll sl lv dv) k = some v) (h : Q v { s with toks := s.toks + 1 })
    (hs : subscripted slice false (.ref wd) (.str k t) = operate [.ref wd, .str k t] (getItem (.ref wd) (.str k t)) := by with_unfolding_all rfl) (hg : ∀ r, letTemporaryGo value (.ref wd) r = pure () := by intro _; with_unfolding_all rfl) :
    wpAny (model PRG w) A (subscriptTail value slice (.ref wd) (.str k t)) Q E s :=
  have hD : s.heap.DictOf (PySem.strKind PRG w) wd (worldL pl ct ll sl lv dv) := Heap.dictOf_iff.mpr ⟨ow, F.keep _ _ hp, hd⟩
  subscriptTail_builtin hD.typeIs slot_dict_getitem.lookup (wpAny_getItem_of (strKind_is _ _ _ _) hD.mapOf hl h) hs hg
theorem world_later {t : Tok} {v : Value} {Q : Unit → Shared → Prop} (F : Fr h₀ L s.heap m) (N : News h₀ L s.heap news) (U : UpdF wd ow news g) (hd : ow.IsDictOf (PySem.strKind PRG w) (worldL pl ct ll sl lv dv))
    (h : ∀ h' o', Fr h₀ L h' m → News h₀ L h' (g o') → o'.IsDictOf (PySem.strKind PRG w) (worldL pl ct ll sl v dv) → Q () { s with heap := h', toks := s.toks + 1 }) : wpAny (model PRG w) A (setItem (.ref wd) (.str (Str.ofString "later") t) v) Q E s :=
  kda_set (knd := PySem.strKind PRG w) F N U hd (strKind_is _ _ _ _) (show 6 ≤ sizeLine by decide) fun h' o' F' N' hd' => h h' o' F' N' (worldL_set v ▸ hd')
end
def WorldD (w : World) (ow : Obj) (pl ct ll sl : Addr) (later : Option Int) (delay : Int) : Prop :=
  ∃ t1 t2 : Tok, ow.IsDictOf (PySem.strKind PRG w) (worldL pl ct ll sl (optV later t1) (.int delay t2))
def PairIn (blk : List (Addr × Obj)) (v : Value) (ab : Int × Int) : Prop := ∃ t nt t1 t2, v = .ref t ∧ (t, tupO [.int ab.1 t1, .int ab.2 t2] nt) ∈ blk
def PairsIn (blk : List (Addr × Obj)) (vs : List Value) (abs : List (Int × Int)) : Prop := Paired (PairIn blk) vs abs
theorem PairsIn.mono {blk blk' : List (Addr × Obj)} {vs : List Value} {abs : List (Int × Int)} (x : PairsIn blk vs abs) (h : ∀ p ∈ blk, p ∈ blk') : PairsIn blk' vs abs := Paired.mono (fun _ _ y => by obtain ⟨t, nt, t1, t2, e, m⟩ := y; exact ⟨t, nt, t1, t2, e, h _ m⟩) x
theorem PairsIn.at {blk : List (Addr × Obj)} {vs : List Value} {abs : List (Int × Int)} {h : Heap} (x : PairsIn blk vs abs) (hm : ∀ p ∈ blk, h.get? p.1 = some p.2) : PairsAt h vs abs := Paired.mono (fun _ _ y => by obtain ⟨t, nt, t1, t2, e, m⟩ := y; exact ⟨t, nt, t1, t2, e, hm _ m⟩) x
theorem Paired.append {α β : Type} {F : α → β → Prop} : ∀ {l l' : List α} {r r' : List β}, Paired F l r → Paired F l' r' → Paired F (l ++ l') (r ++ r')
  | _, _, _, _, .nil, h => h
  | _, _, _, _, .cons a t, h => .cons a (Paired.append t h)
theorem news_of {h₀ h : Heap} {L : Addr} {l l' : List (Addr × Obj)} {p : Addr × Obj} (N : News h₀ L h l) (hm : p ∈ l) (N' : News h₀ L h l') : News h₀ L h (p :: l') := fun q hq => by
  rcases List.mem_cons.mp hq with rfl | hq
  · exact N _ hm
  · exact N' q hq
theorem news_sub {h₀ h : Heap} {L : Addr} {l l' : List (Addr × Obj)} (N : News h₀ L h l) (hs : ∀ p ∈ l', p ∈ l) : News h₀ L h l' := fun q hq => N q (hs q hq)
theorem led_off {h h' : Heap} {S : List (Addr × Obj)} {a : Addr} {o : Obj} (LD : Led h h' S) (e : h.get? a = some o) : ∀ p ∈ S, p.1 ≠ a := fun p hp q => by
  have := (LD.mem p hp).2; rw [q, e] at this; cases this
theorem look_idle {delay now : Int} {W : Wd} (h : lookLost delay now W = []) : look delay now W = { W with later := (detect W.la now delay W.sent).2 } := if_pos h
theorem look_finds {delay now : Int} {W : Wd} (h : lookLost delay now W ≠ []) : look delay now W = { W with
    later := (detect W.la now delay W.sent).2
    nr := W.nr.lost (octets (W.sent.filter fun p => (lookLost delay now W).contains p.num)) (newest (W.sent.filter fun p => (lookLost delay now W).contains p.num)) now
    sent := W.sent.filter fun p => !(lookLost delay now W).contains p.num
    lost := W.lost ++ (lookLost delay now W).map fun n => (n, now) } := if_neg h
theorem foldl_lost (lg now delay : Int) : ∀ (ps : List Pkt) (acc : List Int × Option Int), (ps.foldl (lostStep lg now delay) acc).1 = acc.1 ++ (ps.filter fun p => !decide (p.num > lg) && isLost lg now delay p).map (·.num)
  | [], acc => by simp
  | p :: ps, acc => by
    rw [List.foldl_cons, foldl_lost lg now delay ps, List.filter_cons]
    unfold lostStep
    by_cases h1 : p.num > lg
    · simp [h1]
    · cases h2 : isLost lg now delay p with
      | true => simp [h1]
      | false => simp [h1]
theorem lookLost_filter (delay now : Int) (W : Wd) : ∃ f : Pkt → Bool, lookLost delay now W = (W.sent.filter f).map (·.num) := by
  unfold lookLost detect
  cases W.la with
  | none => exact ⟨fun _ => false, by simp⟩
  | some lg => exact ⟨_, by rw [foldl_lost, List.nil_append]⟩
theorem filter_contains {ps : List Pkt} (hn : (ps.map (·.num)).Nodup) (f : Pkt → Bool) : (ps.filter fun p => ((ps.filter f).map (·.num)).contains p.num) = ps.filter f := by
  refine List.filter_congr fun p hp => ?_
  cases hf : f p with
  | true =>
    simp only [List.contains_eq_mem, decide_eq_true_eq]
    exact List.mem_map.mpr ⟨p, List.mem_filter.mpr ⟨hp, hf⟩, rfl⟩
  | false =>
    simp only [List.contains_eq_mem, decide_eq_false_iff_not]
    intro hm
    obtain ⟨q, hq, e⟩ := List.mem_map.mp hm
    obtain ⟨hq1, hq2⟩ := List.mem_filter.mp hq
    have : q = p := by
      obtain ⟨i, hi, rfl⟩ := List.mem_iff_getElem.mp hq1
      obtain ⟨j, hj, rfl⟩ := List.mem_iff_getElem.mp hp
      have := (List.getElem_inj hn (i := i) (j := j) (h₀ := by rw [List.length_map]; exact hi) (h₁ := by rw [List.length_map]; exact hj)).mp (by simpa using e)
      subst this; rfl
    rw [this, hf] at hq2; cases hq2
theorem lost_sub {delay now : Int} {W : Wd} (hn : (W.sent.map (·.num)).Nodup) : lookLost delay now W = (W.sent.filter fun p => (lookLost delay now W).contains p.num).map (·.num) := by
  obtain ⟨f, hf⟩ := lookLost_filter delay now W
  rw [hf, filter_contains hn]
theorem disj1 {rest : List (Addr × Obj)} {d : Addr} {o : Obj} (h : ∀ p ∈ rest, p.1 ≠ d) : ∀ p ∈ rest, ∀ q ∈ [(d, o)], p.1 ≠ q.1 := fun p hp q hq => by rw [List.mem_singleton.mp hq]; exact h p hp
theorem dN {d : Addr} : ∀ p ∈ ([] : List (Addr × Obj)), p.1 ≠ d := fun _ h => nomatch h
theorem dC {rest : List (Addr × Obj)} {a d : Addr} {o : Obj} (h : a ≠ d) (t : ∀ p ∈ rest, p.1 ≠ d) : ∀ p ∈ (a, o) :: rest, p.1 ≠ d := fun p hp => by
  rcases List.mem_cons.mp hp with rfl | hp
  · exact h
  · exact t p hp
theorem handed_opt (o : Option Int) (t : Tok) : handedIn (optV o t) = true := by cases o <;> rfl
end
section
local macro_rules | `(tactic| k_ne) => `(tactic| first | exact NeA.out (by assumption) | exact NeA.outs (by assumption))
local macro_rules | `(tactic| k_all) => `(tactic| assumption)
local macro_rules | `(tactic| k_handed) => `(tactic| exact handed_opt _ _)
local macro_rules | `(tactic| walk_at "m_wl") => `(tactic| first | exact worldL_place | exact worldL_control | exact worldL_later | exact worldL_delay | exact worldL_lost | exact worldL_seen)
local macro_rules | `(tactic| walk_at "subscriptTail") => `(tactic| (k_here; (with_reducible show wpAny _ _ (subscriptTail _ _ (Value.ref _) (Value.str _ _)) _ _ _); (refine' world_item ?N ?p ?d ?l ?_; (case N => k_asm); (case p => k_mem); (case d => assumption); (case l => walk_at "m_wl"); k_whole)))
local macro_rules | `(tactic| walk_at "setItem ref str") => `(tactic| (k_here; (refine' world_later ?F ?N ?U ?d ?_; (case F => k_asm); (case N => k_asm); (case U => k_updF); (case d => assumption); k_whole); intro h' o' F' N' hd'; (try dsimp only at N')))
local macro_rules | `(tactic| walk_at "d_all") => `(tactic| (repeat (first | exact dN | (refine dC (by first | exact NeA.out (by assumption) | exact NeA.outs (by assumption)) ?_))))
set_option maxHeartbeats 4000000 in
theorem law_look_spec {w : World} {A : Around} {s : Shared} {mean mg mb} {R : Result → Shared → Prop} {b : Heap} (C : Cx w mean mg mb b) (hA : Rm A 8)
    {wd sd cdx ll pl ct dxp sl : Addr} {ow os oc op : Obj} {kvs : List (Int × Value)} {lvs : List Value} {c : Nat} {W : Wd} {V : Value → Pkt → Prop} {delay now : Int} {tn : Tok}
    (LD : Led b s.heap [(wd, ow), (sd, os), (cdx, oc), (ll, PySem.W.listOf lvs.toArray c)]) (hb : b.objs.size ≤ s.heap.objs.size)
    (hpl : b.get? pl = some (instObj 354 dxp)) (hdxp : b.get? dxp = some op) (hop : SpaceD w.params op sd W.nx W.la) (hct : b.get? ct = some (instObj 155 cdx))
    (how : WorldD w ow pl ct ll sl W.later delay) (hos : os.IsDictOf (PySem.intKind PRG w) kvs) (hps : PktsV V kvs W.sent) (hV : ∀ v p, V v p → PktAt w.params b v p) (hoc : RenoIs w.params oc W.nr) (hok : W.nr.Ok)
    (lo : (sd == sysModules) = false) (hasc : (W.sent.map (·.num)).Pairwise (· < ·)) (hlen : W.sent.length < 64) (hlv : lvs.length ≤ 10000) (hsz : ∀ p ∈ W.sent, 0 ≤ p.size ∧ p.size ≤ 1000)
    (d1 : wd ≠ sd) (d2 : wd ≠ cdx) (d3 : wd ≠ ll) (d4 : sd ≠ cdx) (d5 : sd ≠ ll) (d6 : cdx ≠ ll)
    (hR : ∀ ow' os' oc' kvs' tvs c' blk h' tk v prs, Led b h' ((wd, ow') :: (sd, os') :: (cdx, oc') :: (ll, PySem.W.listOf (lvs ++ tvs).toArray c') :: blk) → WorldD w ow' pl ct ll sl (look delay now W).later delay → os'.IsDictOf (PySem.intKind PRG w) kvs' →
      PktsV V kvs' (look delay now W).sent → RenoIs w.params oc' (look delay now W).nr → PairsIn blk tvs prs → (look delay now W).lost = W.lost ++ prs → (∀ p ∈ blk, p.1 ≠ wd ∧ p.1 ≠ sd ∧ p.1 ≠ cdx ∧ p.1 ≠ ll) → v = .bool (looks delay now W) → R (.ok (.ret v)) {s with heap := h', toks := tk}) :
    codeAny (model PRG w) A (.call (.ref 370) ⟨[.ref wd, .int now tn], []⟩) R s := by
  obtain ⟨wt1, wt2, hw⟩ := how
  obtain ⟨d, f, g, u, rfl⟩ := hA.norm
  have X := C.X
  have T := C.T
  refine' call_SC (binds := [(Str.ofString "world", .ref wd), (Str.ofString "now", .int now tn)]) LD hb C ?k1 ?k2 ?k3 ?k4 ?k5 ?k6 ?_ ?c1 ?c2 ?c3
  walk_at "m_openc"
  intro L' h₁ tk cells F N Y lt hL
  k_cells Y
  have w1 := ltN (lt (wd, ow) (.head _))
  have w2 := ltN (lt (sd, os) (.tail _ (.head _)))
  have w3 := ltN (lt (cdx, oc) (.tail _ (.tail _ (.head _))))
  have w4 := ltN (lt (ll, _) (.tail _ (.tail _ (.tail _ (.head _)))))
  dsimp only at w1 w2 w3 w4
  have x1 : NeA (L' + 1) wd := neA (Nat.ne_of_gt (Nat.lt_succ_of_lt w1))
  have x2 : NeA (L' + 1) sd := neA (Nat.ne_of_gt (Nat.lt_succ_of_lt w2))
  have x3 : NeA (L' + 1) cdx := neA (Nat.ne_of_gt (Nat.lt_succ_of_lt w3))
  have x4 : NeA (L' + 1) ll := neA (Nat.ne_of_gt (Nat.lt_succ_of_lt w4))
  replace d1 := neA d1
  replace d2 := neA d2
  replace d3 := neA d3
  replace d4 := neA d4
  replace d5 := neA d5
  replace d6 := neA d6
  have hop' := hop
  obtain ⟨p0, p1, p2, p3, p4, p5, p6, p7, p8, p9, p10, p11, p12, p13, p14, p15, p16, pv0, pv1, vn, va, vl, vt, vr, vs, vg, vf, vu, vk, vw, vh, ve, vi⟩ := hop
  have IPl := inst_mk hpl hdxp
  obtain ⟨r0, r1, r2, r3, r4, r5, rv0, rv1, rv2, rv3, rv4, rv5⟩ := hoc
  k_steps
  refine wpAny_call (sent_rows_spec (C.keeps (Fr.keep (by assumption))) ((hA.deeper _).less (by omega)) (Fr.keep (by assumption) _ _ hpl) (Fr.keep (by assumption) _ _ hdxp) hop' (News.get (by assumption) (.tail _ (.tail _ (.tail _ (.head _))))) hos lo (PktsAt.keeps (hps.at_ hV) (Fr.keep (by assumption))) hlen hasc ?_)
  intro fd od kvr blk h' tk v LD' hod hrows flo hblk hv
  subst hv
  rename_i D0 h0 F0 N0 _
  have F' := F0.keeps LD'.sub
  have NG := N0.grown LD'.sub
  have NB := led_news F0 LD'
  have o1 := led_off LD' (N0.get (.tail _ (.tail _ (.head _))))
  have o2 := led_off LD' (N0.get (.tail _ (.tail _ (.tail _ (.head _)))))
  have o3 := led_off LD' (N0.get (.tail _ (.tail _ (.tail _ (.tail _ (.head _))))))
  have o4 := led_off LD' (N0.get (.tail _ (.tail _ (.tail _ (.tail _ (.tail _ (.head _)))))))
  have N' : News b L' h' ((fd, od) :: (L' + 1, _) :: (wd, ow) :: (sd, os) :: (cdx, _) :: (ll, PySem.W.listOf lvs.toArray c) :: blk) :=
    news_of NB (.head _) (news_of NG (.tail _ (.head _)) (news_of NG (.tail _ (.tail _ (.head _))) (news_of NG (.tail _ (.tail _ (.tail _ (.head _)))) (news_of NG (.tail _ (.tail _ (.tail _ (.tail _ (.head _))))) (news_of NG (.tail _ (.tail _ (.tail _ (.tail _ (.tail _ (.head _)))))) (news_sub NB fun p hp => .tail _ hp))))))
  have e1 := neA (o1 _ (.head _))
  have e2 := neA (o2 _ (.head _))
  have e3 := neA (o3 _ (.head _))
  have e4 := neA (o4 _ (.head _))
  replace o1 : ∀ p ∈ blk, p.1 ≠ wd := fun p hp => o1 p (.tail _ hp)
  replace o2 : ∀ p ∈ blk, p.1 ≠ sd := fun p hp => o2 p (.tail _ hp)
  replace o3 : ∀ p ∈ blk, p.1 ≠ cdx := fun p hp => o3 p (.tail _ hp)
  replace o4 : ∀ p ∈ blk, p.1 ≠ ll := fun p hp => o4 p (.tail _ hp)
  replace e1 : NeA fd wd := e1
  replace e2 : NeA fd sd := e2
  replace e3 : NeA fd cdx := e3
  replace e4 : NeA fd ll := e4
  clear NG NB N0 F0
  dsimp only
  k_steps
  refine wpAny_call (detect_lost_spec (la := W.la) (C.keeps (Fr.keep (by assumption))) ((hA.deeper _).less (by omega)) (News.get (by assumption) (.head _)) hod flo (RowsIn.at hrows fun p hp => News.get (by assumption) (.tail _ (.tail _ (.tail _ (.tail _ (.tail _ (.tail _ hp)))))))  hasc hlen ?_)
  intro Tt la0 lns ltc nt tl h' tk v LD' hlns hTl hv
  subst hv
  rename_i D1 h1 F0 N0 _
  have F' := F0.keeps LD'.sub
  have NB := led_news F0 LD'
  have N' := news_of NB (.tail _ (.head _)) (news_of NB (.head _) (N0.grown LD'.sub))
  have a1 := neA (led_off LD' (N0.get (.tail _ (.tail _ (.head _)))) _ (.tail _ (.head _)))
  have a2 := neA (led_off LD' (N0.get (.tail _ (.tail _ (.tail _ (.head _))))) _ (.tail _ (.head _)))
  have a3 := neA (led_off LD' (N0.get (.tail _ (.tail _ (.tail _ (.tail _ (.head _)))))) _ (.tail _ (.head _)))
  have a4 := neA (led_off LD' (N0.get (.tail _ (.tail _ (.tail _ (.tail _ (.tail _ (.head _))))))) _ (.tail _ (.head _)))
  have c1 := neA (led_off LD' (N0.get (.tail _ (.tail _ (.head _)))) _ (.head _))
  have c2 := neA (led_off LD' (N0.get (.tail _ (.tail _ (.tail _ (.head _))))) _ (.head _))
  have c3 := neA (led_off LD' (N0.get (.tail _ (.tail _ (.tail _ (.tail _ (.head _)))))) _ (.head _))
  have c4 := neA (led_off LD' (N0.get (.tail _ (.tail _ (.tail _ (.tail _ (.tail _ (.head _))))))) _ (.head _))
  replace a1 : NeA la0 wd := a1
  replace a2 : NeA la0 sd := a2
  replace a3 : NeA la0 cdx := a3
  replace a4 : NeA la0 ll := a4
  replace c1 : NeA Tt wd := c1
  replace c2 : NeA Tt sd := c2
  replace c3 : NeA Tt cdx := c3
  replace c4 : NeA Tt ll := c4
  clear NB N0 F0
  dsimp only
  refine unpackN_ F' N' ⟨_, N'.get (.tail _ (.head _)), rfl, _, rfl⟩ rfl rfl rfl ?_
  intro h5 F5 N5
  refine assignInOrder_cons ?_
  k_steps
  refine stop_out ?_
  refine list_eq_nil (News.isList (by assumption) (.tail _ (.head _))) (News.isList (by assumption) (.head _)) (Rm.line (hA.deeper _)) ?_
  by_cases hl0 : lookLost delay now W = []
  · have e : lns = [] := by
      have := hlns.length
      rw [show (detect W.la now delay W.sent).1 = [] from hl0] at this
      exact List.length_eq_zero_iff.mp this
    subst e
    k_steps
    rw [look_idle hl0] at hR
    exact hR _ os _ kvs [] c [] _ _ _ [] (by
      rw [List.append_nil]
      exact ((((led_nil (by assumption)).cons (by assumption) (.tail _ (.tail _ (.tail _ (.tail _ (.tail _ (.tail _ (.tail _ (.tail _ (.head _)))))))))).cons (by assumption) (.tail _ (.tail _ (.tail _ (.tail _ (.tail _ (.tail _ (.tail _ (.head _))))))))).cons (by assumption) (.tail _ (.tail _ (.tail _ (.tail _ (.tail _ (.tail _ (.head _)))))))).cons (by assumption) (.tail _ (.tail _ (.tail _ (.tail _ (.tail _ (.head _)))))))
      ⟨_, wt2, by assumption⟩ hos hps ⟨_, _, _, _, _, _, _, _, _, _, _, _⟩ .nil (List.append_nil _).symm (fun _ h => nomatch h) (by rw [looks, hl0]; rfl)
  · have hq := lost_sub (delay := delay) (now := now) (W := W) (asc_nodup hasc)
    rw [look_finds hl0] at hR
    generalize hqs : (W.sent.filter fun p => (lookLost delay now W).contains p.num) = qs at hR hq
    have hsub : ∀ q ∈ qs, q ∈ W.sent := fun q h => by rw [← hqs] at h; exact (List.mem_filter.mp h).1
    rw [show (detect W.la now delay W.sent).1 = qs.map (·.num) from hq] at hlns
    have hne : lns ≠ [] := fun e => by
      subst e
      have := hlns.length
      refine hl0 (hq.trans (List.length_eq_zero_iff.mp ?_))
      simpa using this.symm
    have hie : lns.isEmpty = false := by cases lns with | nil => exact absurd rfl hne | cons _ _ => rfl
    rw [hie]
    have hql : qs.length < 64 := by rw [← hqs]; exact Nat.lt_of_le_of_lt (List.length_filter_le _ _) hlen
    have hqa : (qs.map (·.num)).Pairwise (· < ·) := by rw [← hqs]; exact hasc.sublist (List.filter_sublist.map _)
    k_steps
    refine wpAny_call (flight_size_spec (qs := qs) (C.keeps (Fr.keep (by assumption))) ((hA.deeper _).less (by omega)) (Heap.dictOf_iff.mpr ⟨od, News.get (by assumption) (.tail _ (.tail _ (.tail _ (.head _)))), hod⟩) (RowsIn.at hrows fun p hp => News.get (by assumption) (.tail _ (.tail _ (.tail _ (.tail _ (.tail _ (.tail _ (.tail _ (.tail _ (.tail _ hp)))))))))) hasc (News.isList (by assumption) (.tail _ (.head _))) hlns hsub hql (fun q h => hsz q (hsub q h)) ?_)
    intro v h' tk tt0 hk hv
    subst hv
    have F' := Fr.keeps (by assumption) hk
    have N' := News.grown (by assumption) hk
    try dsimp only
    k_steps
    refine wpAny_call (newest_time_spec (qs := qs) (C.keeps (Fr.keep (by assumption))) ((hA.deeper _).less (by omega)) (Heap.dictOf_iff.mpr ⟨od, News.get (by assumption) (.tail _ (.tail _ (.tail _ (.head _)))), hod⟩) (RowsIn.at hrows fun p hp => News.get (by assumption) (.tail _ (.tail _ (.tail _ (.tail _ (.tail _ (.tail _ (.tail _ (.tail _ (.tail _ hp)))))))))) hasc (News.isList (by assumption) (.tail _ (.head _))) hlns hsub ?_)
    intro v h' tk tt1 hk hv
    subst hv
    have F' := Fr.keeps (by assumption) hk
    have N' := News.grown (by assumption) hk
    try dsimp only
    k_steps
    have NS : News b L' h' ([(cdx, _)] ++ [(la0, _), (L' + 1, _), (wd, _), (sd, os), (ll, _)]) := news_of N' (.tail _ (.tail _ (.tail _ (.tail _ (.tail _ (.tail _ (.tail _ (.head _)))))))) (news_of N' (.tail _ (.head _)) (news_of N' (.tail _ (.tail _ (.tail _ (.tail _ (.head _))))) (news_of N' (.tail _ (.tail _ (.tail _ (.tail _ (.tail _ (.head _)))))) (news_of N' (.tail _ (.tail _ (.tail _ (.tail _ (.tail _ (.tail _ (.head _))))))) (news_of N' (.tail _ (.tail _ (.tail _ (.tail _ (.tail _ (.tail _ (.tail _ (.tail _ (.head _))))))))) News.nil)))))
    obtain ⟨g1, hg1, LD1, st1, hrest1, back1⟩ := shift _ _ F' NS (disj1 (by walk_at "d_all"))
    refine wpAny_call (on_lost_spec (r := W.nr) (C.keeps st1) ((hA.deeper _).less (by omega)) LD1 hg1 (st1 _ _ hct) ⟨_, _, _, _, _, _, _, _, _, _, _, _⟩ hok ?_)
    intro v h8 tk oc8 LD8 hoc8 hv
    subst hv
    obtain ⟨F8, N8, off8⟩ := back1 _ _ LD8
    clear F' N' NS
    dsimp only
    k_steps
    have NS : News b L' h8 ([(sd, os)] ++ [(la0, _), (L' + 1, _), (wd, _), (cdx, oc8), (ll, _)]) := news_of N8 (.tail _ (.tail _ (.tail _ (.tail _ (.head _))))) (news_of N8 (.tail _ (.head _)) (news_of N8 (.tail _ (.tail _ (.head _))) (news_of N8 (.tail _ (.tail _ (.tail _ (.head _)))) (news_of N8 (.head _) (news_of N8 (.tail _ (.tail _ (.tail _ (.tail _ (.tail _ (.head _)))))) News.nil)))))
    obtain ⟨g2, hg2, LD2, st2, hrest2, back2⟩ := shift _ _ F8 NS (disj1 (by walk_at "d_all"))
    refine wpAny_call (take_spec (ps := W.sent) (qs := qs) (C.keeps st2) ((hA.deeper _).less (by omega)) LD2 hg2 (st2 _ _ hpl) (st2 _ _ hdxp) hop' hos lo hps hlen hasc ⟨_, hrest2 _ (.head _), rfl, _, rfl⟩ hlns hsub hqa hql ?_)
    intro os9 kvs9 fl9 fvs9 c9 h9 tk v LD9 hos9 hps9 hfv9 hfl9 hv
    subst hv
    obtain ⟨F9, N9, off9⟩ := back2 _ _ LD9
    clear F8 N8 NS
    dsimp only
    k_steps
    walk_at "m_comp"
    k_steps
    have HC : CellAt h9 (L' + 1) (.int now tn) := ⟨_, N9.get (.tail _ (.tail _ (.tail _ (.head _)))), by assumption⟩
    refine CompGo.mk h9 [] [la0] qs.length _ (fun i ys S => PairsIn S ys ((qs.take i).map fun p => (p.num, now))) (Nat.le_refl _) (Led.refl _) (SrcOk.lst lns qs.length (by rw [hlns.length, List.length_map]) rfl (News.isList N9 (.tail _ (.tail _ (.head _))))) ?_ (Nat.le_trans (Nat.le_of_lt hql) (by decide)) .nil ?_ ?_
    · intro a ha
      rw [List.mem_singleton.mp ha]
      exact ⟨_, N9.get (.tail _ (.tail _ (.head _)))⟩
    · rintro i v ys S₁ I oI D C h₂ tk₂ m₁ hi hv hJ hyl F₁ N₁ hoff hID hDC hI U9 hU9 V9 hV9
      obtain ⟨p, hq⟩ : ∃ p, qs[i]? = some p := ⟨qs[i], by simp [hi]⟩
      obtain ⟨tv, rfl⟩ : ∃ t, v = .int p.num t := by
        obtain ⟨n, t, e1, e2⟩ := IntsAre.at hlns i v hv
        rw [List.getElem?_map, hq] at e2
        cases e2
        exact ⟨t, e1⟩
      refine assign_any F₁ N₁ rfl rfl ?_
      intro h₃ F₂ N₂
      clear F9
      refine wpAny_tests_nil ?_
      k_steps
      clear N' F'
      rename_i t _ FT NT lT
      (first | refine hU9 _ _ ?_ | refine hV9 _ ?_)
      refine CompEnd'.mk ((t, _) :: S₁) FT (news_of NT (.tail _ (.head _)) (news_of NT (.tail _ (.tail _ (.head _))) (news_of NT (.head _) (news_sub NT fun p hp => .tail _ (.tail _ (.tail _ hp)))))) (fun p hp => by
        rcases List.mem_cons.mp hp with rfl | hp
        · exact ⟨Nat.ne_of_gt lT.1, Nat.ne_of_gt lT.2.1⟩
        · exact hoff p hp) ?_
      show PairsIn _ _ _
      rw [List.take_add_one, hq, List.map_append]
      exact Paired.snoc (PairsIn.mono hJ fun _ h => .tail _ h) ⟨t, _, _, _, rfl, .head _⟩
    · rintro ys S₁ D h₂ tk₂ hJ hyl LD₂ hoff hDs
      have F₂ := F9.keeps LD₂.sub
      have NB := led_news F9 LD₂
      have NG := N9.grown LD₂.sub
      have N₂ : News b L' h₂ ((ll, PySem.W.listOf lvs.toArray c) :: (D, LCg.lst ys) :: (sd, os9) :: (cdx, oc8) :: (wd, _) :: S₁) := news_of NG (.tail _ (.tail _ (.tail _ (.tail _ (.tail _ (.tail _ (.head _))))))) (news_of NB (.head _) (news_of NG (.head _) (news_of NG (.tail _ (.tail _ (.tail _ (.tail _ (.tail _ (.head _)))))) (news_of NG (.tail _ (.tail _ (.tail _ (.tail _ (.head _))))) (news_sub NB fun p hp => .tail _ hp)))))
      have oW : ∀ p ∈ S₁, p.1 ≠ wd := fun p hp => led_off LD₂ (N9.get (.tail _ (.tail _ (.tail _ (.tail _ (.head _)))))) p (.tail _ hp)
      have oS : ∀ p ∈ S₁, p.1 ≠ sd := fun p hp => led_off LD₂ (N9.get (.head _)) p (.tail _ hp)
      have oC : ∀ p ∈ S₁, p.1 ≠ cdx := fun p hp => led_off LD₂ (N9.get (.tail _ (.tail _ (.tail _ (.tail _ (.tail _ (.head _))))))) p (.tail _ hp)
      have oD := led_off LD₂ (N9.get (.tail _ (.tail _ (.tail _ (.tail _ (.tail _ (.tail _ (.head _))))))))
      clear NB NG F9 N9 N' F'
      k_steps
      have hyl' : ys.length ≤ 64 := Nat.le_trans hyl (Nat.le_of_lt hql)
      have hoffs : ∀ p ∈ S₁, p.1 ≠ wd ∧ p.1 ≠ sd ∧ p.1 ≠ cdx ∧ p.1 ≠ ll := fun p hp => ⟨oW p hp, oS p hp, oC p hp, oD p (.tail _ hp)⟩
      refine extend_in (own := []) F₂ N₂ (fun _ h => nomatch h) (fun p hp => ?_) (N₂.get (.tail _ (.head _))) ?_ ?_
      · rcases List.mem_cons.mp hp with rfl | hp
        · exact oD _ (.head _)
        rcases List.mem_cons.mp hp with rfl | hp
        · exact NeA.out (by assumption)
        rcases List.mem_cons.mp hp with rfl | hp
        · exact NeA.out (by assumption)
        rcases List.mem_cons.mp hp with rfl | hp
        · exact NeA.out (by assumption)
        · exact oD _ (.tail _ hp)
      · intro h' n' F' N'
        k_steps
        have hps10 : PktsV V kvs9 (W.sent.filter fun p => !(lookLost delay now W).contains p.num) := by rw [hq]; exact hps9
        rw [List.take_of_length_le (Nat.le_refl _)] at hJ
        refine hR _ os9 oc8 kvs9 ys n' S₁ _ _ _ _ (by
          refine ((((led_of F' N' ?_).cons N' ?_).cons N' ?_).cons N' ?_).cons N' ?_
          · exact fun p hp => .tail _ (.tail _ (.tail _ (.tail _ (.tail _ hp))))
          · exact .head _
          · exact (.tail _ (.tail _ (.tail _ (.head _))))
          · exact (.tail _ (.tail _ (.head _)))
          · exact (.tail _ (.tail _ (.tail _ (.tail _ (.head _)))))) ⟨_, wt2, by assumption⟩ hos9 hps10 ?_ hJ ?_ hoffs ?_
        · exact hoc8
        · show W.lost ++ _ = _
          rw [hq, List.map_map]; rfl
        · unfold looks
          cases e : lookLost delay now W with
          | nil => exact absurd e hl0
          | cons _ _ => rfl
      · rw [List.size_toArray]
        exact Nat.le_trans (Nat.add_le_add hlv hyl') (by decide)
end
section
local macro_rules | `(tactic| walk_at "pad") => `(tactic| skip)
local macro_rules | `(tactic| k_ne) => `(tactic| first | exact NeA.out (by assumption) | exact NeA.outs (by assumption))
local macro_rules | `(tactic| k_all) => `(tactic| assumption)
local macro_rules | `(tactic| k_handed) => `(tactic| exact handed_opt _ _)
local macro_rules | `(tactic| walk_at "m_wl") => `(tactic| first | exact worldL_place | exact worldL_control | exact worldL_later | exact worldL_delay | exact worldL_lost | exact worldL_seen)
local macro_rules | `(tactic| walk_at "subscriptTail") => `(tactic| (k_here; (with_reducible show wpAny _ _ (subscriptTail _ _ (Value.ref _) (Value.str _ _)) _ _ _); (refine' world_item ?N ?p ?d ?l ?_; (case N => k_asm); (case p => k_mem); (case d => assumption); (case l => walk_at "m_wl"); k_whole)))
theorem item_last {w : World} {A : Around} {E : Value → Shared → Prop} {s : Shared} {b : Heap} {L : Addr} {m : Str → Option Value} {value slice : Expr} {l : Addr} {vs : List Value} {ns : List Int} {u : Tok} {Q : Value → Shared → Prop} (F : Fr b L s.heap m) (hl : b.IsList l vs.toArray) (hi : IntsAre vs ns) (hn : ns ≠ []) (h : ∀ t, Q (.int (ns.getLastD 0) t) s)
    (hs : subscripted slice false (.ref l) (.int (-1) u) = operate [.ref l, .int (-1) u] (getItem (.ref l) (.int (-1) u)) := by with_unfolding_all rfl) (hg : ∀ r, letTemporaryGo value (.ref l) r = pure () := by intro _; with_unfolding_all rfl) :
    wpAny (model PRG w) A (subscriptTail value slice (.ref l) (.int (-1) u)) Q E s := by
  have h1 : 0 < ns.length := List.length_pos_iff.mpr hn
  refine item_list_ints_neg (hl.at fun o e => F.keep _ _ e) hi (by decide) (by omega) (by decide) (fun t => ?_) hs hg
  have e : ns.getD (-1 + (ns.length : Int)).toNat 0 = ns.getLastD 0 := by
    rw [show (-1 + (ns.length : Int)).toNat = ns.length - 1 by omega, List.getLastD_eq_getLast?, List.getLast?_eq_getElem?, List.getD_eq_getElem?_getD]
  rw [e]
  exact h t
local macro_rules | `(tactic| walk_at "subscriptTail") => `(tactic| (k_here; (with_reducible show wpAny _ _ (subscriptTail _ _ (Value.ref _) (Value.int _ _)) _ _ _); (refine' item_last ?F ?l ?i ?n ?_; (case F => k_asm); (case l => assumption); (case i => assumption); (case n => assumption); k_whole)))
local macro_rules | `(tactic| walk_at "d_all") => `(tactic| (repeat (first | exact dN | (refine dC (by first | exact NeA.out (by assumption) | exact NeA.outs (by assumption)) ?_))))
def ackStep (r : NR) (p : Pkt) : NR := if p.kind then r.acked p.size p.time else r
def told (delay now : Int) (ns : List Int) (W : Wd) : Wd :=
  let W2 := look delay now { W with sent := W.sent.filter (fun p => !ns.contains p.num), la := some (maxO W.la (ns.getLastD 0)) }
  { W2 with nr := (W.sent.filter fun p => ns.contains p.num).foldl ackStep W2.nr }
def NR.In (r : NR) (k : Nat) : Prop := 200 ≤ r.win ∧ r.win ≤ 1000 + 1000 * (k : Int) ∧ 0 ≤ r.cr ∧ r.cr < r.win
theorem NR.In.ok {r : NR} {k : Nat} (h : r.In k) (hk : k ≤ 900) : r.Ok := by
  obtain ⟨a, b, c, e⟩ := h
  exact ⟨a, by omega, c, by omega⟩
theorem NR.In.widen {r : NR} {k : Nat} (h : r.In k) {size : Int} (h0 : 0 ≤ size) (h1 : size ≤ 1000) : (r.widen size).In (k + 1) := by
  obtain ⟨a, b, c, e⟩ := h
  have hw : 0 < r.win := by omega
  have e1 : (r.cr + 100 * size).fdiv r.win = (r.cr + 100 * size) / r.win := Int.fdiv_eq_ediv_of_nonneg _ (by omega)
  have e2 : (r.cr + 100 * size) - (r.cr + 100 * size) / r.win * r.win = (r.cr + 100 * size) % r.win := by
    rw [Int.emod_def, Int.mul_comm r.win]
  have e3 : 0 ≤ (r.cr + 100 * size) / r.win := Int.ediv_nonneg (by omega) (by omega)
  have e4 : (r.cr + 100 * size) / r.win ≤ 501 := by
    have : (r.cr + 100 * size) / r.win < 502 := Int.ediv_lt_of_lt_mul hw (by omega)
    omega
  have e5 : 0 ≤ (r.cr + 100 * size) % r.win := Int.emod_nonneg _ (by omega)
  have e6 : (r.cr + 100 * size) % r.win < r.win := Int.emod_lt_of_pos _ hw
  unfold NR.widen NR.In
  dsimp only
  rw [e1, e2]
  refine ⟨by omega, by omega, e5, by omega⟩
theorem NR.In.more {r : NR} {k : Nat} (h : r.In k) : r.In (k + 1) := by
  obtain ⟨a, b, c, e⟩ := h
  exact ⟨a, by omega, c, e⟩
theorem NR.In.inf {r : NR} {k : Nat} (h : r.In k) (x : Int) : NR.In { r with inf := x } k := h
theorem NR.In.acked {r : NR} {k : Nat} (h : r.In k) {size t : Int} (h0 : 0 ≤ size) (h1 : size ≤ 1000) : (r.acked size t).In (k + 1) := by
  unfold NR.acked
  split
  · exact h.more
  · split
    · obtain ⟨a, b, c, e⟩ := h
      exact ⟨by show 200 ≤ r.win + size; omega, by show r.win + size ≤ _; omega, c, by show r.cr < r.win + size; omega⟩
    · exact NR.In.widen (h.inf _) h0 h1
theorem NR.In.lost {r : NR} {k : Nat} (h : r.In k) (size : Int) (nw : Option Int) (now : Int) : (r.lost size nw now).In k := by
  unfold NR.lost
  cases nw with
  | none => exact h.inf _
  | some t =>
    show NR.In (NR.congest { r with inf := r.inf - size } t now) k
    unfold NR.congest
    split
    · exact h.inf _
    · obtain ⟨a, b, c, e⟩ := h
      refine ⟨?_, ?_, Int.le_refl _, ?_⟩
      · show 200 ≤ max (r.win / 2) 200; omega
      · show max (r.win / 2) 200 ≤ _; omega
      · show 0 < max (r.win / 2) 200; omega
theorem NR.In.step {r : NR} {k : Nat} (h : r.In k) {p : Pkt} (h0 : 0 ≤ p.size) (h1 : p.size ≤ 1000) : (ackStep r p).In (k + 1) := by
  unfold ackStep
  split
  · exact h.acked h0 h1
  · exact h.more
theorem look_nr {delay now : Int} {W : Wd} {k : Nat} (h : W.nr.In k) : (look delay now W).nr.In k := by
  unfold look
  split
  · exact h
  · exact h.lost _ _ _
theorem acked_map (ps : List Pkt) (ns : List Int) : (ps.map (·.num)).filter (fun n => (ns.reverse.map fun n => (n, n)).any fun ab => decide (ab.1 ≤ n) && decide (n ≤ ab.2)) = (ps.filter fun p => ns.contains p.num).map (·.num) := by
  rw [List.filter_map]
  congr 1
  refine List.filter_congr fun p _ => ?_
  rw [Function.comp_apply, List.any_map, List.any_reverse, Bool.eq_iff_iff, List.any_eq_true, List.contains_iff_mem]
  constructor
  · rintro ⟨n, hn, h⟩
    simp only [Function.comp_apply, Bool.and_eq_true, decide_eq_true_eq] at h
    rw [show p.num = n by omega]
    exact hn
  · intro hn
    exact ⟨_, hn, by simp⟩
theorem disjN {rest : List (Addr × Obj)} : ∀ p ∈ rest, ∀ q ∈ ([] : List (Addr × Obj)), p.1 ≠ q.1 := fun _ _ _ h => nomatch h
theorem disjC {rest S : List (Addr × Obj)} {d : Addr} {o : Obj} (h : ∀ p ∈ rest, p.1 ≠ d) (t : ∀ p ∈ rest, ∀ q ∈ S, p.1 ≠ q.1) : ∀ p ∈ rest, ∀ q ∈ (d, o) :: S, p.1 ≠ q.1 := fun p hp q hq => by
  rcases List.mem_cons.mp hq with rfl | hq
  · exact h p hp
  · exact t p hp q hq
theorem rest_eq (ps : List Pkt) (ns : List Int) : (ps.filter fun p => !((((ps.filter fun p => ns.contains p.num).map (·.num)).contains p.num))) = ps.filter fun p => !ns.contains p.num := by
  refine List.filter_congr fun p hp => ?_
  congr 1
  rw [Bool.eq_iff_iff, List.contains_iff_mem, List.contains_iff_mem]
  constructor
  · intro h
    obtain ⟨q, hq, e⟩ := List.mem_map.mp h
    rw [← e]
    exact List.contains_iff_mem.mp (List.mem_filter.mp hq).2
  · intro h
    exact List.mem_map.mpr ⟨p, List.mem_filter.mpr ⟨hp, List.contains_iff_mem.mpr h⟩, rfl⟩
theorem ack_in {r : NR} {k : Nat} (h : r.In k) : ∀ {qs : List Pkt}, (∀ q ∈ qs, 0 ≤ q.size ∧ q.size ≤ 1000) → (qs.foldl ackStep r).In (k + qs.length)
  | [], _ => h
  | q :: qs, hq => by
    rw [List.foldl_cons, List.length_cons, show k + (qs.length + 1) = (k + 1) + qs.length by omega]
    exact ack_in (h.step (hq q (.head _)).1 (hq q (.head _)).2) fun x hx => hq x (.tail _ hx)
set_option maxHeartbeats 4000000 in
theorem law_told_spec {w : World} {A : Around} {s : Shared} {mean mg mb} {R : Result → Shared → Prop} {b : Heap} (C : Cx w mean mg mb b) (hA : Rm A 9)
    {wd sd cdx ll pl ct dxp sl nl : Addr} {ow os oc op : Obj} {kvs : List (Int × Value)} {lvs nvs : List Value} {ns : List Int} {c : Nat} {W : Wd} {V : Value → Pkt → Prop} {delay now : Int} {tn : Tok} {k : Nat}
    (LD : Led b s.heap [(wd, ow), (sd, os), (cdx, oc), (ll, PySem.W.listOf lvs.toArray c), (dxp, op)]) (hb : b.objs.size ≤ s.heap.objs.size)
    (hpl : b.get? pl = some (instObj 354 dxp)) (hop : SpaceD w.params op sd W.nx W.la) (hct : b.get? ct = some (instObj 155 cdx)) (hnl : b.IsList nl nvs.toArray) (hns : IntsAre nvs ns) (hn0 : ns ≠ []) (hnl64 : ns.length < 64)
    (how : WorldD w ow pl ct ll sl W.later delay) (hos : os.IsDictOf (PySem.intKind PRG w) kvs) (hps : PktsV V kvs W.sent) (hV : ∀ v p, V v p → PktAt w.params b v p) (hoc : RenoIs w.params oc W.nr) (hok : W.nr.In k) (hk : k + W.sent.length ≤ 900)
    (lo : (sd == sysModules) = false) (hasc : (W.sent.map (·.num)).Pairwise (· < ·)) (hlen : W.sent.length < 64) (hlv : lvs.length ≤ 10000) (hsz : ∀ p ∈ W.sent, 0 ≤ p.size ∧ p.size ≤ 1000)
    (d1 : wd ≠ sd) (d2 : wd ≠ cdx) (d3 : wd ≠ ll) (d4 : sd ≠ cdx) (d5 : sd ≠ ll) (d6 : cdx ≠ ll) (d7 : wd ≠ dxp) (d8 : sd ≠ dxp) (d9 : cdx ≠ dxp) (d10 : ll ≠ dxp)
    (hR : ∀ ow' os' oc' op' kvs' tvs c' blk h' tk v prs, Led b h' ((wd, ow') :: (sd, os') :: (cdx, oc') :: (ll, PySem.W.listOf (lvs ++ tvs).toArray c') :: (dxp, op') :: blk) → WorldD w ow' pl ct ll sl (told delay now ns W).later delay → os'.IsDictOf (PySem.intKind PRG w) kvs' →
      PktsV V kvs' (told delay now ns W).sent → RenoIs w.params oc' (told delay now ns W).nr → SpaceD w.params op' sd W.nx (told delay now ns W).la → PairsIn blk tvs prs → (told delay now ns W).lost = W.lost ++ prs → (∀ p ∈ blk, p.1 ≠ wd ∧ p.1 ≠ sd ∧ p.1 ≠ cdx ∧ p.1 ≠ ll ∧ p.1 ≠ dxp) → v = .none → R (.ok (.ret v)) {s with heap := h', toks := tk}) :
    codeAny (model PRG w) A (.call (.ref 375) ⟨[.ref wd, .ref nl, .int now tn], []⟩) R s := by
  obtain ⟨wt1, wt2, hw⟩ := how
  obtain ⟨d, f, g, u, rfl⟩ := hA.norm
  have X := C.X
  have T := C.T
  refine' call_S (binds := [(Str.ofString "world", .ref wd), (Str.ofString "numbers", .ref nl), (Str.ofString "now", .int now tn)]) LD hb C ?k1 ?k2 ?k3 ?k4 ?k5 ?_ ?c1 ?c2 ?c3 ?c4
  walk_at "m_open"
  intro L' h₁ F N lt hL
  k_fold
  replace d1 := neA d1
  replace d2 := neA d2
  replace d3 := neA d3
  replace d4 := neA d4
  replace d5 := neA d5
  replace d6 := neA d6
  replace d7 := neA d7
  replace d8 := neA d8
  replace d9 := neA d9
  replace d10 := neA d10
  have hop' := hop
  have hoc' := hoc
  obtain ⟨p0, p1, p2, p3, p4, p5, p6, p7, p8, p9, p10, p11, p12, p13, p14, p15, p16, pv0, pv1, vn, va, vl, vt, vr, vs, vg, vf, vu, vk, vw, vh, ve, vi⟩ := hop
  obtain ⟨r0, r1, r2, r3, r4, r5, rv0, rv1, rv2, rv3, rv4, rv5⟩ := hoc
  k_steps
  walk_at "m_comp"
  k_steps
  rename_i l9 ws9 _ F9 N9 hI9 hC9 _
  have hI9l : ws9.length = ns.length := hI9.length.trans hC9
  refine CompGo.mk _ [] [l9] ns.length _ (fun i ys S => PairsIn S ys ((ns.reverse.take i).map fun n => (n, n))) (Nat.le_refl _) (Led.refl _) (SrcOk.lst ws9 ns.length hI9l rfl (News.isList N9 (.head _))) ?_ (Nat.le_trans (Nat.le_of_lt hnl64) (by decide)) .nil ?_ ?_
  · intro a ha
    rw [List.mem_singleton.mp ha]
    exact ⟨_, N9.get (.head _)⟩
  · rintro i v ys S₁ I oI D C h₂ tk₂ m₁ hi hv hJ hyl F₁ N₁ hoff hID hDC hI U9 hU9 V9 hV9
    obtain ⟨n, tv, rfl, hq⟩ := IntsAre.at hI9 i v hv
    refine assign_any F₁ N₁ rfl rfl ?_
    intro h₃ F₂ N₂
    clear F9
    refine wpAny_tests_nil ?_
    k_steps
    rename_i t _ FT NT lT
    (first | refine hU9 _ _ ?_ | refine hV9 _ ?_)
    refine CompEnd'.mk ((t, _) :: S₁) FT (news_of NT (.tail _ (.head _)) (news_of NT (.tail _ (.tail _ (.head _))) (news_of NT (.head _) (news_sub NT fun p hp => .tail _ (.tail _ (.tail _ hp)))))) (fun p hp => by
      rcases List.mem_cons.mp hp with rfl | hp
      · exact ⟨Nat.ne_of_gt lT.1, Nat.ne_of_gt lT.2.1⟩
      · exact hoff p hp) ?_
    show PairsIn _ _ _
    rw [List.take_add_one, hq, List.map_append]
    exact Paired.snoc (PairsIn.mono hJ fun _ h => .tail _ h) ⟨t, _, _, _, rfl, .head _⟩
  rintro ys S₁ D h₂ tk₂ hJ hyl LD₂ hoff hDs
  rw [List.take_of_length_le (by rw [List.length_reverse]; exact Nat.le_refl _)] at hJ
  have F₂ := F9.keeps LD₂.sub
  have NB := led_news F9 LD₂
  have NG := N9.grown LD₂.sub
  have hPA : PairsAt h₂ ys (ns.reverse.map fun n => (n, n)) := hJ.at fun p hp => NB.get (.tail _ hp)
  have N₂ : News b L' h₂ [(D, LCg.lst ys), (wd, ow), (sd, os), (cdx, _), (ll, PySem.W.listOf lvs.toArray c), (dxp, _)] := news_of NB (.head _) (news_of NG (.tail _ (.tail _ (.head _))) (news_of NG (.tail _ (.tail _ (.tail _ (.head _)))) (news_of NG (.tail _ (.tail _ (.tail _ (.tail _ (.head _))))) (news_of NG (.tail _ (.tail _ (.tail _ (.tail _ (.tail _ (.head _)))))) (news_of NG (.tail _ (.tail _ (.tail _ (.tail _ (.tail _ (.tail _ (.head _))))))) News.nil)))))
  clear NB NG F9 N9
  k_steps
  have hkv : kvs.map (·.1) = W.sent.map (·.num) := hps.keys
  refine wpAny_call (acked_by_spec (abs := ns.reverse.map fun n => (n, n)) (C.keeps (Fr.keep (by assumption))) ((hA.deeper _).less (by omega)) (Fr.keep (by assumption) _ _ hpl) (N₂.get (.tail _ (.tail _ (.tail _ (.tail _ (.tail _ (.head _))))))) hop' (N₂.get (.tail _ (.tail _ (.head _)))) hos lo (by rw [hkv]; exact hasc) (by rw [hps.length]; exact hlen) (N₂.isList (.head _)) hPA (by rw [List.length_map, List.length_reverse]; exact hnl64) ?_)
  intro ak0 avs ac v h' tk LD' havs hv
  subst hv
  clear hPA
  rw [hkv, acked_map] at havs
  have LD1 : Led h₂ h' [(ak0, PySem.W.listOf avs.toArray ac)] := LD'
  have F3 := F₂.keeps LD1.sub
  have a1 : NeA ak0 wd := neA (led_off LD1 (N₂.get (.tail _ (.head _))) _ (.head _))
  have a2 : NeA ak0 sd := neA (led_off LD1 (N₂.get (.tail _ (.tail _ (.head _)))) _ (.head _))
  have a3 : NeA ak0 cdx := neA (led_off LD1 (N₂.get (.tail _ (.tail _ (.tail _ (.head _))))) _ (.head _))
  have a4 : NeA ak0 ll := neA (led_off LD1 (N₂.get (.tail _ (.tail _ (.tail _ (.tail _ (.head _)))))) _ (.head _))
  have a5 : NeA ak0 dxp := neA (led_off LD1 (N₂.get (.tail _ (.tail _ (.tail _ (.tail _ (.tail _ (.head _))))))) _ (.head _))
  have N3 := news_of (led_news F₂ LD1) (.head _) (N₂.grown LD1.sub)
  clear LD1 LD' F₂ N₂
  dsimp only
  k_steps
  generalize hqs : (W.sent.filter fun p => ns.contains p.num) = qs at havs
  have hsub : ∀ q ∈ qs, q ∈ W.sent := fun q h => by rw [← hqs] at h; exact (List.mem_filter.mp h).1
  have hql : qs.length < 64 := by rw [← hqs]; exact Nat.lt_of_le_of_lt (List.length_filter_le _ _) hlen
  have hqa : (qs.map (·.num)).Pairwise (· < ·) := by rw [← hqs]; exact hasc.sublist (List.filter_sublist.map _)
  have NS : News b L' h' ([(sd, os)] ++ [(ak0, _), (wd, ow), (cdx, _), (ll, _), (dxp, _)]) := news_of N3 (.tail _ (.tail _ (.tail _ (.head _)))) (news_of N3 (.head _) (news_of N3 (.tail _ (.tail _ (.head _))) (news_of N3 (.tail _ (.tail _ (.tail _ (.tail _ (.head _))))) (news_of N3 (.tail _ (.tail _ (.tail _ (.tail _ (.tail _ (.head _)))))) (news_of N3 (.tail _ (.tail _ (.tail _ (.tail _ (.tail _ (.tail _ (.head _))))))) News.nil)))))
  obtain ⟨g2, hg2, LD2, st2, hrest2, back2⟩ := shift _ _ F3 NS (disj1 (by walk_at "d_all"))
  refine wpAny_call (take_spec (ps := W.sent) (qs := qs) (C.keeps st2) ((hA.deeper _).less (by omega)) LD2 hg2 (st2 _ _ hpl) (hrest2 _ (.tail _ (.tail _ (.tail _ (.tail _ (.head _)))))) hop' hos lo hps hlen hasc ⟨_, hrest2 _ (.head _), rfl, _, rfl⟩ havs hsub hqa hql ?_)
  intro os9 kvs9 fl9 fvs9 c9 h9 tk v LD9 hos9 hps9 hfv9 hfl9 hv
  subst hv
  obtain ⟨F9, N9, off9⟩ := back2 _ _ LD9
  clear F3 N3 NS
  have b1 : NeA fl9 wd := neA (off9 _ (.tail _ (.head _)) _ (.tail _ (.head _))).symm
  have b2 : NeA fl9 sd := neA hfl9
  have b3 : NeA fl9 cdx := neA (off9 _ (.tail _ (.tail _ (.head _))) _ (.tail _ (.head _))).symm
  have b4 : NeA fl9 ll := neA (off9 _ (.tail _ (.tail _ (.tail _ (.head _)))) _ (.tail _ (.head _))).symm
  have b5 : NeA fl9 dxp := neA (off9 _ (.tail _ (.tail _ (.tail _ (.tail _ (.head _))))) _ (.tail _ (.head _))).symm
  dsimp only
  k_steps
  have F8 := ‹Fr b L' _ _›
  have N8 := ‹News b L' _ _›
  have NS : News b L' _ ([(dxp, _)] ++ [(fl9, PySem.W.listOf fvs9.toArray c9), (wd, ow), (sd, os9), (cdx, _), (ll, PySem.W.listOf lvs.toArray c)]) := news_of N8 (.tail _ (.tail _ (.tail _ (.tail _ (.tail _ (.tail _ (.head _))))))) (news_of N8 (.tail _ (.head _)) (news_of N8 (.tail _ (.tail _ (.tail _ (.head _)))) (news_of N8 (.head _) (news_of N8 (.tail _ (.tail _ (.tail _ (.tail _ (.head _))))) (news_of N8 (.tail _ (.tail _ (.tail _ (.tail _ (.tail _ (.head _)))))) News.nil)))))
  obtain ⟨g3, hg3, LD3, st3, hrest3, back3⟩ := shift _ _ F8 NS (disj1 (by walk_at "d_all"))
  refine wpAny_call (note_largest_spec (C.keeps st3) ((hA.deeper _).less (by omega)) LD3 hg3 (st3 _ _ hpl) hop' ?_)
  intro v h10 tk op10 LD10 hop10 hv
  subst hv
  obtain ⟨F10, N10, off10⟩ := back3 _ _ LD10
  clear F8 N8 NS
  dsimp only
  k_steps
  have F8 := ‹Fr b L' _ _›
  have N8 := ‹News b L' _ _›
  have NS : News b L' _ ([(wd, ow), (sd, os9), (cdx, _), (ll, PySem.W.listOf lvs.toArray c)] ++ [(fl9, PySem.W.listOf fvs9.toArray c9), (dxp, op10)]) := news_of N8 (.tail _ (.tail _ (.head _))) (news_of N8 (.tail _ (.tail _ (.tail _ (.head _)))) (news_of N8 (.tail _ (.tail _ (.tail _ (.tail _ (.head _))))) (news_of N8 (.tail _ (.tail _ (.tail _ (.tail _ (.tail _ (.head _)))))) (news_of N8 (.tail _ (.head _)) (news_of N8 (.head _) News.nil)))))
  obtain ⟨g4, hg4, LD4, st4, hrest4, back4⟩ := shift _ _ F8 NS (disjC (by walk_at "d_all") (disjC (by walk_at "d_all") (disjC (by walk_at "d_all") (disjC (by walk_at "d_all") disjN))))
  rw [← hqs, rest_eq] at hps9
  have hlook : (look delay now { W with sent := W.sent.filter (fun p => !ns.contains p.num), la := some (maxO W.la (ns.getLastD 0)) }).nr.In k := look_nr hok
  refine wpAny_call (law_look_spec (W := { W with sent := W.sent.filter (fun p => !ns.contains p.num), la := some (maxO W.la (ns.getLastD 0)) }) (V := V) (C.keeps st4) ((hA.deeper _).less (by omega)) LD4 hg4 (st4 _ _ hpl) (hrest4 _ (.tail _ (.head _))) hop10 (st4 _ _ hct) ⟨wt1, wt2, hw⟩ hos9 hps9 (fun v p h => (hV v p h).keeps st4) hoc' (hok.ok (by omega)) lo (hasc.sublist (List.filter_sublist.map _)) (Nat.lt_of_le_of_lt (List.length_filter_le _ _) hlen) hlv (fun p hp => hsz p (List.mem_filter.mp hp).1) d1.out d2.out d3.out d4.out d5.out d6.out ?_)
  intro ow5 os5 oc5 kvs5 tvs c5 blk h5 tk v prs LD5 hw5 hos5 hps5 hoc5 hpi5 hlost5 hoff5 hv
  subst hv
  obtain ⟨F5, N5, off5⟩ := back4 _ _ LD5
  clear F8 N8 NS
  dsimp only
  k_steps
  refine stop_out ?_
  refine for_S (h₀ := b) ?_ (by intro _; rfl)
  k_steps
  have NL : News b L' h5 ([(cdx, oc5)] ++ ((fl9, PySem.W.listOf fvs9.toArray c9) :: (wd, ow5) :: (sd, os5) :: (ll, _) :: (dxp, op10) :: blk)) := news_of N5 (.tail _ (.tail _ (.head _))) (news_of N5 (List.mem_append_right _ (.head _)) (news_of N5 (.head _) (news_of N5 (.tail _ (.head _)) (news_of N5 (.tail _ (.tail _ (.tail _ (.head _)))) (news_of N5 (List.mem_append_right _ (.tail _ (.head _))) (news_sub N5 fun p hp => List.mem_append_left _ (.tail _ (.tail _ (.tail _ (.tail _ hp))))))))))
  have hfl : h5.IsList fl9 fvs9.toArray := NL.isList (.tail _ (.head _))
  have oblk : ∀ p ∈ blk, p.1 ≠ dxp := fun p hp e => off5 _ (.tail _ (.head _)) p (.tail _ (.tail _ (.tail _ (.tail _ hp)))) e.symm
  refine ForGo.mk _ [(cdx, oc5)] ((fl9, PySem.W.listOf fvs9.toArray c9) :: (wd, ow5) :: (sd, os5) :: (ll, _) :: (dxp, op10) :: blk) [fl9] qs.length _ (fun i m S => ∃ (u1 : Option Value) (oc : Obj), m = (mput (Str.ofString "packet") (u1) (mput (Str.ofString "taken") (some (.ref fl9)) (mput (Str.ofString "place") (some (.ref pl)) (mput (Str.ofString "control") (some (.ref ct)) (fun y => List.lookup y [(Str.ofString "world", .ref wd), (Str.ofString "numbers", .ref nl), (Str.ofString "now", .int now tn)].reverse))))) ∧ S = [(cdx, oc)] ∧
        RenoIs w.params oc ((qs.take i).foldl ackStep (look delay now { W with sent := W.sent.filter (fun p => !ns.contains p.num), la := some (maxO W.la (ns.getLastD 0)) }).nr)) F5 NL (SrcOk.lst fvs9 qs.length hfv9.length rfl hfl) ?_ (exI2 none oc5 ⟨?_, rfl, hoc5⟩) ?_ ?_
  · intro a ha
    rw [List.mem_singleton.mp ha]
    exact .inr ⟨_, .head _⟩
  · exact ch_eq (by walk_at "m_ch") (by walk_at "m_ch") (by exact rfl) (by exact rfl)
  · rintro i v m₁ S₁ I oI h₁ tk₁ hi hv hJ9 F₁ N₁ hSI hZI hIs U9 hU9
    refine exE2 hJ9 ?_
    clear hJ9
    rintro u1 oci hJ9
    refine andE3 hJ9 ?_
    clear hJ9
    rintro rfl rfl hoci
    obtain ⟨p, hp, hVp⟩ := Paired.get' hfv9 hv
    obtain ⟨px, pdx, po, pf, rfl, hp1, hp2, hp3⟩ := hV _ _ hVp
    obtain ⟨z0, z1, z2, z3, z4, z5, w0, w1, w2⟩ := hp3
    have IP := inst_mk hp1 hp2
    have hps := hsz p (hsub p (List.mem_of_getElem? hp))
    have estep : (qs.take (i + 1)).foldl ackStep (look delay now { W with sent := W.sent.filter (fun p => !ns.contains p.num), la := some (maxO W.la (ns.getLastD 0)) }).nr = ackStep ((qs.take i).foldl ackStep (look delay now { W with sent := W.sent.filter (fun p => !ns.contains p.num), la := some (maxO W.la (ns.getLastD 0)) }).nr) p := by
      rw [List.take_add_one, hp, List.foldl_append]; rfl
    have hin : NR.Ok ((qs.take i).foldl ackStep (look delay now { W with sent := W.sent.filter (fun p => !ns.contains p.num), la := some (maxO W.la (ns.getLastD 0)) }).nr) := by
      refine (ack_in hlook fun q hq => hsz q (hsub q (List.mem_of_mem_take hq))).ok ?_
      rw [List.length_take]
      have : qs.length ≤ W.sent.length := by rw [← hqs]; exact List.length_filter_le _ _
      omega
    generalize (qs.take i).foldl ackStep (look delay now { W with sent := W.sent.filter (fun p => !ns.contains p.num), la := some (maxO W.la (ns.getLastD 0)) }).nr = ri at hoci estep hin
    have hIc : I ≠ cdx := (hSI _ (.head _)).symm
    have oc1 : ∀ q ∈ (fl9, PySem.W.listOf fvs9.toArray c9) :: (wd, ow5) :: (sd, os5) :: (ll, PySem.W.listOf (lvs ++ tvs).toArray c5) :: (dxp, op10) :: blk, q.1 ≠ cdx := dC b3.out (dC d2.out (dC d4.out (dC d6.outs (dC d9.outs fun q hq => (hoff5 q hq).2.2.1))))
    have hoc := hoci
    obtain ⟨r0, r1, r2, r3, r4, r5, rv0, rv1, rv2, rv3, rv4, rv5⟩ := hoc
    refine assign_any F₁ N₁ rfl rfl ?_
    intro h₂ F₂ N₂
    clear F5 N5 NL
    k_steps
    · have F8 := ‹Fr b L' _ _›
      have N8 := ‹News b L' _ _›
      have NS : News b L' _ ([(cdx, _)] ++ ((I, oI) :: (fl9, PySem.W.listOf fvs9.toArray c9) :: (wd, ow5) :: (sd, os5) :: (ll, PySem.W.listOf (lvs ++ tvs).toArray c5) :: (dxp, op10) :: blk)) := news_of N8 (.tail _ (.head _)) (news_of N8 (.head _) (news_sub N8 fun p hp => .tail _ (.tail _ hp)))
      obtain ⟨g6, hg6, LD6, st6, hrest6, back6⟩ := shift _ _ F8 NS (disj1 (dC hIc oc1))
      refine wpAny_call (on_acked_spec (C.keeps st6) ((hA.deeper _).less (by omega)) LD6 hg6 (st6 _ _ hct) hoci hin hps.1 hps.2 ?_)
      intro v h11 tk oc11 LD11 hoc11 hv
      subst hv
      obtain ⟨F11, N11, off11⟩ := back6 _ _ LD11
      clear F8 N8 NS
      dsimp only
      k_steps
      refine hU9 _ _ ?_
      refine TurnEnd.mk [(cdx, oc11)] F11 (news_of N11 (.tail _ (.head _)) (news_of N11 (.head _) (news_sub N11 fun p hp => .tail _ (.tail _ hp)))) (fun q hq => by rw [List.mem_singleton.mp hq]; exact hIc.symm) (exI2 (some (.ref px)) oc11 ⟨?_, rfl, ?_⟩)
      · exact ch_eq (by walk_at "m_ch") (by walk_at "m_ch") (by exact rfl) (by exact rfl)
      · rw [estep, ackStep, if_pos (by assumption)]
        exact hoc11
    · have F8 := ‹Fr b L' _ _›
      have N8 := ‹News b L' _ _›
      refine hU9 _ _ ?_
      refine TurnEnd.mk [(cdx, _)] F8 N8 (fun q hq => by rw [List.mem_singleton.mp hq]; exact hIc.symm) (exI2 (some (.ref px)) _ ⟨?_, rfl, ?_⟩)
      · exact ch_eq (by walk_at "m_ch") (by walk_at "m_ch") (by exact rfl) (by exact rfl)
      · rw [estep, ackStep, if_neg (by simp_all)]
        exact hoci
  · rintro m₁ S₁ h₁ tk₁ hJ9 F₁ N₁
    refine exE2 hJ9 ?_
    clear hJ9
    rintro u1 oci hJ9
    refine andE3 hJ9 ?_
    clear hJ9
    rintro rfl rfl hoci
    rw [List.take_of_length_le (Nat.le_refl _)] at hoci
    clear F5 N5 NL
    k_steps
    subst hqs
    refine hR ow5 os5 oci op10 kvs5 tvs c5 blk _ _ _ prs (by
      refine (((((led_of F₁ N₁ ?_).cons N₁ ?_).cons N₁ ?_).cons N₁ ?_).cons N₁ ?_).cons N₁ ?_
      · exact fun p hp => .tail _ (.tail _ (.tail _ (.tail _ (.tail _ (.tail _ hp)))))
      · exact (.tail _ (.tail _ (.tail _ (.tail _ (.tail _ (.head _))))))
      · exact (.tail _ (.tail _ (.tail _ (.tail _ (.head _)))))
      · exact (.head _)
      · exact (.tail _ (.tail _ (.tail _ (.head _))))
      · exact (.tail _ (.tail _ (.head _)))) hw5 hos5 hps5 hoci ?_ hpi5 hlost5 (fun p hp => ⟨(hoff5 p hp).1, (hoff5 p hp).2.1, (hoff5 p hp).2.2.1, (hoff5 p hp).2.2.2, oblk p hp⟩) rfl
    rw [show (told delay now ns W).la = some (maxO W.la (ns.getLastD 0)) from by unfold told look; dsimp only; split <;> rfl]
    exact hop10
end
section
abbrev Row := Int × Int × Bool
abbrev Lot := Int × List Int
def RowT (h : Heap) (v : Value) (r : Row) : Prop := ∃ t nt t1 t2 fl, v = .ref t ∧ h.get? t = some (tupO [.int r.1 t1, .int r.2.1 t2, .ref fl] nt) ∧ FramesAt h fl r.2.2
def LotT (h : Heap) (v : Value) (l : Lot) : Prop := ∃ t nt t1 nl nvs, v = .ref t ∧ h.get? t = some (tupO [.int l.1 t1, .ref nl] nt) ∧ h.IsList nl nvs.toArray ∧ IntsAre nvs l.2
def sendStep (i : Nat) (W : Wd) (r : Row) : Wd := if r.1 = i then { W with sent := W.sent ++ [⟨W.nx, 1125 * i, r.2.1, r.2.2⟩], nx := W.nx + 1, nr := if r.2.2 then { W.nr with inf := W.nr.inf + r.2.1 } else W.nr } else W
def toldStep (delay : Int) (i : Nat) (W : Wd) (l : Lot) : Wd := if l.1 = i then told delay (1125 * i) l.2 W else W
structure Rn where
  W : Wd
  nv : Bool
  seen : List (Int × Int)
def headStep (manner delay : Int) (i : Nat) (x : Rn) : Rn :=
  if manner = 0 then { x with W := look delay (1125 * i) x.W }
  else if manner = 1 ∧ (x.W.later.any fun t => decide (t ≤ 1125 * (i : Int))) = true then { x with W := look delay (1125 * i) x.W, nv := looks delay (1125 * i) x.W && x.nv }
  else x
def runStep (manner delay : Int) (rows : List Row) (lots : List Lot) (x : Rn) (i : Nat) : Rn :=
  let y := headStep manner delay i x
  let W := rows.foldl (sendStep i) (lots.foldl (toldStep delay i) y.W)
  ⟨W, y.nv, y.seen ++ [(W.nr.win, W.nr.inf)]⟩
def W0 : Wd := ⟨[], 0, none, { win := 1000, thr := none, rcv := none, inf := 0, cr := 0 }, none, []⟩
def runs (manner delay : Int) (rows : List Row) (lots : List Lot) (m : Nat) : Rn := (List.range m).foldl (runStep manner delay rows lots) ⟨W0, true, []⟩
def PktIn (P : Params) (blk : List (Addr × Obj)) (v : Value) (p : Pkt) : Prop := ∃ x dx o fl, v = .ref x ∧ (x, instObj 211 dx) ∈ blk ∧ (dx, o) ∈ blk ∧ PktD P o p fl
theorem PktIn.mono {P : Params} {blk blk' : List (Addr × Obj)} {v : Value} {p : Pkt} (x : PktIn P blk v p) (h : ∀ q ∈ blk, q ∈ blk') : PktIn P blk' v p := by
  obtain ⟨x, dx, o, fl, e, h1, h2, h3⟩ := x; exact ⟨x, dx, o, fl, e, h _ h1, h _ h2, h3⟩
theorem PktIn.at_ {P : Params} {blk : List (Addr × Obj)} {h : Heap} {v : Value} {p : Pkt} (x : PktIn P blk v p) (hm : ∀ q ∈ blk, h.get? q.1 = some q.2) : PktAt P h v p := by
  obtain ⟨x, dx, o, fl, e, h1, h2, h3⟩ := x; exact ⟨x, dx, o, fl, e, hm _ h1, hm _ h2, h3⟩
theorem PktsV.mono {V V' : Value → Pkt → Prop} {kvs : List (Int × Value)} {ps : List Pkt} (x : PktsV V kvs ps) (k : ∀ v p, V v p → V' v p) : PktsV V' kvs ps := Paired.mono (fun _ _ y => ⟨y.1, k _ _ y.2⟩) x
/-- the six objects that the run changes, one apart from the other -/
structure Six (wd sd cdx ll dxp sl : Addr) : Prop where
  a1 : wd ≠ sd
  a2 : wd ≠ cdx
  a3 : wd ≠ ll
  a4 : wd ≠ dxp
  a5 : wd ≠ sl
  b1 : sd ≠ cdx
  b2 : sd ≠ ll
  b3 : sd ≠ dxp
  b4 : sd ≠ sl
  c1 : cdx ≠ ll
  c2 : cdx ≠ dxp
  c3 : cdx ≠ sl
  d1 : ll ≠ dxp
  d2 : ll ≠ sl
  e1 : dxp ≠ sl
  lo : (sd == sysModules) = false
structure Wd.Ok (W : Wd) (n : Nat) : Prop where
  nx : W.nx = n
  asc : (W.sent.map (·.num)).Pairwise (· < ·)
  lt : ∀ p ∈ W.sent, p.num < W.nx
  sz : ∀ p ∈ W.sent, 0 ≤ p.size ∧ p.size ≤ 1000
  len : W.sent.length + W.lost.length ≤ n
  nr : ∃ k, W.nr.In k ∧ k + W.sent.length ≤ n
inductive RunInv (w : World) (pl ct wd sd cdx ll dxp sl : Addr) (delay : Int) (W : Wd) (seen : List (Int × Int)) : List (Addr × Obj) → Prop
  | mk (ow os oc op : Obj) (kvs : List (Int × Value)) (lvs svs : List Value) (c1 c2 : Nat) (blk : List (Addr × Obj)) (how : WorldD w ow pl ct ll sl W.later delay) (hos : os.IsDictOf (PySem.intKind PRG w) kvs) (hps : PktsV (PktIn w.params blk) kvs W.sent) (hoc : RenoIs w.params oc W.nr) (hop : SpaceD w.params op sd W.nx W.la)
      (hlv : PairsIn blk lvs W.lost) (hsv : PairsIn blk svs seen) (hoff : ∀ p ∈ blk, p.1 ≠ wd ∧ p.1 ≠ sd ∧ p.1 ≠ cdx ∧ p.1 ≠ ll ∧ p.1 ≠ dxp ∧ p.1 ≠ sl) : RunInv w pl ct wd sd cdx ll dxp sl delay W seen ((wd, ow) :: (sd, os) :: (cdx, oc) :: (ll, PySem.W.listOf (lvs : List Value).toArray c1) :: (dxp, op) :: (sl, PySem.W.listOf (svs : List Value).toArray c2) :: blk)
theorem look_nx (delay now : Int) (W : Wd) : (look delay now W).nx = W.nx := by unfold look; split <;> rfl
theorem look_la (delay now : Int) (W : Wd) : (look delay now W).la = W.la := by unfold look; split <;> rfl
theorem told_nx (delay now : Int) (ns : List Int) (W : Wd) : (told delay now ns W).nx = W.nx := by unfold told; exact look_nx _ _ _
section
variable {w : World} {A : Around} {E : Value → Shared → Prop} {s : Shared} {b : Heap} {L : Addr} {m : Str → Option Value} {mean mg mb} {pl ct wd sd cdx ll dxp sl : Addr} {delay now : Int} {tn : Tok} {W : Wd} {seen : List (Int × Int)} {S Z : List (Addr × Obj)} {n : Nat}
set_option maxHeartbeats 4000000 in
theorem look_run {Q : Value → Shared → Prop} (C : Cx w mean mg mb b) (hA : Rm A 9) (F : Fr b L s.heap m) (N : News b L s.heap (S ++ Z)) (D : ∀ p ∈ Z, ∀ q ∈ S, p.1 ≠ q.1) (H : RunInv w pl ct wd sd cdx ll dxp sl delay W seen S) (X6 : Six wd sd cdx ll dxp sl)
    (hpl : (pl, instObj 354 dxp) ∈ Z) (hct : (ct, instObj 155 cdx) ∈ Z) (hok : W.Ok n) (hn : n ≤ 60)
    (h : ∀ h' tk S', Fr b L h' m → News b L h' (S' ++ Z) → (∀ p ∈ Z, ∀ q ∈ S', p.1 ≠ q.1) → RunInv w pl ct wd sd cdx ll dxp sl delay (look delay now W) seen S' → Q (.bool (looks delay now W)) { s with heap := h', toks := tk }) :
    wpAny (model PRG w) A (call (.ref 370) [.ref wd, .int now tn]) Q E s := by
  obtain ⟨ow, os, oc, op, kvs, lvs, svs, c1, c2, blk, how, hos, hps, hoc, hop, hlv, hsv, hoff⟩ := H
  have NS : News b L s.heap ([(wd, ow), (sd, os), (cdx, oc), (ll, PySem.W.listOf lvs.toArray c1)] ++ ((dxp, op) :: (sl, PySem.W.listOf svs.toArray c2) :: (blk ++ Z))) := N
  obtain ⟨k, hk1, hk2⟩ := hok.nr
  have hlen := hok.len
  obtain ⟨g, hg, LD, st, hrest, back⟩ := shift _ _ F NS (disjC (dC X6.a4.symm (dC X6.a5.symm fun p hp => (List.mem_append.mp hp).elim (fun h => (hoff p h).1) (fun h => D p h _ (.head _))))
    (disjC (dC X6.b3.symm (dC X6.b4.symm fun p hp => (List.mem_append.mp hp).elim (fun h => (hoff p h).2.1) (fun h => D p h _ (.tail _ (.head _)))))
    (disjC (dC X6.c2.symm (dC X6.c3.symm fun p hp => (List.mem_append.mp hp).elim (fun h => (hoff p h).2.2.1) (fun h => D p h _ (.tail _ (.tail _ (.head _))))))
    (disjC (dC X6.d1.symm (dC X6.d2.symm fun p hp => (List.mem_append.mp hp).elim (fun h => (hoff p h).2.2.2.1) (fun h => D p h _ (.tail _ (.tail _ (.tail _ (.head _))))))) disjN))))
  refine wpAny_call (law_look_spec (W := W) (V := PktIn w.params blk) (C.keeps st) (hA.less (by omega)) LD hg (hrest _ (.tail _ (.tail _ (List.mem_append_right _ hpl)))) (hrest _ (.head _)) hop (hrest _ (.tail _ (.tail _ (List.mem_append_right _ hct)))) how hos hps
    (fun v p h => h.at_ fun q hq => hrest q (.tail _ (.tail _ (List.mem_append_left _ hq)))) hoc (hk1.ok (by omega)) X6.lo hok.asc (by omega) (by rw [hlv.length]; omega) hok.sz X6.a1 X6.a2 X6.a3 X6.b1 X6.b2 X6.c1 ?_)
  intro ow' os' oc' kvs' tvs c' blk' h' tk v prs LD' how' hos' hps' hoc' htv hl hoff' hv
  subst hv
  obtain ⟨F', N', off⟩ := back _ _ LD'
  have ml : ∀ q ∈ blk, q ∈ blk ++ blk' := fun q hq => List.mem_append_left _ hq
  have mr : ∀ q ∈ blk', q ∈ blk ++ blk' := fun q hq => List.mem_append_right _ hq
  have oZ : ∀ p ∈ Z, ∀ q ∈ (wd, ow') :: (sd, os') :: (cdx, oc') :: (ll, PySem.W.listOf (lvs ++ tvs).toArray c') :: blk', p.1 ≠ q.1 := fun p hp q hq => off p (.tail _ (.tail _ (List.mem_append_right _ hp))) q hq
  refine h h' tk ((wd, ow') :: (sd, os') :: (cdx, oc') :: (ll, PySem.W.listOf (lvs ++ tvs).toArray c') :: (dxp, op) :: (sl, PySem.W.listOf svs.toArray c2) :: (blk ++ blk')) F' (news_sub N' fun p hp => ?_) (fun p hp q hq => ?_)
    ⟨ow', os', oc', op, kvs', lvs ++ tvs, svs, c', c2, blk ++ blk', how', hos', hps'.mono fun v p x => x.mono ml, hoc', by rw [look_nx, look_la]; exact hop, ?_, hsv.mono ml, fun p hp => ?_⟩
  · simp only [List.cons_append, List.mem_cons, List.mem_append] at hp ⊢
    rcases hp with h | h | h | h | h | h | (h | h) | h <;> simp [h]
  · simp only [List.mem_cons, List.mem_append] at hq
    rcases hq with h | h | h | h | h | h | h | h
    · exact oZ p hp q (by simp [h])
    · exact oZ p hp q (by simp [h])
    · exact oZ p hp q (by simp [h])
    · exact oZ p hp q (by simp [h])
    · subst h; exact D p hp _ (.tail _ (.tail _ (.tail _ (.tail _ (.head _)))))
    · subst h; exact D p hp _ (.tail _ (.tail _ (.tail _ (.tail _ (.tail _ (.head _))))))
    · exact D p hp q (by simp [h])
    · exact oZ p hp q (by simp [h])
  · rw [hl]
    exact Paired.append (hlv.mono ml) (htv.mono mr)
  · rcases List.mem_append.mp hp with hp | hp
    · exact hoff p hp
    · obtain ⟨x1, x2, x3, x4⟩ := hoff' p hp
      exact ⟨x1, x2, x3, x4, fun e => off _ (.head _) p (by simp [hp]) e.symm, fun e => off _ (.tail _ (.head _)) p (by simp [hp]) e.symm⟩
set_option maxHeartbeats 4000000 in
theorem told_run {Q : Value → Shared → Prop} {nl : Addr} {nvs : List Value} {ns : List Int} (C : Cx w mean mg mb b) (hA : Rm A 10) (F : Fr b L s.heap m) (N : News b L s.heap (S ++ Z)) (D : ∀ p ∈ Z, ∀ q ∈ S, p.1 ≠ q.1) (H : RunInv w pl ct wd sd cdx ll dxp sl delay W seen S) (X6 : Six wd sd cdx ll dxp sl)
    (hpl : (pl, instObj 354 dxp) ∈ Z) (hct : (ct, instObj 155 cdx) ∈ Z) (hok : W.Ok n) (hn : n ≤ 60) (hnl : b.IsList nl nvs.toArray) (hns : IntsAre nvs ns) (hn0 : ns ≠ []) (hn64 : ns.length < 64)
    (h : ∀ h' tk S', Fr b L h' m → News b L h' (S' ++ Z) → (∀ p ∈ Z, ∀ q ∈ S', p.1 ≠ q.1) → RunInv w pl ct wd sd cdx ll dxp sl delay (told delay now ns W) seen S' → Q .none { s with heap := h', toks := tk }) :
    wpAny (model PRG w) A (call (.ref 375) [.ref wd, .ref nl, .int now tn]) Q E s := by
  obtain ⟨ow, os, oc, op, kvs, lvs, svs, c1, c2, blk, how, hos, hps, hoc, hop, hlv, hsv, hoff⟩ := H
  have NS : News b L s.heap ([(wd, ow), (sd, os), (cdx, oc), (ll, PySem.W.listOf lvs.toArray c1), (dxp, op)] ++ ((sl, PySem.W.listOf svs.toArray c2) :: (blk ++ Z))) := N
  obtain ⟨k, hk1, hk2⟩ := hok.nr
  have hlen := hok.len
  obtain ⟨g, hg, LD, st, hrest, back⟩ := shift _ _ F NS (disjC (dC X6.a5.symm fun p hp => (List.mem_append.mp hp).elim (fun h => (hoff p h).1) (fun h => D p h _ (.head _)))
    (disjC (dC X6.b4.symm fun p hp => (List.mem_append.mp hp).elim (fun h => (hoff p h).2.1) (fun h => D p h _ (.tail _ (.head _))))
    (disjC (dC X6.c3.symm fun p hp => (List.mem_append.mp hp).elim (fun h => (hoff p h).2.2.1) (fun h => D p h _ (.tail _ (.tail _ (.head _)))))
    (disjC (dC X6.d2.symm fun p hp => (List.mem_append.mp hp).elim (fun h => (hoff p h).2.2.2.1) (fun h => D p h _ (.tail _ (.tail _ (.tail _ (.head _))))))
    (disjC (dC X6.e1.symm fun p hp => (List.mem_append.mp hp).elim (fun h => (hoff p h).2.2.2.2.1) (fun h => D p h _ (.tail _ (.tail _ (.tail _ (.tail _ (.head _))))))) disjN)))))
  refine wpAny_call (law_told_spec (W := W) (V := PktIn w.params blk) (k := k) (C.keeps st) (hA.less (by omega)) LD hg (hrest _ (.tail _ (List.mem_append_right _ hpl))) hop (hrest _ (.tail _ (List.mem_append_right _ hct))) (hnl.at fun o e => st _ _ e) hns hn0 hn64 how hos hps
    (fun v p h => h.at_ fun q hq => hrest q (.tail _ (List.mem_append_left _ hq))) hoc hk1 (by omega) X6.lo hok.asc (by omega) (by rw [hlv.length]; omega) hok.sz X6.a1 X6.a2 X6.a3 X6.b1 X6.b2 X6.c1 X6.a4 X6.b3 X6.c2 X6.d1 ?_)
  intro ow' os' oc' op' kvs' tvs c' blk' h' tk v prs LD' how' hos' hps' hoc' hop' htv hl hoff' hv
  subst hv
  obtain ⟨F', N', off⟩ := back _ _ LD'
  have ml : ∀ q ∈ blk, q ∈ blk ++ blk' := fun q hq => List.mem_append_left _ hq
  have mr : ∀ q ∈ blk', q ∈ blk ++ blk' := fun q hq => List.mem_append_right _ hq
  have oZ : ∀ p ∈ Z, ∀ q ∈ (wd, ow') :: (sd, os') :: (cdx, oc') :: (ll, PySem.W.listOf (lvs ++ tvs).toArray c') :: (dxp, op') :: blk', p.1 ≠ q.1 := fun p hp q hq => off p (.tail _ (List.mem_append_right _ hp)) q hq
  refine h h' tk ((wd, ow') :: (sd, os') :: (cdx, oc') :: (ll, PySem.W.listOf (lvs ++ tvs).toArray c') :: (dxp, op') :: (sl, PySem.W.listOf svs.toArray c2) :: (blk ++ blk')) F' (news_sub N' fun p hp => ?_) (fun p hp q hq => ?_)
    ⟨ow', os', oc', op', kvs', lvs ++ tvs, svs, c', c2, blk ++ blk', how', hos', hps'.mono fun v p x => x.mono ml, hoc', by rw [told_nx]; exact hop', ?_, hsv.mono ml, fun p hp => ?_⟩
  · simp only [List.cons_append, List.mem_cons, List.mem_append] at hp ⊢
    rcases hp with h | h | h | h | h | h | (h | h) | h <;> simp [h]
  · simp only [List.mem_cons, List.mem_append] at hq
    rcases hq with h | h | h | h | h | h | h | h
    · exact oZ p hp q (by simp [h])
    · exact oZ p hp q (by simp [h])
    · exact oZ p hp q (by simp [h])
    · exact oZ p hp q (by simp [h])
    · exact oZ p hp q (by simp [h])
    · subst h; exact D p hp _ (.tail _ (.tail _ (.tail _ (.tail _ (.tail _ (.head _))))))
    · exact D p hp q (by simp [h])
    · exact oZ p hp q (by simp [h])
  · rw [hl]
    exact Paired.append (hlv.mono ml) (htv.mono mr)
  · rcases List.mem_append.mp hp with hp | hp
    · exact hoff p hp
    · obtain ⟨x1, x2, x3, x4, x5⟩ := hoff' p hp
      exact ⟨x1, x2, x3, x4, x5, fun e => off _ (.head _) p (by simp [hp]) e.symm⟩
end
theorem filter_two {α : Type} (l : List α) (f : α → Bool) : (l.filter f).length + (l.filter fun x => !f x).length = l.length := by
  induction l with
  | nil => rfl
  | cons a l ih =>
    rw [List.filter_cons, List.filter_cons]
    cases f a with
    | true => simp only [if_true, Bool.not_true, Bool.false_eq_true, if_false, List.length_cons]; omega
    | false => simp only [Bool.false_eq_true, if_false, Bool.not_false, if_true, List.length_cons]; omega
theorem look_ok {delay now : Int} {W : Wd} {n : Nat} (h : W.Ok n) : (look delay now W).Ok n := by
  obtain ⟨k, hk1, hk2⟩ := h.nr
  by_cases e : lookLost delay now W = []
  · rw [look_idle e]
    exact ⟨h.nx, h.asc, h.lt, h.sz, h.len, ⟨k, hk1, hk2⟩⟩
  · have e2 := lost_sub (delay := delay) (now := now) (asc_nodup h.asc)
    have e3 := filter_two W.sent fun p => (lookLost delay now W).contains p.num
    have e4 : (lookLost delay now W).length = (W.sent.filter fun p => (lookLost delay now W).contains p.num).length := by
      have := congrArg List.length e2
      rwa [List.length_map] at this
    have hlen := h.len
    rw [look_finds e]
    refine ⟨h.nx, h.asc.sublist (List.filter_sublist.map _), fun p hp => h.lt p (List.mem_filter.mp hp).1, fun p hp => h.sz p (List.mem_filter.mp hp).1, ?_, ⟨k, hk1.lost _ _ _, ?_⟩⟩
    · show (W.sent.filter fun p => !(lookLost delay now W).contains p.num).length + (W.lost ++ (lookLost delay now W).map fun n => (n, now)).length ≤ n
      rw [List.length_append, List.length_map]
      omega
    · show k + (W.sent.filter fun p => !(lookLost delay now W).contains p.num).length ≤ n
      omega
theorem look_len (delay now : Int) (W : Wd) : (look delay now W).sent.length ≤ W.sent.length := by
  unfold look
  split
  · exact Nat.le_refl _
  · exact List.length_filter_le _ _
theorem told_ok {delay now : Int} {ns : List Int} {W : Wd} {n : Nat} (h : W.Ok n) : (told delay now ns W).Ok n := by
  obtain ⟨k, hk1, hk2⟩ := h.nr
  have hlen := h.len
  have e3 := filter_two W.sent fun p => ns.contains p.num
  generalize hW1 : ({ W with sent := W.sent.filter (fun p => !ns.contains p.num), la := some (maxO W.la (ns.getLastD 0)) } : Wd) = W1
  have e5 : W1.sent = W.sent.filter (fun p => !ns.contains p.num) := by rw [← hW1]
  have h1 : W1.Ok n := by
    rw [← hW1]
    refine ⟨h.nx, h.asc.sublist (List.filter_sublist.map _), fun p hp => h.lt p (List.mem_filter.mp hp).1, fun p hp => h.sz p (List.mem_filter.mp hp).1, ?_, ⟨k, hk1, ?_⟩⟩
    · show (W.sent.filter fun p => !ns.contains p.num).length + W.lost.length ≤ n
      omega
    · show k + (W.sent.filter fun p => !ns.contains p.num).length ≤ n
      omega
  have h2 : (look delay now W1).Ok n := look_ok h1
  have h3 := look_len delay now W1
  rw [e5] at h3
  have h4 : (look delay now W1).nr.In k := look_nr (by rw [← hW1]; exact hk1)
  have e : told delay now ns W = { look delay now W1 with nr := (W.sent.filter fun p => ns.contains p.num).foldl ackStep (look delay now W1).nr } := by
    rw [← hW1]; rfl
  rw [e]
  exact ⟨h2.nx, h2.asc, h2.lt, h2.sz, h2.len, ⟨_, ack_in h4 fun q hq => h.sz q (List.mem_filter.mp hq).1, by
    show k + (W.sent.filter fun p => ns.contains p.num).length + (look delay now W1).sent.length ≤ n
    omega⟩⟩
theorem send_ok {i : Nat} {W : Wd} {n : Nat} {r : Row} (h : W.Ok n) (h0 : 0 ≤ r.2.1) (h1 : r.2.1 ≤ 1000) (e : r.1 = i) : (sendStep i W r).Ok (n + 1) := by
  obtain ⟨k, hk1, hk2⟩ := h.nr
  have hlen := h.len
  have hnx := h.nx
  unfold sendStep
  rw [if_pos e]
  refine ⟨?_, ?_, ?_, ?_, ?_, ⟨k, ?_, ?_⟩⟩
  · show W.nx + 1 = _
    omega
  · show ((W.sent ++ [_]).map _).Pairwise _
    rw [List.map_append, List.pairwise_append]
    refine ⟨h.asc, List.pairwise_singleton _ _, fun a ha c hc => ?_⟩
    obtain ⟨p, hp, rfl⟩ := List.mem_map.mp ha
    rw [List.map_cons, List.map_nil, List.mem_singleton] at hc
    subst hc
    exact h.lt p hp
  · intro p hp
    show p.num < W.nx + 1
    rcases List.mem_append.mp hp with hp | hp
    · have := h.lt p hp; omega
    · rw [List.mem_singleton.mp hp]; show W.nx < W.nx + 1; omega
  · intro p hp
    rcases List.mem_append.mp hp with hp | hp
    · exact h.sz p hp
    · rw [List.mem_singleton.mp hp]; exact ⟨h0, h1⟩
  · show (W.sent ++ [_]).length + W.lost.length ≤ _
    rw [List.length_append, List.length_singleton]
    omega
  · show NR.In (if r.2.2 = true then _ else _) k
    split
    · exact hk1.inf _
    · exact hk1
  · show k + (W.sent ++ [_]).length ≤ _
    rw [List.length_append, List.length_singleton]
    omega
end
section
theorem runs_succ (manner delay : Int) (rows : List Row) (lots : List Lot) (i : Nat) : runs manner delay rows lots (i + 1) = runStep manner delay rows lots (runs manner delay rows lots i) i := by
  unfold runs
  rw [List.range_succ, List.foldl_append]
  rfl
theorem send_all {i : Nat} : ∀ {rows : List Row} {W : Wd} {n : Nat}, W.Ok n → (∀ r ∈ rows, 0 ≤ r.2.1 ∧ r.2.1 ≤ 1000) → (rows.foldl (sendStep i) W).Ok (n + (rows.filter fun r => decide (r.1 = (i : Int))).length)
  | [], _, _, h, _ => h
  | r :: rows, W, n, h, hs => by
    rw [List.foldl_cons, List.filter_cons]
    by_cases e : r.1 = i
    · rw [if_pos (by simpa using e), List.length_cons, show n + ((rows.filter fun r => decide (r.1 = (i : Int))).length + 1) = (n + 1) + (rows.filter fun r => decide (r.1 = (i : Int))).length by omega]
      exact send_all (send_ok h (hs r (.head _)).1 (hs r (.head _)).2 e) fun q hq => hs q (.tail _ hq)
    · rw [if_neg (by simpa using e)]
      have e2 : sendStep i W r = W := by unfold sendStep; rw [if_neg e]
      rw [e2]
      exact send_all h fun q hq => hs q (.tail _ hq)
theorem told_all {delay : Int} {i : Nat} : ∀ {lots : List Lot} {W : Wd} {n : Nat}, W.Ok n → (lots.foldl (toldStep delay i) W).Ok n
  | [], _, _, h => h
  | l :: lots, W, n, h => by
    rw [List.foldl_cons]
    refine told_all ?_
    unfold toldStep
    split
    · exact told_ok h
    · exact h
theorem head_ok {manner delay : Int} {i : Nat} {x : Rn} {n : Nat} (h : x.W.Ok n) : (headStep manner delay i x).W.Ok n := by
  unfold headStep
  split
  · exact look_ok h
  · split
    · exact look_ok h
    · exact h
def cntLt (rows : List Row) (i : Nat) : Nat := (rows.filter fun r => decide (r.1 < (i : Int))).length
theorem cnt_succ (i : Nat) : ∀ (rows : List Row), cntLt rows (i + 1) = cntLt rows i + (rows.filter fun r => decide (r.1 = (i : Int))).length
  | [] => rfl
  | r :: rows => by
    have ih := cnt_succ i rows
    unfold cntLt at ih ⊢
    rw [List.filter_cons, List.filter_cons, List.filter_cons]
    by_cases e : r.1 < (i : Int)
    · rw [if_pos (by simp; omega), if_pos (by simpa using e), if_neg (by simp; omega), List.length_cons, List.length_cons]; omega
    · by_cases e2 : r.1 = i
      · rw [if_pos (by simp; omega), if_neg (by simpa using e), if_pos (by simpa using e2), List.length_cons, List.length_cons]; omega
      · rw [if_neg (by simp; omega), if_neg (by simpa using e), if_neg (by simpa using e2)]; omega
theorem cnt_le (rows : List Row) (i : Nat) : cntLt rows i ≤ rows.length := List.length_filter_le _ _
theorem ok0 : W0.Ok 0 where
  nx := rfl
  asc := .nil
  lt := fun _ h => nomatch h
  sz := fun _ h => nomatch h
  len := Nat.le_refl _
  nr := ⟨0, ⟨by decide, by decide, by decide, by decide⟩, Nat.le_refl _⟩
theorem run_ok {manner delay : Int} {rows : List Row} {lots : List Lot} (hs : ∀ r ∈ rows, 0 ≤ r.2.1 ∧ r.2.1 ≤ 1000) (hp : ∀ r ∈ rows, 0 ≤ r.1) : ∀ i, (runs manner delay rows lots i).W.Ok (cntLt rows i)
  | 0 => by
    have : cntLt rows 0 = 0 := by
      unfold cntLt
      rw [List.length_eq_zero_iff, List.filter_eq_nil_iff]
      intro r hr
      have := hp r hr
      simp; omega
    rw [this]
    exact ok0
  | i + 1 => by
    rw [runs_succ, cnt_succ]
    exact send_all (told_all (head_ok (run_ok hs hp i))) hs
end
section
/-! ## what a look finds, as a filter -/
def gone (la : Option Int) (now delay : Int) (p : Pkt) : Bool := match la with
  | none => false
  | some lg => !decide (p.num > lg) && isLost lg now delay p
theorem detect_gone (la : Option Int) (now delay : Int) (ps : List Pkt) : (detect la now delay ps).1 = (ps.filter (gone la now delay)).map (·.num) := by
  unfold detect
  cases la with
  | none => simp [gone]
  | some lg => rw [foldl_lost, List.nil_append]; rfl
theorem lookLost_gone (delay now : Int) (W : Wd) : lookLost delay now W = (W.sent.filter (gone W.la now delay)).map (·.num) := detect_gone _ _ _ _
theorem num_inj {ps : List Pkt} (hn : (ps.map (·.num)).Nodup) {p q : Pkt} (hp : p ∈ ps) (hq : q ∈ ps) (e : p.num = q.num) : p = q := by
  obtain ⟨i, hi, rfl⟩ := List.mem_iff_getElem.mp hp
  obtain ⟨j, hj, rfl⟩ := List.mem_iff_getElem.mp hq
  have := (List.getElem_inj hn (i := i) (j := j) (h₀ := by rw [List.length_map]; exact hi) (h₁ := by rw [List.length_map]; exact hj)).mp (by simpa using e)
  subst this; rfl
theorem contains_lost {delay now : Int} {W : Wd} (hn : (W.sent.map (·.num)).Nodup) {p : Pkt} (hp : p ∈ W.sent) : (lookLost delay now W).contains p.num = gone W.la now delay p := by
  rw [lookLost_gone, Bool.eq_iff_iff, List.contains_iff_mem]
  constructor
  · intro h
    obtain ⟨q, hq, e⟩ := List.mem_map.mp h
    obtain ⟨hq1, hq2⟩ := List.mem_filter.mp hq
    rw [← num_inj hn hq1 hp e]; exact hq2
  · intro h
    exact List.mem_map.mpr ⟨p, List.mem_filter.mpr ⟨hp, h⟩, rfl⟩
theorem look_sent {delay now : Int} {W : Wd} (hn : (W.sent.map (·.num)).Nodup) : (look delay now W).sent = W.sent.filter fun p => !gone W.la now delay p := by
  have e : (W.sent.filter fun p => !(lookLost delay now W).contains p.num) = W.sent.filter fun p => !gone W.la now delay p :=
    List.filter_congr fun p hp => by rw [contains_lost hn hp]
  by_cases h : lookLost delay now W = []
  · rw [look_idle h, ← e]
    exact (List.filter_eq_self.mpr fun p _ => by rw [h]; rfl).symm
  · rw [look_finds h, ← e]
theorem look_lost (delay now : Int) (W : Wd) : (look delay now W).lost = W.lost ++ (W.sent.filter (gone W.la now delay)).map fun p => (p.num, now) := by
  by_cases h : lookLost delay now W = []
  · rw [look_idle h]
    rw [lookLost_gone, List.map_eq_nil_iff] at h
    rw [h]; simp
  · rw [look_finds h]
    show W.lost ++ _ = _
    rw [lookLost_gone, List.map_map]; rfl
theorem look_later (delay now : Int) (W : Wd) : (look delay now W).later = (detect W.la now delay W.sent).2 := by
  unfold look; split <;> rfl
/-! ## detect's second part -/
theorem fold_snd_congr {lg delay now : Int} : ∀ {ps : List Pkt} {acc acc' : List Int × Option Int}, acc.2 = acc'.2 → (ps.foldl (lostStep lg now delay) acc).2 = ((ps.filter fun p => !gone (some lg) now delay p).foldl (lostStep lg now delay) acc').2
  | [], _, _, h => h
  | p :: ps, acc, acc', h => by
    rw [List.foldl_cons, List.filter_cons]
    cases g : gone (some lg) now delay p with
    | true =>
      simp only [Bool.not_true, Bool.false_eq_true, if_false]
      refine fold_snd_congr ?_
      unfold gone at g
      simp only [Bool.and_eq_true, Bool.not_eq_true', decide_eq_false_iff_not] at g
      unfold lostStep
      rw [if_neg g.1, if_pos g.2]
      exact h
    | false =>
      simp only [Bool.not_false, if_true, List.foldl_cons]
      refine fold_snd_congr ?_
      unfold lostStep
      by_cases h1 : p.num > lg
      · rw [if_pos h1, if_pos h1]; exact h
      · rw [if_neg h1, if_neg h1]
        cases isLost lg now delay p with
        | true => exact h
        | false =>
          simp only [Bool.false_eq_true, if_false]
          rw [h]
def Settled (delay now : Int) (W : Wd) : Prop := detect W.la now delay W.sent = ([], W.later)
theorem look_settled {delay now : Int} {W : Wd} (hn : (W.sent.map (·.num)).Nodup) : Settled delay now (look delay now W) := by
  unfold Settled
  rw [look_la, look_sent hn, look_later]
  refine Prod.ext ?_ ?_
  · rw [detect_gone, List.filter_filter]
    have : (W.sent.filter fun p => gone W.la now delay p && !gone W.la now delay p) = [] := by
      rw [List.filter_eq_nil_iff]; intro p _; cases gone W.la now delay p <;> simp
    rw [this]; rfl
  · unfold detect
    cases W.la with
    | none => rfl
    | some lg => exact (fold_snd_congr rfl).symm
theorem told_eq (delay now : Int) (ns : List Int) (W : Wd) : ∃ nr, told delay now ns W = { look delay now { W with sent := W.sent.filter (fun p => !ns.contains p.num), la := some (maxO W.la (ns.getLastD 0)) } with nr := nr } := ⟨_, rfl⟩
theorem filter_nodup {ps : List Pkt} {f : Pkt → Bool} (hn : (ps.map (·.num)).Nodup) : ((ps.filter f).map (·.num)).Nodup := hn.sublist (List.filter_sublist.map _)
theorem told_settled {delay now : Int} {ns : List Int} {W : Wd} (hn : (W.sent.map (·.num)).Nodup) : Settled delay now (told delay now ns W) := by
  have h := look_settled (delay := delay) (now := now) (W := { W with sent := W.sent.filter (fun p => !ns.contains p.num), la := some (maxO W.la (ns.getLastD 0)) }) (filter_nodup hn)
  exact h
/-! ## min of due times -/
theorem fold_due {lg delay now : Int} : ∀ (ps : List Pkt) (acc : List Int × Option Int), (∀ p ∈ ps, gone (some lg) now delay p = false) →
    (∀ t, (ps.foldl (lostStep lg now delay) acc).2 = some t → (acc.2 = some t ∨ ∃ p ∈ ps, p.num ≤ lg ∧ p.time + delay = t)) ∧
    (∀ t, acc.2 = some t → ∃ t', (ps.foldl (lostStep lg now delay) acc).2 = some t' ∧ t' ≤ t) ∧
    (∀ p ∈ ps, p.num ≤ lg → ∃ t', (ps.foldl (lostStep lg now delay) acc).2 = some t' ∧ t' ≤ p.time + delay)
  | [], acc, _ => ⟨fun t h => .inl h, fun t h => ⟨t, h, Int.le_refl _⟩, fun _ h => nomatch h⟩
  | p :: ps, acc, hg => by
    rw [List.foldl_cons]
    obtain ⟨i1, i2, i3⟩ := fold_due (lg := lg) (delay := delay) (now := now) ps (lostStep lg now delay acc p) fun q hq => hg q (.tail _ hq)
    have g := hg p (.head _)
    unfold gone at g
    have es : (p.num > lg ∧ lostStep lg now delay acc p = acc) ∨ (p.num ≤ lg ∧ ((acc.2 = none ∧ (lostStep lg now delay acc p).2 = some (p.time + delay)) ∨ (∃ t, acc.2 = some t ∧ (lostStep lg now delay acc p).2 = some (min t (p.time + delay))))) := by
      by_cases h1 : p.num > lg
      · exact .inl ⟨h1, by unfold lostStep; rw [if_pos h1]⟩
      · refine .inr ⟨by omega, ?_⟩
        have g2 : isLost lg now delay p = false := by simpa [h1] using g
        unfold lostStep
        rw [if_neg h1, g2]
        simp only [Bool.false_eq_true, if_false]
        cases h : acc.2 with
        | none => exact .inl ⟨rfl, rfl⟩
        | some t =>
          refine .inr ⟨t, rfl, ?_⟩
          dsimp only
          split
          · congr 1; omega
          · congr 1; omega
    refine ⟨fun t h => ?_, fun t h => ?_, fun q hq hle => ?_⟩
    · rcases i1 t h with h | ⟨q, hq, h⟩
      · rcases es with ⟨_, e⟩ | ⟨hle, ⟨e1, e2⟩ | ⟨t0, e1, e2⟩⟩
        · rw [e] at h; exact .inl h
        · rw [e2] at h; cases h; exact .inr ⟨p, .head _, hle, rfl⟩
        · rw [e2] at h
          have h' := Option.some.inj h
          by_cases hh : t0 ≤ p.time + delay
          · left; rw [e1]; congr 1; omega
          · right; exact ⟨p, .head _, hle, by omega⟩
      · exact .inr ⟨q, .tail _ hq, h⟩
    · rcases es with ⟨_, e⟩ | ⟨_, ⟨e1, e2⟩ | ⟨t0, e1, e2⟩⟩
      · exact i2 t (by rw [e]; exact h)
      · rw [e1] at h; cases h
      · rw [e1] at h; cases h
        obtain ⟨t', h1, h2⟩ := i2 _ e2
        exact ⟨t', h1, by omega⟩
    · rcases List.mem_cons.mp hq with rfl | hq
      · rcases es with ⟨hgt, _⟩ | ⟨_, ⟨e1, e2⟩ | ⟨t0, e1, e2⟩⟩
        · omega
        · exact i2 _ e2
        · obtain ⟨t', h1, h2⟩ := i2 _ e2
          exact ⟨t', h1, by omega⟩
      · exact i3 q hq hle
theorem fold_now {lg delay now now' : Int} : ∀ {ps : List Pkt} {acc : List Int × Option Int}, (∀ p ∈ ps, p.num ≤ lg → isLost lg now delay p = isLost lg now' delay p) → ps.foldl (lostStep lg now delay) acc = ps.foldl (lostStep lg now' delay) acc
  | [], _, _ => rfl
  | p :: ps, acc, h => by
    rw [List.foldl_cons, List.foldl_cons]
    have e : lostStep lg now delay acc p = lostStep lg now' delay acc p := by
      unfold lostStep
      by_cases h1 : p.num > lg
      · rw [if_pos h1, if_pos h1]
      · rw [if_neg h1, if_neg h1, h p (.head _) (by omega)]
    rw [e]
    exact fold_now fun q hq => h q (.tail _ hq)
theorem settled_gone {delay now : Int} {W : Wd} (h : Settled delay now W) : ∀ p ∈ W.sent, gone W.la now delay p = false := by
  have e : (W.sent.filter (gone W.la now delay)).map (·.num) = [] := by
    rw [← detect_gone, show detect W.la now delay W.sent = ([], W.later) from h]
  rw [List.map_eq_nil_iff, List.filter_eq_nil_iff] at e
  intro p hp
  simpa using e p hp
/-- nothing due: a look changes nothing -/
theorem settled_idle {delay now now' : Int} {W : Wd} (h : Settled delay now W) (hle : now ≤ now') (hd : (W.later.any fun t => decide (t ≤ now')) = false) : Settled delay now' W ∧ look delay now' W = W := by
  have hs : Settled delay now' W := by
    have hg := settled_gone h
    unfold Settled at h ⊢
    revert h hg
    unfold detect
    cases W.la with
    | none => intro h _; exact h
    | some lg =>
      intro h hg
      dsimp only at h ⊢
      rw [← h]
      refine (fold_now fun p hp hple => ?_).symm
      have g := hg p hp
      obtain ⟨_, _, i3⟩ := fold_due (lg := lg) (delay := delay) (now := now) W.sent ([], none) hg
      obtain ⟨t', e1, e2⟩ := i3 p hp hple
      rw [h] at e1
      dsimp only at e1
      rw [e1] at hd
      simp only [Option.any_some, decide_eq_false_iff_not] at hd
      unfold gone at g
      have h1 : ¬ p.num > lg := by omega
      simp only [h1, decide_false, Bool.not_false, Bool.true_and] at g
      rw [g]
      unfold isLost at g ⊢
      simp only [decide_eq_false_iff_not] at g
      symm
      simp only [decide_eq_false_iff_not]
      omega
  refine ⟨hs, ?_⟩
  have e : lookLost delay now' W = [] := by unfold lookLost; rw [show detect W.la now' delay W.sent = ([], W.later) from hs]
  rw [look_idle e, show detect W.la now' delay W.sent = ([], W.later) from hs]
/-- something due: a look finds -/
theorem settled_due {delay now now' : Int} {W : Wd} (h : Settled delay now W) (hd : (W.later.any fun t => decide (t ≤ now')) = true) : looks delay now' W = true := by
  have hg := settled_gone h
  unfold looks
  cases hl : W.later with
  | none => rw [hl] at hd; simp at hd
  | some t =>
    rw [hl] at hd
    simp only [Option.any_some, decide_eq_true_eq] at hd
    unfold Settled at h
    rw [hl] at h
    have e : lookLost delay now' W ≠ [] := by
      rw [lookLost_gone]
      cases hla : W.la with
      | none => rw [hla] at h; unfold detect at h; cases h
      | some lg =>
        rw [hla] at h hg
        unfold detect at h
        dsimp only at h
        obtain ⟨i1, _, _⟩ := fold_due (lg := lg) (delay := delay) (now := now) W.sent ([], none) hg
        rcases i1 t (by rw [h]) with q | ⟨p, hp, hle, ht⟩
        · cases q
        · intro q
          rw [List.map_eq_nil_iff, List.filter_eq_nil_iff] at q
          refine q p hp ?_
          unfold gone isLost
          simp only [Bool.and_eq_true, Bool.not_eq_true', decide_eq_false_iff_not, decide_eq_true_eq]
          exact ⟨by omega, .inr (by omega)⟩
    cases hh : lookLost delay now' W with
    | nil => exact absurd hh e
    | cons _ _ => rfl
def LaLt (W : Wd) : Prop := ∀ lg, W.la = some lg → lg < W.nx
theorem send_settled {delay now : Int} {i : Nat} {W : Wd} {r : Row} (h : Settled delay now W) (hl : LaLt W) : Settled delay now (sendStep i W r) := by
  unfold sendStep
  split
  · unfold Settled at h ⊢
    dsimp only
    revert h
    unfold detect
    cases hla : W.la with
    | none => exact id
    | some lg =>
      intro h
      dsimp only at h ⊢
      rw [List.foldl_append, h]
      have := hl lg hla
      show lostStep _ _ _ _ _ = _
      unfold lostStep
      rw [if_pos (by show W.nx > lg; omega)]
  · exact h
/-! ## runs 0 and 1 -/
structure Base0 (rows : List Row) (lots : List Lot) : Prop where
  sz : ∀ r ∈ rows, 0 ≤ r.2.1 ∧ r.2.1 ≤ 1000
  at0 : ∀ r ∈ rows, 0 ≤ r.1
  ne : ∀ l ∈ lots, l.2 ≠ []
  lt : ∀ l ∈ lots, ∀ i : Nat, l.1 = (i : Int) → ∀ n ∈ l.2, n < (cntLt rows i : Int)
theorem look_lalt {delay now : Int} {W : Wd} (h : LaLt W) : LaLt (look delay now W) := by
  unfold LaLt; rw [look_la, look_nx]; exact h
theorem told_la (delay now : Int) (ns : List Int) (W : Wd) : (told delay now ns W).la = some (maxO W.la (ns.getLastD 0)) := by
  unfold told; dsimp only; rw [look_la]
theorem getLastD_mem {ns : List Int} (h : ns ≠ []) : ns.getLastD 0 ∈ ns := by
  rw [List.getLastD_eq_getLast?, List.getLast?_eq_some_getLast h]; exact List.getLast_mem h
theorem told_lalt {delay now : Int} {ns : List Int} {W : Wd} (h : LaLt W) (hn : ns ≠ []) (hlt : ∀ n ∈ ns, n < W.nx) : LaLt (told delay now ns W) := by
  intro lg e
  rw [told_la] at e
  rw [told_nx]
  have h1 := hlt _ (getLastD_mem hn)
  cases e
  unfold maxO
  cases hla : W.la with
  | none => exact h1
  | some l => have := h l hla; dsimp only; omega
theorem send_lalt {i : Nat} {W : Wd} {r : Row} (h : LaLt W) : LaLt (sendStep i W r) := by
  unfold sendStep
  split
  · intro lg e; have := h lg e; show lg < W.nx + 1; omega
  · exact h
/-- what stays through a moment's tellings -/
theorem told_all_keep {delay : Int} {i : Nat} {I : Wd → Prop} : ∀ {lots : List Lot} {W : Wd}, I W → (∀ l ∈ lots, ∀ W, I W → l.1 = (i : Int) → I (told delay (1125 * i) l.2 W)) → I (lots.foldl (toldStep delay i) W)
  | [], _, h, _ => h
  | l :: lots, W, h, hs => by
    rw [List.foldl_cons]
    refine told_all_keep ?_ fun l' hl' => hs l' (.tail _ hl')
    unfold toldStep
    split
    · exact hs l (.head _) W h (by assumption)
    · exact h
theorem send_all_keep {i : Nat} {I : Wd → Prop} : ∀ {rows : List Row} {W : Wd}, I W → (∀ r ∈ rows, ∀ W, I W → r.1 = (i : Int) → I (sendStep i W r)) → I (rows.foldl (sendStep i) W)
  | [], _, h, _ => h
  | r :: rows, W, h, hs => by
    rw [List.foldl_cons]
    refine send_all_keep ?_ fun r' hr' => hs r' (.tail _ hr')
    by_cases e : r.1 = (i : Int)
    · exact hs r (.head _) W h e
    · have : sendStep i W r = W := by unfold sendStep; rw [if_neg e]
      rw [this]; exact h
theorem ok_nd {W : Wd} {n : Nat} (h : W.Ok n) : (W.sent.map (·.num)).Nodup := asc_nodup h.asc
end
section
theorem sent_nx (i : Nat) (W : Wd) (r : Row) : W.nx ≤ (sendStep i W r).nx := by
  unfold sendStep; split
  · show W.nx ≤ W.nx + 1; omega
  · exact Int.le_refl _
theorem head_keep {manner delay : Int} {i : Nat} {x : Rn} {I : Wd → Prop} (h : I x.W) (hs : I (look delay (1125 * i) x.W)) : I (headStep manner delay i x).W := by
  unfold headStep
  split
  · exact hs
  · split
    · exact hs
    · exact h
theorem told_all_nx {delay : Int} {i : Nat} (lots : List Lot) (W : Wd) : (lots.foldl (toldStep delay i) W).nx = W.nx :=
  told_all_keep (I := fun X => X.nx = W.nx) rfl fun l _ X h _ => by rw [told_nx]; exact h
theorem told_all_lalt {delay : Int} {i : Nat} {lots : List Lot} {W : Wd} (h : LaLt W) (hne : ∀ l ∈ lots, l.2 ≠ []) (hlt : ∀ l ∈ lots, l.1 = (i : Int) → ∀ n ∈ l.2, n < W.nx) : LaLt (lots.foldl (toldStep delay i) W) :=
  (told_all_keep (I := fun X => LaLt X ∧ X.nx = W.nx) ⟨h, rfl⟩ fun l hl X hX e => ⟨told_lalt hX.1 (hne l hl) fun n hn => by rw [hX.2]; exact hlt l hl e n hn, by rw [told_nx]; exact hX.2⟩).1
structure Inv (rows : List Row) (i : Nat) (W : Wd) : Prop where
  ok : W.Ok (cntLt rows i)
  la : LaLt W
theorem run_inv {manner delay : Int} {rows : List Row} {lots : List Lot} (B : Base0 rows lots) : ∀ i, Inv rows i (runs manner delay rows lots i).W
  | 0 => ⟨run_ok B.sz B.at0 0, fun lg h => nomatch h⟩
  | i + 1 => by
    refine ⟨run_ok B.sz B.at0 (i + 1), ?_⟩
    have h := run_inv (manner := manner) (delay := delay) B i
    rw [runs_succ]
    refine send_all_keep (I := LaLt) (told_all_lalt (head_keep (I := LaLt) h.la (look_lalt h.la)) B.ne fun l hl e n hn => ?_) fun r _ W hW _ => send_lalt hW
    have h1 := B.lt l hl i e n hn
    have h2 : (headStep manner delay i (runs manner delay rows lots i)).W.nx = (runs manner delay rows lots i).W.nx := head_keep (I := fun X => X.nx = (runs manner delay rows lots i).W.nx) rfl (look_nx _ _ _)
    rw [h2, h.ok.nx]; exact h1
/-- runs 0 and 1 are the same, and nothing is in vain -/
theorem same01 {delay : Int} {rows : List Row} {lots : List Lot} (B : Base0 rows lots) : ∀ i : Nat, runs 1 delay rows lots i = runs 0 delay rows lots i ∧ (runs 0 delay rows lots i).nv = true ∧ Settled delay (1125 * (i : Int) - 1125) (runs 0 delay rows lots i).W
  | 0 => ⟨rfl, rfl, rfl⟩
  | i + 1 => by
    obtain ⟨h1, h2, h3⟩ := same01 B (delay := delay) i
    have hI := run_inv (manner := 0) (delay := delay) B i
    rw [runs_succ, runs_succ, h1]
    generalize runs 0 delay rows lots i = x at h2 h3 hI
    have e0 : headStep 0 delay i x = { x with W := look delay (1125 * i) x.W } := by unfold headStep; rw [if_pos rfl]
    have e1 : headStep 1 delay i x = { x with W := look delay (1125 * i) x.W } := by
      unfold headStep
      rw [if_neg (by decide)]
      by_cases hd : (x.W.later.any fun t => decide (t ≤ 1125 * (i : Int))) = true
      · rw [if_pos ⟨rfl, hd⟩, settled_due h3 hd, h2]
        rfl
      · rw [if_neg (fun q => hd q.2), (settled_idle h3 (now' := 1125 * i) (by omega) (by simpa using hd)).2]
    refine ⟨?_, ?_, ?_⟩
    · unfold runStep
      rw [e0, e1]
    · show (headStep 0 delay i x).nv = true
      rw [e0]; exact h2
    · show Settled delay _ (rows.foldl (sendStep i) (lots.foldl (toldStep delay i) (headStep 0 delay i x).W))
      rw [e0]
      dsimp only
      rw [show 1125 * ((i + 1 : Nat) : Int) - 1125 = 1125 * (i : Int) by omega]
      have hOk : (look delay (1125 * i) x.W).Ok (cntLt rows i) := look_ok hI.ok
      have hT : Settled delay (1125 * i) (lots.foldl (toldStep delay i) (look delay (1125 * i) x.W)) :=
        (told_all_keep (I := fun X => Settled delay (1125 * i) X ∧ X.Ok (cntLt rows i)) ⟨look_settled (ok_nd hI.ok), hOk⟩ fun l _ X hX _ => ⟨told_settled (ok_nd hX.2), told_ok hX.2⟩).1
      have hL : LaLt (lots.foldl (toldStep delay i) (look delay (1125 * i) x.W)) := told_all_lalt (look_lalt hI.la) B.ne fun l hl e n hn => by
        rw [look_nx, hI.ok.nx]; exact B.lt l hl i e n hn
      exact (send_all_keep (I := fun X => Settled delay (1125 * i) X ∧ LaLt X) ⟨hT, hL⟩ fun r _ X hX _ => ⟨send_settled hX.1 hX.2, send_lalt hX.2⟩).1
/-! ## octets in flight, no number lost twice -/
theorem octets_split (f : Pkt → Bool) : ∀ ps : List Pkt, octets ps = octets (ps.filter f) + octets (ps.filter fun p => !f p)
  | [] => rfl
  | p :: ps => by
    have ih := octets_split f ps
    unfold octets at ih ⊢
    simp only [List.filter_cons]
    cases hk : p.kind <;> cases hf : f p <;> simp only [List.filter_cons, hk, if_true, Bool.false_eq_true, if_false, Bool.not_true, Bool.not_false, List.map_cons, List.sum_cons] <;> omega
theorem lost_inf (r : NR) (size : Int) (nw : Option Int) (now : Int) : (r.lost size nw now).inf = r.inf - size := by
  unfold NR.lost
  cases nw with
  | none => rfl
  | some t =>
    show (NR.congest _ t now).inf = _
    unfold NR.congest
    split <;> rfl
theorem acked_inf (r : NR) (size t : Int) : (r.acked size t).inf = r.inf - size := by
  unfold NR.acked
  split
  · rfl
  · split <;> rfl
theorem acks_inf : ∀ (qs : List Pkt) (r : NR), (qs.foldl ackStep r).inf = r.inf - octets qs
  | [], r => by simp [octets]
  | q :: qs, r => by
    rw [List.foldl_cons, acks_inf qs]
    unfold ackStep octets
    cases hk : q.kind with
    | true => simp only [if_true, acked_inf, List.filter_cons, hk, List.map_cons, List.sum_cons]; omega
    | false => simp only [Bool.false_eq_true, if_false, List.filter_cons, hk]
structure Tid (W : Wd) : Prop where
  nd : (W.lost.map (·.1)).Nodup
  off : ∀ p ∈ W.sent, p.num ∉ W.lost.map (·.1)
  lt : ∀ n ∈ W.lost.map (·.1), n < W.nx
structure Tidy (W : Wd) : Prop extends Tid W where
  inf : W.nr.inf = octets W.sent
theorem look_inf {delay now : Int} {W : Wd} (hnd : (W.sent.map (·.num)).Nodup) : (look delay now W).nr.inf = W.nr.inf - octets (W.sent.filter (gone W.la now delay)) := by
  by_cases q : lookLost delay now W = []
  · rw [look_idle q]
    rw [lookLost_gone, List.map_eq_nil_iff] at q
    rw [q]
    simp [octets]
  · rw [look_finds q]
    show (NR.lost _ _ _ _).inf = _
    rw [lost_inf, List.filter_congr (q := gone W.la now delay) fun p hp => contains_lost hnd hp]
theorem look_tid {delay now : Int} {W : Wd} (hnd : (W.sent.map (·.num)).Nodup) (hlt : ∀ p ∈ W.sent, p.num < W.nx) (h : Tid W) : Tid (look delay now W) := by
  have hl := look_lost delay now W
  have hs := look_sent (delay := delay) (now := now) hnd
  refine ⟨?_, ?_, ?_⟩
  · rw [hl, List.map_append, List.nodup_append]
    refine ⟨h.nd, ?_, ?_⟩
    · rw [List.map_map]
      exact filter_nodup hnd
    · intro a ha c hc e
      subst e
      rw [List.map_map] at hc
      obtain ⟨p, hp, e⟩ := List.mem_map.mp hc
      exact h.off p (List.mem_filter.mp hp).1 (by rw [show p.num = a from e]; exact ha)
  · rw [hs, hl]
    intro p hp hm
    obtain ⟨hp1, hp2⟩ := List.mem_filter.mp hp
    rw [List.map_append, List.map_map] at hm
    rcases List.mem_append.mp hm with hm | hm
    · exact h.off p hp1 hm
    · obtain ⟨q, hq, e⟩ := List.mem_map.mp hm
      obtain ⟨hq1, hq2⟩ := List.mem_filter.mp hq
      rw [num_inj hnd hq1 hp1 e] at hq2
      simp [hq2] at hp2
  · rw [hl, look_nx]
    intro a ha
    rw [List.map_append, List.map_map] at ha
    rcases List.mem_append.mp ha with ha | ha
    · exact h.lt a ha
    · obtain ⟨q, hq, e⟩ := List.mem_map.mp ha
      have := hlt q (List.mem_filter.mp hq).1
      rw [← e]; exact this
theorem look_tidy {delay now : Int} {W : Wd} {n : Nat} (hok : W.Ok n) (h : Tidy W) : Tidy (look delay now W) := by
  refine ⟨look_tid (ok_nd hok) hok.lt h.toTid, ?_⟩
  rw [look_inf (ok_nd hok), look_sent (ok_nd hok), h.inf, octets_split (gone W.la now delay) W.sent]
  omega
theorem told_tidy {delay now : Int} {ns : List Int} {W : Wd} {n : Nat} (hok : W.Ok n) (h : Tidy W) : Tidy (told delay now ns W) := by
  have hnd := ok_nd hok
  generalize hW1 : ({ W with sent := W.sent.filter (fun p => !ns.contains p.num), la := some (maxO W.la (ns.getLastD 0)) } : Wd) = W1
  have e1 : W1.sent = W.sent.filter fun p => !ns.contains p.num := by rw [← hW1]
  have e2 : W1.nr = W.nr := by rw [← hW1]
  have hnd1 : (W1.sent.map (·.num)).Nodup := by rw [e1]; exact filter_nodup hnd
  have hT : Tid W1 := by
    rw [← hW1]
    exact ⟨h.nd, fun p hp => h.off p (List.mem_filter.mp hp).1, h.lt⟩
  have hlt : ∀ p ∈ W1.sent, p.num < W1.nx := by
    rw [← hW1]
    exact fun p hp => hok.lt p (List.mem_filter.mp hp).1
  have hL := look_tid (delay := delay) (now := now) hnd1 hlt hT
  have e : told delay now ns W = { look delay now W1 with nr := (W.sent.filter fun p => ns.contains p.num).foldl ackStep (look delay now W1).nr } := by rw [← hW1]; rfl
  rw [e]
  refine ⟨⟨hL.nd, hL.off, hL.lt⟩, ?_⟩
  show NR.inf (List.foldl _ _ _) = octets (look delay now W1).sent
  have e3 := octets_split (fun p => ns.contains p.num) W.sent
  have e4 := octets_split (gone W1.la now delay) W1.sent
  rw [acks_inf, look_inf hnd1, look_sent hnd1, e2, h.inf]
  rw [e1] at e4 ⊢
  omega
theorem send_tidy {i : Nat} {W : Wd} {n : Nat} {r : Row} (hok : W.Ok n) (h : Tidy W) : Tidy (sendStep i W r) := by
  unfold sendStep
  split
  · refine ⟨⟨h.nd, fun p hp => ?_, fun n hn => ?_⟩, ?_⟩
    · rcases List.mem_append.mp hp with hp | hp
      · exact h.off p hp
      · rw [List.mem_singleton.mp hp]
        intro q
        have := h.lt _ q
        dsimp only at this
        omega
    · have := h.lt n hn
      show n < W.nx + 1
      omega
    · show NR.inf (if r.2.2 = true then _ else _) = octets (W.sent ++ [_])
      have e : octets (W.sent ++ [(⟨W.nx, 1125 * i, r.2.1, r.2.2⟩ : Pkt)]) = octets W.sent + (if r.2.2 = true then r.2.1 else 0) := by
        unfold octets
        rw [List.filter_append, List.map_append, List.sum_append]
        congr 1
        cases hk : r.2.2 <;> simp [List.filter_cons]
      rw [e]
      split
      · show W.nr.inf + _ = _
        rw [h.inf]
      · rw [h.inf]; omega
  · exact h
theorem tidy0 : Tidy W0 := ⟨⟨.nil, fun _ h => (nomatch h), fun _ h => (nomatch h)⟩, rfl⟩
/-- a moment keeps I where each of its steps does -/
theorem run_tidy {manner delay : Int} {rows : List Row} {lots : List Lot} (B : Base0 rows lots) : ∀ i, Tidy (runs manner delay rows lots i).W
  | 0 => tidy0
  | i + 1 => by
    have h := run_tidy (manner := manner) (delay := delay) B i
    have hI := run_inv (manner := manner) (delay := delay) B i
    rw [runs_succ]
    have h1 : Tidy (headStep manner delay i (runs manner delay rows lots i)).W := head_keep h (look_tidy hI.ok h)
    have h2 := told_all_keep (delay := delay) (i := i) (I := fun X => Tidy X ∧ X.Ok (cntLt rows i)) (lots := lots) ⟨h1, head_ok hI.ok⟩ fun l _ X hX _ => ⟨told_tidy hX.2 hX.1, told_ok hX.2⟩
    exact (send_all_keep (i := i) (I := fun X => Tidy X ∧ ∃ n, X.Ok n) (rows := rows) ⟨h2.1, _, h2.2⟩ fun r hr X hX e => ⟨send_tidy hX.2.choose_spec hX.1, _, send_ok hX.2.choose_spec (B.sz r hr).1 (B.sz r hr).2 e⟩).1
end
section
theorem gone_mono {la la' : Option Int} {now now' delay : Int} {p : Pkt} (h1 : now ≤ now') (h2 : ∀ lg, la = some lg → ∃ lg', la' = some lg' ∧ lg ≤ lg') (h : gone la now delay p = true) : gone la' now' delay p = true := by
  unfold gone at h ⊢
  cases la with
  | none => cases h
  | some lg =>
    obtain ⟨lg', e, hle⟩ := h2 lg rfl
    rw [e]
    unfold isLost at h ⊢
    simp only [Bool.and_eq_true, Bool.not_eq_true', decide_eq_false_iff_not, decide_eq_true_eq] at h ⊢
    omega
theorem same_la (la : Option Int) : ∀ lg, la = some lg → ∃ lg', la = some lg' ∧ lg ≤ lg' := fun lg h => ⟨lg, h, Int.le_refl _⟩
theorem maxO_la (la : Option Int) (n : Int) : ∀ lg, la = some lg → ∃ lg', some (maxO la n) = some lg' ∧ lg ≤ lg' := fun lg h => ⟨_, rfl, by rw [h]; unfold maxO; dsimp only; omega⟩
def nums (l : List (Int × Int)) : List Int := l.map (·.1)
structure Rel (delay now : Int) (lots : List Lot) (x z : Wd) : Prop where
  la : z.la = x.la
  nx : z.nx = x.nx
  sent : x.sent = z.sent.filter fun p => !decide (p.num ∈ x.lost.map (·.1))
  due : ∀ p ∈ z.sent, p.num ∈ x.lost.map (·.1) → gone x.la now delay p = true
  sub : ∀ q ∈ z.lost, ∃ t0, (q.1, t0) ∈ x.lost ∧ t0 ≤ q.2
  old : ∀ q ∈ x.lost, q.2 ≤ now
  cov : ∀ q ∈ x.lost, q.1 ∈ z.lost.map (·.1) ∨ q.1 ∈ z.sent.map (·.num) ∨ ∃ l ∈ lots, q.1 ∈ l.2 ∧ q.2 ≤ 1125 * l.1
theorem Rel.mem {delay now : Int} {lots : List Lot} {x z : Wd} (h : Rel delay now lots x z) {p : Pkt} : p ∈ x.sent ↔ p ∈ z.sent ∧ p.num ∉ x.lost.map (·.1) := by
  rw [h.sent, List.mem_filter]
  simp
theorem Rel.then {delay now now' : Int} {lots : List Lot} {x z : Wd} (h : Rel delay now lots x z) (hle : now ≤ now') : Rel delay now' lots x z :=
  ⟨h.la, h.nx, h.sent, fun p hp hm => gone_mono hle (same_la _) (h.due p hp hm), h.sub, fun q hq => Int.le_trans (h.old q hq) hle, h.cov⟩
theorem Rel.head {delay now : Int} {lots : List Lot} {x z : Wd} (h : Rel delay now lots x z) (hz : (z.sent.map (·.num)).Nodup) : Rel delay now lots (look delay now x) z := by
  have hx : (x.sent.map (·.num)).Nodup := by rw [h.sent]; exact filter_nodup hz
  have hs := look_sent (delay := delay) (now := now) hx
  have hl := look_lost delay now x
  have hm : ∀ p ∈ z.sent, p.num ∈ (look delay now x).lost.map (·.1) ↔ p.num ∈ x.lost.map (·.1) ∨ (p ∈ x.sent ∧ gone x.la now delay p = true) := by
    intro p hp
    rw [hl, List.map_append, List.map_map, List.mem_append]
    refine or_congr Iff.rfl ⟨fun hm => ?_, fun hm => List.mem_map.mpr ⟨p, List.mem_filter.mpr hm, rfl⟩⟩
    obtain ⟨q, hq, e⟩ := List.mem_map.mp hm
    obtain ⟨hq1, hq2⟩ := List.mem_filter.mp hq
    have := num_inj hz (h.mem.mp hq1).1 hp e
    subst this
    exact ⟨hq1, hq2⟩
  refine ⟨by rw [look_la]; exact h.la, by rw [look_nx]; exact h.nx, ?_, ?_, ?_, ?_, ?_⟩
  · rw [hs]
    conv => lhs; rw [h.sent]
    rw [List.filter_filter]
    refine List.filter_congr fun p hp => ?_
    have e := hm p hp
    by_cases h1 : p.num ∈ x.lost.map (·.1)
    · simp only [h1, true_or, iff_true] at e
      simp only [h1, e, decide_true, Bool.not_true, Bool.and_false]
    · have h2 : p ∈ x.sent := h.mem.mpr ⟨hp, h1⟩
      simp only [h1, h2, false_or, true_and] at e
      cases hg : gone x.la now delay p with
      | true => rw [hg] at e; simp only [iff_true] at e; simp [e]
      | false => rw [hg] at e; simp only [Bool.false_eq_true, iff_false] at e; simp [e, h1]
  · intro p hp hmem
    rw [look_la]
    rcases (hm p hp).mp hmem with q | q
    · exact h.due p hp q
    · exact q.2
  · intro q hq
    obtain ⟨t0, h1, h2⟩ := h.sub q hq
    exact ⟨t0, by rw [hl]; exact List.mem_append_left _ h1, h2⟩
  · intro q hq
    rw [hl] at hq
    rcases List.mem_append.mp hq with hq | hq
    · exact h.old q hq
    · obtain ⟨p, _, rfl⟩ := List.mem_map.mp hq; exact Int.le_refl _
  · intro q hq
    rw [hl] at hq
    rcases List.mem_append.mp hq with hq | hq
    · exact h.cov q hq
    · obtain ⟨p, hp, rfl⟩ := List.mem_map.mp hq
      exact .inr (.inl (List.mem_map.mpr ⟨p, (h.mem.mp (List.mem_filter.mp hp).1).1, rfl⟩))
theorem Rel.told {delay now : Int} {lots : List Lot} {x z : Wd} {l : Lot} (h : Rel delay now lots x z) (hz : (z.sent.map (·.num)).Nodup) (hl : l ∈ lots) (hw : now = 1125 * l.1) :
    Rel delay now lots (told delay now l.2 x) (told delay now l.2 z) := by
  have hx : (x.sent.map (·.num)).Nodup := by rw [h.sent]; exact filter_nodup hz
  generalize hX1 : ({ x with sent := x.sent.filter (fun p => !l.2.contains p.num), la := some (maxO x.la (l.2.getLastD 0)) } : Wd) = x1
  generalize hZ1 : ({ z with sent := z.sent.filter (fun p => !l.2.contains p.num), la := some (maxO z.la (l.2.getLastD 0)) } : Wd) = z1
  have ex : ∃ nr, Mine.told delay now l.2 x = { look delay now x1 with nr := nr } := by rw [← hX1]; exact told_eq _ _ _ _
  have ez : ∃ nr, Mine.told delay now l.2 z = { look delay now z1 with nr := nr } := by rw [← hZ1]; exact told_eq _ _ _ _
  have hla : z1.la = x1.la := by rw [← hX1, ← hZ1]; show some (maxO z.la _) = some (maxO x.la _); rw [h.la]
  have hnx : z1.nx = x1.nx := by rw [← hX1, ← hZ1]; exact h.nx
  have hz1 : ∀ p, p ∈ z1.sent ↔ p ∈ z.sent ∧ p.num ∉ l.2 := by
    intro p; rw [← hZ1]; simp [List.mem_filter]
  have hx1 : ∀ p, p ∈ x1.sent ↔ p ∈ z1.sent ∧ p.num ∉ x.lost.map (·.1) := by
    intro p
    have : p ∈ x1.sent ↔ p ∈ x.sent ∧ p.num ∉ l.2 := by rw [← hX1]; simp [List.mem_filter]
    rw [this, hz1, h.mem]
    constructor
    · rintro ⟨⟨a, b⟩, c⟩; exact ⟨⟨a, c⟩, b⟩
    · rintro ⟨⟨a, c⟩, b⟩; exact ⟨⟨a, b⟩, c⟩
  have hnd : (z1.sent.map (·.num)).Nodup := by rw [← hZ1]; exact filter_nodup hz
  have hnx1 : (x1.sent.map (·.num)).Nodup := by rw [← hX1]; exact filter_nodup hx
  have F1 : ∀ p ∈ z1.sent, p.num ∈ x.lost.map (·.1) → gone x1.la now delay p = true := by
    intro p hp hm
    rw [← hX1]
    exact gone_mono (Int.le_refl _) (maxO_la _ _) (h.due p ((hz1 p).mp hp).1 hm)
  have sX := look_sent (delay := delay) (now := now) hnx1
  have sZ := look_sent (delay := delay) (now := now) hnd
  have lX := look_lost delay now x1
  have lZ := look_lost delay now z1
  rw [hla] at sZ lZ
  have lx : x1.lost = x.lost := by rw [← hX1]
  have lz : z1.lost = z.lost := by rw [← hZ1]
  rw [lx] at lX
  rw [lz] at lZ
  have hsent : (look delay now x1).sent = (look delay now z1).sent := by
    rw [sX, sZ]
    have : x1.sent = z1.sent.filter fun p => !decide (p.num ∈ x.lost.map (·.1)) := by
      rw [← hX1, ← hZ1]
      show x.sent.filter _ = (z.sent.filter _).filter _
      conv => lhs; rw [h.sent]
      rw [List.filter_filter, List.filter_filter]
      exact List.filter_congr fun p _ => Bool.and_comm _ _
    rw [this, List.filter_filter]
    refine List.filter_congr fun p hp => ?_
    by_cases h1 : p.num ∈ x.lost.map (·.1)
    · rw [F1 p hp h1]; rfl
    · simp [h1]
  have hoff : ∀ p ∈ (look delay now z1).sent, p.num ∉ (look delay now x1).lost.map (·.1) := by
    intro p hp hm
    rw [sZ] at hp
    obtain ⟨hp1, hp2⟩ := List.mem_filter.mp hp
    rw [lX, List.map_append, List.map_map] at hm
    rcases List.mem_append.mp hm with hm | hm
    · rw [F1 p hp1 hm] at hp2; cases hp2
    · obtain ⟨q, hq, e⟩ := List.mem_map.mp hm
      obtain ⟨hq1, hq2⟩ := List.mem_filter.mp hq
      have := num_inj hnd ((hx1 q).mp hq1).1 hp1 e
      subst this
      rw [hq2] at hp2; cases hp2
  obtain ⟨rx, ex⟩ := ex
  obtain ⟨rz, ez⟩ := ez
  rw [ex, ez]
  refine ⟨?_, ?_, ?_, ?_, ?_, ?_, ?_⟩
  · show (look delay now z1).la = (look delay now x1).la
    rw [look_la, look_la, hla]
  · show (look delay now z1).nx = (look delay now x1).nx
    rw [look_nx, look_nx, hnx]
  · show (look delay now x1).sent = (look delay now z1).sent.filter _
    rw [hsent]
    refine (List.filter_eq_self.mpr fun p hp => ?_).symm
    have := hoff p hp
    simpa using this
  · intro p hp hm
    exact absurd hm (hoff p hp)
  · intro q hq
    have hq' : q ∈ (look delay now z1).lost := hq
    rw [lZ] at hq'
    show ∃ t0, (q.1, t0) ∈ (look delay now x1).lost ∧ t0 ≤ q.2
    rw [lX]
    rcases List.mem_append.mp hq' with hq' | hq'
    · obtain ⟨t0, a, b⟩ := h.sub q hq'
      exact ⟨t0, List.mem_append_left _ a, b⟩
    · obtain ⟨p, hp, rfl⟩ := List.mem_map.mp hq'
      obtain ⟨hp1, hp2⟩ := List.mem_filter.mp hp
      by_cases h1 : p.num ∈ x.lost.map (·.1)
      · obtain ⟨y, hy, e⟩ := List.mem_map.mp h1
        exact ⟨y.2, List.mem_append_left _ (by rw [← e]; exact hy), h.old y hy⟩
      · exact ⟨now, List.mem_append_right _ (List.mem_map.mpr ⟨p, List.mem_filter.mpr ⟨(hx1 p).mpr ⟨hp1, h1⟩, hp2⟩, rfl⟩), Int.le_refl _⟩
  · intro q hq
    have hq' : q ∈ (look delay now x1).lost := hq
    rw [lX] at hq'
    rcases List.mem_append.mp hq' with hq' | hq'
    · exact h.old q hq'
    · obtain ⟨p, _, rfl⟩ := List.mem_map.mp hq'; exact Int.le_refl _
  · intro q hq
    have hq' : q ∈ (look delay now x1).lost := hq
    show q.1 ∈ (look delay now z1).lost.map (·.1) ∨ _
    rw [lX] at hq'
    rw [lZ, List.map_append, List.map_map]
    have inZ : ∀ p ∈ z1.sent, gone x1.la now delay p = true → p.num ∈ z.lost.map (·.1) ++ (z1.sent.filter (gone x1.la now delay)).map ((·.1) ∘ fun p => (p.num, now)) := fun p hp hg =>
      List.mem_append_right _ (List.mem_map.mpr ⟨p, List.mem_filter.mpr ⟨hp, hg⟩, rfl⟩)
    rcases List.mem_append.mp hq' with hq' | hq'
    · rcases h.cov q hq' with c | c | c
      · exact .inl (List.mem_append_left _ c)
      · obtain ⟨p, hp, e⟩ := List.mem_map.mp c
        by_cases h1 : p.num ∈ l.2
        · exact .inr (.inr ⟨l, hl, by rw [← e]; exact h1, by rw [← hw]; exact h.old q hq'⟩)
        · have hp1 := (hz1 p).mpr ⟨hp, h1⟩
          left
          rw [← e]
          exact inZ p hp1 (F1 p hp1 (by rw [e]; exact List.mem_map.mpr ⟨q, hq', rfl⟩))
      · exact .inr (.inr c)
    · obtain ⟨p, hp, rfl⟩ := List.mem_map.mp hq'
      obtain ⟨hp1, hp2⟩ := List.mem_filter.mp hp
      exact .inl (inZ p ((hx1 p).mp hp1).1 hp2)
theorem Rel.send {delay now : Int} {lots : List Lot} {x z : Wd} {i : Nat} {r : Row} (h : Rel delay now lots x z) (hlt : ∀ n ∈ x.lost.map (·.1), n < x.nx) : Rel delay now lots (sendStep i x r) (sendStep i z r) := by
  unfold sendStep
  split
  · have hno : x.nx ∉ x.lost.map (·.1) := fun q => by have := hlt _ q; omega
    refine ⟨h.la, by show z.nx + 1 = x.nx + 1; rw [h.nx], ?_, ?_, h.sub, h.old, ?_⟩
    · show x.sent ++ [_] = (z.sent ++ [_]).filter _
      rw [List.filter_append, h.nx]
      congr 1
      · exact h.sent
      · rw [List.filter_cons, if_pos (by simpa using hno)]; rfl
    · intro p hp hm
      rcases List.mem_append.mp hp with hp | hp
      · exact h.due p hp hm
      · rw [List.mem_singleton.mp hp] at hm
        exact absurd (by rw [← h.nx]; exact hm) hno
    · intro q hq
      rcases h.cov q hq with c | c | c
      · exact .inl c
      · exact .inr (.inl (by rw [List.map_append]; exact List.mem_append_left _ c))
      · exact .inr (.inr c)
  · exact h
theorem told_lt {delay now : Int} {ns : List Int} {W : Wd} {n : Nat} (hok : W.Ok n) (h : Tidy W) : Tidy (told delay now ns W) := told_tidy hok h
theorem rel_told_all {delay : Int} {i : Nat} {lots : List Lot} {n : Nat} : ∀ {ls : List Lot} {x z : Wd}, (∀ l ∈ ls, l ∈ lots) → Rel delay (1125 * i) lots x z → z.Ok n → Rel delay (1125 * i) lots (ls.foldl (toldStep delay i) x) (ls.foldl (toldStep delay i) z)
  | [], _, _, _, h, _ => h
  | l :: ls, x, z, hs, h, hz => by
    rw [List.foldl_cons, List.foldl_cons]
    unfold toldStep
    split
    · rename_i e
      exact rel_told_all (fun l hl => hs l (.tail _ hl)) (h.told (ok_nd hz) (hs l (.head _)) (by rw [e])) (told_ok hz)
    · exact rel_told_all (fun l hl => hs l (.tail _ hl)) h hz
theorem rel_send_all {delay now : Int} {i : Nat} {lots : List Lot} {rows : List Row} (hsz : ∀ r ∈ rows, 0 ≤ r.2.1 ∧ r.2.1 ≤ 1000) : ∀ {x z : Wd} {n : Nat}, Rel delay now lots x z → x.Ok n → Tidy x → Rel delay now lots (rows.foldl (sendStep i) x) (rows.foldl (sendStep i) z) := by
  induction rows with
  | nil => intro x z n h _ _; exact h
  | cons r rows ih =>
    intro x z n h hok ht
    rw [List.foldl_cons, List.foldl_cons]
    have h' := h.send (i := i) (r := r) ht.lt
    have t' := send_tidy (i := i) (r := r) hok ht
    by_cases e : r.1 = (i : Int)
    · exact ih (fun r hr => hsz r (.tail _ hr)) h' (send_ok hok (hsz r (.head _)).1 (hsz r (.head _)).2 e) t'
    · have e2 : sendStep i x r = x := by unfold sendStep; rw [if_neg e]
      rw [e2] at h' ⊢
      exact ih (fun r hr => hsz r (.tail _ hr)) h' hok ht
theorem rel_run {delay : Int} {rows : List Row} {lots : List Lot} (B : Base0 rows lots) : ∀ i : Nat, Rel delay (1125 * (i : Int) - 1125) lots (runs 0 delay rows lots i).W (runs 2 delay rows lots i).W
  | 0 => ⟨rfl, rfl, rfl, fun _ h => (nomatch h), fun _ h => (nomatch h), fun _ h => (nomatch h), fun _ h => (nomatch h)⟩
  | i + 1 => by
    have h := rel_run B (delay := delay) i
    have h0 := run_inv (manner := 0) (delay := delay) B i
    have h2 := run_inv (manner := 2) (delay := delay) B i
    have t0 := run_tidy (manner := 0) (delay := delay) B i
    rw [runs_succ, runs_succ]
    generalize runs 0 delay rows lots i = x at h h0 t0
    generalize runs 2 delay rows lots i = z at h h2
    have e0 : headStep 0 delay i x = { x with W := look delay (1125 * i) x.W } := by unfold headStep; rw [if_pos rfl]
    have e2 : headStep 2 delay i z = z := by unfold headStep; rw [if_neg (by decide), if_neg (fun q => absurd q.1 (by decide))]
    show Rel _ _ _ (rows.foldl (sendStep i) (lots.foldl (toldStep delay i) (headStep 0 delay i x).W)) (rows.foldl (sendStep i) (lots.foldl (toldStep delay i) (headStep 2 delay i z).W))
    rw [e0, e2]
    dsimp only
    rw [show 1125 * ((i + 1 : Nat) : Int) - 1125 = 1125 * (i : Int) by omega]
    have r1 := (h.then (now' := 1125 * (i : Int)) (by omega)).head (ok_nd h2.ok)
    have r2 := rel_told_all (ls := lots) (fun _ h => h) r1 h2.ok
    have k := told_all_keep (delay := delay) (i := i) (I := fun X => Tidy X ∧ X.Ok (cntLt rows i)) (lots := lots) ⟨look_tidy (delay := delay) (now := 1125 * i) h0.ok t0, look_ok h0.ok⟩ fun l _ X hX _ => ⟨told_tidy hX.2 hX.1, told_ok hX.2⟩
    exact rel_send_all B.sz r2 k.2 k.1
/-- each packet's time is a row's -/
def TimeI (rows : List Row) (W : Wd) : Prop := ∀ p ∈ W.sent, ∃ r ∈ rows, p.time = 1125 * r.1
theorem look_sub {delay now : Int} {W : Wd} : ∀ p ∈ (look delay now W).sent, p ∈ W.sent := by
  unfold look
  split
  · exact fun _ h => h
  · exact fun p hp => (List.mem_filter.mp hp).1
theorem run_time {manner delay : Int} {rows : List Row} {lots : List Lot} : ∀ i, TimeI rows (runs manner delay rows lots i).W
  | 0 => fun _ h => (nomatch h)
  | i + 1 => by
    rw [runs_succ]
    have h := run_time (manner := manner) (delay := delay) (rows := rows) (lots := lots) i
    refine send_all_keep (I := TimeI rows) (told_all_keep (I := TimeI rows) (head_keep (I := TimeI rows) h fun p hp => h p (look_sub p hp)) fun l _ X hX _ => ?_) fun r hr X hX e => ?_
    · intro p hp
      exact hX p (List.mem_filter.mp (look_sub p hp)).1
    · unfold sendStep
      rw [if_pos e]
      intro p hp
      rcases List.mem_append.mp hp with hp | hp
      · exact hX p hp
      · rw [List.mem_singleton.mp hp]
        exact ⟨r, hr, by rw [e]⟩
def runEnd (manner delay : Int) (rows : List Row) (lots : List Lot) (M : Nat) : Rn :=
  if manner = 2 then { runs manner delay rows lots M with W := look delay (1125 * M) (runs manner delay rows lots M).W } else runs manner delay rows lots M
/-- the plain law -/
theorem plain_law {delay : Int} {rows : List Row} {lots : List Lot} {M : Nat} (B : Base0 rows lots) (hM : ∀ r ∈ rows, 1125 * r.1 + delay ≤ 1125 * (M : Int) - 1125) :
    runEnd 1 delay rows lots M = runEnd 0 delay rows lots M ∧ (runEnd 0 delay rows lots M).nv = true ∧ Tidy (runEnd 0 delay rows lots M).W ∧ Tidy (runEnd 2 delay rows lots M).W ∧
    (runEnd 2 delay rows lots M).W.sent = (runEnd 0 delay rows lots M).W.sent ∧
    (∀ q ∈ (runEnd 2 delay rows lots M).W.lost, ∃ t0, (q.1, t0) ∈ (runEnd 0 delay rows lots M).W.lost ∧ t0 ≤ q.2) ∧
    (∀ q ∈ (runEnd 0 delay rows lots M).W.lost, q.1 ∉ (runEnd 2 delay rows lots M).W.lost.map (·.1) → ∃ l ∈ lots, q.1 ∈ l.2 ∧ q.2 ≤ 1125 * l.1) := by
  obtain ⟨s1, s2, s3⟩ := same01 B (delay := delay) M
  have h0 := run_inv (manner := 0) (delay := delay) B M
  have h2 := run_inv (manner := 2) (delay := delay) B M
  have t0 := run_tidy (manner := 0) (delay := delay) B M
  have t2 := run_tidy (manner := 2) (delay := delay) B M
  have tm := run_time (manner := 0) (delay := delay) (rows := rows) (lots := lots) M
  have R := (rel_run B (delay := delay) M).then (now' := 1125 * (M : Int)) (by omega)
  have e0 : runEnd 0 delay rows lots M = runs 0 delay rows lots M := if_neg (by decide)
  have e1 : runEnd 1 delay rows lots M = runs 1 delay rows lots M := if_neg (by decide)
  have e2 : runEnd 2 delay rows lots M = { runs 2 delay rows lots M with W := look delay (1125 * M) (runs 2 delay rows lots M).W } := if_pos rfl
  rw [e0, e1, e2]
  generalize runs 0 delay rows lots M = x at *
  generalize runs 2 delay rows lots M = z at *
  dsimp only
  have hgone : ∀ p ∈ x.W.sent, ∀ now, gone x.W.la now delay p = false := by
    intro p hp now
    have g := settled_gone s3 p hp
    obtain ⟨r, hr, e⟩ := tm p hp
    have := hM r hr
    unfold gone at g ⊢
    cases hla : x.W.la with
    | none => rfl
    | some lg =>
      rw [hla] at g
      dsimp only at g ⊢
      unfold isLost at g
      simp only [Bool.and_eq_false_iff, Bool.not_eq_false', decide_eq_true_eq, decide_eq_false_iff_not] at g
      simp only [Bool.and_eq_false_iff, Bool.not_eq_false', decide_eq_true_eq]
      left
      omega
  have hs := look_sent (delay := delay) (now := 1125 * (M : Int)) (ok_nd h2.ok)
  have hl := look_lost delay (1125 * (M : Int)) z.W
  rw [R.la] at hs hl
  have hz : ∀ p ∈ z.W.sent, (gone x.W.la (1125 * (M : Int)) delay p = true ↔ p.num ∈ x.W.lost.map (·.1)) := by
    intro p hp
    refine ⟨fun hg => ?_, R.due p hp⟩
    by_cases h1 : p.num ∈ x.W.lost.map (·.1)
    · exact h1
    · rw [hgone p (R.mem.mpr ⟨hp, h1⟩)] at hg; cases hg
  refine ⟨s1, s2, t0, look_tidy h2.ok t2, ?_, ?_, ?_⟩
  · rw [hs, R.sent]
    refine List.filter_congr fun p hp => ?_
    have := hz p hp
    by_cases h1 : p.num ∈ x.W.lost.map (·.1)
    · rw [this.mpr h1]; simp [h1]
    · have : gone x.W.la (1125 * (M : Int)) delay p = false := by
        rw [← Bool.not_eq_true]; exact fun q => h1 (this.mp q)
      rw [this]; simp [h1]
  · intro q hq
    rw [hl] at hq
    rcases List.mem_append.mp hq with hq | hq
    · exact R.sub q hq
    · obtain ⟨p, hp, rfl⟩ := List.mem_map.mp hq
      obtain ⟨hp1, hp2⟩ := List.mem_filter.mp hp
      obtain ⟨y, hy, e⟩ := List.mem_map.mp ((hz p hp1).mp hp2)
      exact ⟨y.2, by rw [← e]; exact hy, R.old y hy⟩
  · intro q hq hno
    rw [hl, List.map_append, List.map_map] at hno
    rcases R.cov q hq with c | c | c
    · exact absurd (List.mem_append_left _ c) hno
    · obtain ⟨p, hp, e⟩ := List.mem_map.mp c
      refine absurd (List.mem_append_right _ (List.mem_map.mpr ⟨p, List.mem_filter.mpr ⟨hp, (hz p hp).mpr (by rw [e]; exact List.mem_map.mpr ⟨q, hq, rfl⟩)⟩, e⟩)) hno
    · exact c
end
section
structure Apt (pl ct dxp sd cdx : Addr) (rest : List (Addr × Obj)) : Prop where
  p1 : pl ≠ dxp
  p2 : pl ≠ sd
  p3 : pl ≠ cdx
  c1 : ct ≠ dxp
  c2 : ct ≠ sd
  c3 : ct ≠ cdx
  d1 : dxp ≠ sd
  d2 : dxp ≠ cdx
  d3 : sd ≠ cdx
  r : ∀ p ∈ rest, p.1 ≠ dxp ∧ p.1 ≠ sd ∧ p.1 ≠ cdx
section
variable {w : World} {A : Around} {E : Value → Shared → Prop} {s : Shared} {b : Heap} {L : Addr} {m : Str → Option Value} {mean mg mb} {pl ct sd cdx dxp : Addr} {op os oc : Obj} {rest : List (Addr × Obj)} {nx : Int} {la : Option Int}
set_option maxHeartbeats 4000000 in
theorem take_run {Q : Value → Shared → Prop} (C : Cx w mean mg mb b) (hA : Rm A 1) (F : Fr b L s.heap m) (N : News b L s.heap ((pl, instObj 354 dxp) :: (ct, instObj 155 cdx) :: (dxp, op) :: (sd, os) :: (cdx, oc) :: rest)) (P : Apt pl ct dxp sd cdx rest) (hop : SpaceD w.params op sd nx la)
    (h : ∀ h' tk o' t, Fr b L h' m → News b L h' ((pl, instObj 354 dxp) :: (ct, instObj 155 cdx) :: (dxp, o') :: (sd, os) :: (cdx, oc) :: rest) → SpaceD w.params o' sd (nx + 1) la → Q (.int nx t) { s with heap := h', toks := tk }) :
    wpAny (model PRG w) A (call (.ref 271) [.ref pl]) Q E s := by
  have NS : News b L s.heap ([(dxp, op)] ++ ((pl, instObj 354 dxp) :: (ct, instObj 155 cdx) :: (sd, os) :: (cdx, oc) :: rest)) := news_of N (.tail _ (.tail _ (.head _))) (news_of N (.head _) (news_of N (.tail _ (.head _)) (news_of N (.tail _ (.tail _ (.tail _ (.head _)))) (news_of N (.tail _ (.tail _ (.tail _ (.tail _ (.head _))))) (news_sub N fun p hp => .tail _ (.tail _ (.tail _ (.tail _ (.tail _ hp)))))))))
  obtain ⟨g, hg, LD, st, hrest, back⟩ := shift _ _ F NS (disj1 (dC P.p1 (dC P.c1 (dC P.d1.symm (dC P.d2.symm fun p hp => (P.r p hp).1)))))
  refine wpAny_call (take_number_spec (C.keeps st) (hA.less (by omega)) LD hg (hrest _ (.head _)) hop ?_)
  intro v h' tk o' t LD' hop' hv
  subst hv
  obtain ⟨F', N', off⟩ := back _ _ LD'
  exact h h' tk o' t F' (news_of N' (.tail _ (.head _)) (news_of N' (.tail _ (.tail _ (.head _))) (news_of N' (.head _) (news_of N' (.tail _ (.tail _ (.tail _ (.head _)))) (news_of N' (.tail _ (.tail _ (.tail _ (.tail _ (.head _))))) (news_sub N' fun p hp => .tail _ (.tail _ (.tail _ (.tail _ (.tail _ hp)))))))))) hop'
set_option maxHeartbeats 4000000 in
theorem sent_run {Q : Value → Shared → Prop} {p : Pkt} {fl : Addr} {kvs : List (Int × Value)} {ts1 ts2 ts3 : Tok} (C : Cx w mean mg mb b) (hA : Rm A 5) (F : Fr b L s.heap m) (N : News b L s.heap ((pl, instObj 354 dxp) :: (ct, instObj 155 cdx) :: (dxp, op) :: (sd, os) :: (cdx, oc) :: rest)) (P : Apt pl ct dxp sd cdx rest) (hop : SpaceD w.params op sd nx la)
    (hos : os.IsDictOf (PySem.intKind PRG w) kvs) (hsz : kvs.length ≤ 100000) (hf : FramesAt b fl p.kind)
    (h : ∀ px pdx po h' tk o' os', Fr b L h' m → News b L h' ((pl, instObj 354 dxp) :: (ct, instObj 155 cdx) :: (dxp, o') :: (sd, os') :: (cdx, oc) :: (pdx, po) :: (px, instObj 211 pdx) :: rest) → SpaceD w.params o' sd nx la → os'.IsDictOf (PySem.intKind PRG w) (stored kvs p.num (.ref px)) → PktD w.params po p fl →
      Apt pl ct dxp sd cdx ((pdx, po) :: (px, instObj 211 pdx) :: rest) → (pl ≠ px ∧ pl ≠ pdx) → (ct ≠ px ∧ ct ≠ pdx) → (∀ q ∈ rest, q.1 ≠ px ∧ q.1 ≠ pdx) → Q (.ref px) { s with heap := h', toks := tk }) :
    wpAny (model PRG w) A (call (.ref 278) [.ref pl, .int p.num ts1, .int p.time ts2, .int p.size ts3, .ref fl]) Q E s := by
  have NS : News b L s.heap ([(dxp, op), (sd, os)] ++ ((pl, instObj 354 dxp) :: (ct, instObj 155 cdx) :: (cdx, oc) :: rest)) := news_of N (.tail _ (.tail _ (.head _))) (news_of N (.tail _ (.tail _ (.tail _ (.head _)))) (news_of N (.head _) (news_of N (.tail _ (.head _)) (news_of N (.tail _ (.tail _ (.tail _ (.tail _ (.head _))))) (news_sub N fun p hp => .tail _ (.tail _ (.tail _ (.tail _ (.tail _ hp)))))))))
  obtain ⟨g, hg, LD, st, hrest, back⟩ := shift _ _ F NS (disjC (dC P.p1 (dC P.c1 (dC P.d2.symm fun p hp => (P.r p hp).1))) (disjC (dC P.p2 (dC P.c2 (dC P.d3.symm fun p hp => (P.r p hp).2.1))) disjN))
  refine wpAny_call (on_sent_spec (C.keeps st) (hA.less (by omega)) LD hg (hrest _ (.head _)) P.d1 hop hos hsz (hf.keeps st) ?_)
  intro px pdx v h' tk o' os' po LD' hop' hos' hpo e1 e2 e3 e4 e5 hv
  subst hv
  obtain ⟨F', N', off⟩ := back _ _ LD'
  have k1 := off _ (.head _)
  have k2 := off _ (.tail _ (.head _))
  have k3 := off _ (.tail _ (.tail _ (.head _)))
  refine h px pdx po h' tk o' os' F' (news_of N' (.tail _ (.tail _ (.tail _ (.tail _ (.head _))))) (news_of N' (.tail _ (.tail _ (.tail _ (.tail _ (.tail _ (.head _)))))) (news_of N' (.head _) (news_of N' (.tail _ (.head _)) (news_of N' (.tail _ (.tail _ (.tail _ (.tail _ (.tail _ (.tail _ (.head _))))))) (news_of N' (.tail _ (.tail _ (.head _))) (news_of N' (.tail _ (.tail _ (.tail _ (.head _)))) (news_sub N' fun p hp => .tail _ (.tail _ (.tail _ (.tail _ (.tail _ (.tail _ (.tail _ hp)))))))))))))) hop' hos' hpo ⟨P.p1, P.p2, P.p3, P.c1, P.c2, P.c3, P.d1, P.d2, P.d3, ?_⟩ ⟨k1 _ (.tail _ (.tail _ (.tail _ (.head _)))), k1 _ (.tail _ (.tail _ (.head _)))⟩ ⟨k2 _ (.tail _ (.tail _ (.tail _ (.head _)))), k2 _ (.tail _ (.tail _ (.head _)))⟩ (fun q hq => ⟨off q (.tail _ (.tail _ (.tail _ hq))) _ (.tail _ (.tail _ (.tail _ (.head _)))), off q (.tail _ (.tail _ (.tail _ hq))) _ (.tail _ (.tail _ (.head _)))⟩)
  intro q hq
  rcases List.mem_cons.mp hq with rfl | hq
  · exact ⟨e4, e5, (k3 _ (.tail _ (.tail _ (.head _)))).symm⟩
  · rcases List.mem_cons.mp hq with rfl | hq
    · exact ⟨e2, e3, (k3 _ (.tail _ (.tail _ (.tail _ (.head _))))).symm⟩
    · exact P.r q hq
set_option maxHeartbeats 4000000 in
theorem flight_run {Q : Value → Shared → Prop} {r : NR} {size : Int} {ts : Tok} (C : Cx w mean mg mb b) (hA : Rm A 1) (F : Fr b L s.heap m) (N : News b L s.heap ((pl, instObj 354 dxp) :: (ct, instObj 155 cdx) :: (dxp, op) :: (sd, os) :: (cdx, oc) :: rest)) (P : Apt pl ct dxp sd cdx rest) (hoc : RenoIs w.params oc r)
    (h : ∀ h' tk o', Fr b L h' m → News b L h' ((pl, instObj 354 dxp) :: (ct, instObj 155 cdx) :: (dxp, op) :: (sd, os) :: (cdx, o') :: rest) → RenoIs w.params o' { r with inf := r.inf + size } → Q .none { s with heap := h', toks := tk }) :
    wpAny (model PRG w) A (call (.ref 110) [.ref ct, .int size ts]) Q E s := by
  have NS : News b L s.heap ([(cdx, oc)] ++ ((pl, instObj 354 dxp) :: (ct, instObj 155 cdx) :: (dxp, op) :: (sd, os) :: rest)) := news_of N (.tail _ (.tail _ (.tail _ (.tail _ (.head _))))) (news_of N (.head _) (news_of N (.tail _ (.head _)) (news_of N (.tail _ (.tail _ (.head _))) (news_of N (.tail _ (.tail _ (.tail _ (.head _)))) (news_sub N fun p hp => .tail _ (.tail _ (.tail _ (.tail _ (.tail _ hp)))))))))
  obtain ⟨g, hg, LD, st, hrest, back⟩ := shift _ _ F NS (disj1 (dC P.p3 (dC P.c3 (dC P.d2 (dC P.d3 fun p hp => (P.r p hp).2.2)))))
  refine wpAny_call (nr_on_sent_spec (C.keeps st) (hA.less (by omega)) LD hg (hrest _ (.tail _ (.head _))) hoc ?_)
  intro v h' tk o' LD' hoc' hv
  subst hv
  obtain ⟨F', N', off⟩ := back _ _ LD'
  exact h h' tk o' F' (news_of N' (.tail _ (.head _)) (news_of N' (.tail _ (.tail _ (.head _))) (news_of N' (.tail _ (.tail _ (.tail _ (.head _)))) (news_of N' (.tail _ (.tail _ (.tail _ (.tail _ (.head _))))) (news_of N' (.head _) (news_sub N' fun p hp => .tail _ (.tail _ (.tail _ (.tail _ (.tail _ hp)))))))))) hoc'
end
/-- the run's ledger, in the order of the send lemmas -/
theorem RunInv.open {w : World} {b h : Heap} {L pl ct wd sd cdx ll dxp sl : Addr} {delay : Int} {W : Wd} {seen : List (Int × Int)} {S Z : List (Addr × Obj)} (X6 : Six wd sd cdx ll dxp sl) (N : News b L h (S ++ Z)) (H : RunInv w pl ct wd sd cdx ll dxp sl delay W seen S)
    (hpl : (pl, instObj 354 dxp) ∈ Z) (hct : (ct, instObj 155 cdx) ∈ Z) {G : Prop} (D : ∀ p ∈ Z, ∀ q ∈ S, p.1 ≠ q.1)
    (k : ∀ ow os oc op kvs lvs svs c1 c2 blk, News b L h ((pl, instObj 354 dxp) :: (ct, instObj 155 cdx) :: (dxp, op) :: (sd, os) :: (cdx, oc) :: (wd, ow) :: (ll, PySem.W.listOf (lvs : List Value).toArray c1) :: (sl, PySem.W.listOf (svs : List Value).toArray c2) :: (blk ++ Z)) →
      Apt pl ct dxp sd cdx ((wd, ow) :: (ll, PySem.W.listOf (lvs : List Value).toArray c1) :: (sl, PySem.W.listOf (svs : List Value).toArray c2) :: (blk ++ Z)) →
      WorldD w ow pl ct ll sl W.later delay → os.IsDictOf (PySem.intKind PRG w) kvs → PktsV (PktIn w.params blk) kvs W.sent → RenoIs w.params oc W.nr → SpaceD w.params op sd W.nx W.la →
      PairsIn blk lvs W.lost → PairsIn blk svs seen → (∀ p ∈ blk, p.1 ≠ wd ∧ p.1 ≠ sd ∧ p.1 ≠ cdx ∧ p.1 ≠ ll ∧ p.1 ≠ dxp ∧ p.1 ≠ sl) →
      (∀ p ∈ Z, p.1 ≠ wd ∧ p.1 ≠ sd ∧ p.1 ≠ cdx ∧ p.1 ≠ ll ∧ p.1 ≠ dxp ∧ p.1 ≠ sl ∧ ∀ q ∈ blk, p.1 ≠ q.1) → G) : G := by
  obtain ⟨ow, os, oc, op, kvs, lvs, svs, c1, c2, blk, how, hos, hps, hoc, hop, hlv, hsv, hoff⟩ := H
  have DZ : ∀ p ∈ Z, p.1 ≠ wd ∧ p.1 ≠ sd ∧ p.1 ≠ cdx ∧ p.1 ≠ ll ∧ p.1 ≠ dxp ∧ p.1 ≠ sl ∧ ∀ q ∈ blk, p.1 ≠ q.1 := fun p hp =>
    ⟨D p hp _ (.head _), D p hp _ (.tail _ (.head _)), D p hp _ (.tail _ (.tail _ (.head _))), D p hp _ (.tail _ (.tail _ (.tail _ (.head _)))), D p hp _ (.tail _ (.tail _ (.tail _ (.tail _ (.head _))))), D p hp _ (.tail _ (.tail _ (.tail _ (.tail _ (.tail _ (.head _)))))), fun q hq => D p hp q (.tail _ (.tail _ (.tail _ (.tail _ (.tail _ (.tail _ hq))))))⟩
  obtain ⟨a1, a2, a3, a4, a5, a6, a7⟩ := DZ _ hpl
  obtain ⟨b1, b2, b3, b4, b5, b6, b7⟩ := DZ _ hct
  refine k ow os oc op kvs lvs svs c1 c2 blk ?_ ⟨a5, a2, a3, b5, b2, b3, X6.b3.symm, X6.c2.symm, X6.b1, ?_⟩ how hos hps hoc hop hlv hsv hoff DZ
  · refine news_of N (List.mem_append_right _ hpl) (news_of N (List.mem_append_right _ hct) (news_of N (.tail _ (.tail _ (.tail _ (.tail _ (.head _))))) (news_of N (.tail _ (.head _)) (news_of N (.tail _ (.tail _ (.head _))) (news_of N (.head _) (news_of N (.tail _ (.tail _ (.tail _ (.head _)))) (news_of N (.tail _ (.tail _ (.tail _ (.tail _ (.tail _ (.head _)))))) (news_sub N fun p hp => ?_))))))))
    exact .tail _ (.tail _ (.tail _ (.tail _ (.tail _ (.tail _ hp)))))
  · intro p hp
    rcases List.mem_cons.mp hp with rfl | hp
    · exact ⟨X6.a4, X6.a1, X6.a2⟩
    · rcases List.mem_cons.mp hp with rfl | hp
      · exact ⟨X6.d1, X6.b2.symm, X6.c1.symm⟩
      · rcases List.mem_cons.mp hp with rfl | hp
        · exact ⟨X6.e1.symm, X6.b4.symm, X6.c3.symm⟩
        · rcases List.mem_append.mp hp with hp | hp
          · exact ⟨(hoff p hp).2.2.2.2.1, (hoff p hp).2.1, (hoff p hp).2.2.1⟩
          · exact ⟨(DZ p hp).2.2.2.2.1, (DZ p hp).2.1, (DZ p hp).2.2.1⟩
theorem RunInv.close {w : World} {b h : Heap} {L pl ct wd sd cdx ll dxp sl : Addr} {delay : Int} {W : Wd} {seen : List (Int × Int)} {Z blk : List (Addr × Obj)} {ow os oc op : Obj} {kvs : List (Int × Value)} {lvs svs : List Value} {c1 c2 : Nat}
    (N : News b L h ((pl, instObj 354 dxp) :: (ct, instObj 155 cdx) :: (dxp, op) :: (sd, os) :: (cdx, oc) :: (wd, ow) :: (ll, PySem.W.listOf lvs.toArray c1) :: (sl, PySem.W.listOf svs.toArray c2) :: (blk ++ Z)))
    (how : WorldD w ow pl ct ll sl W.later delay) (hos : os.IsDictOf (PySem.intKind PRG w) kvs) (hps : PktsV (PktIn w.params blk) kvs W.sent) (hoc : RenoIs w.params oc W.nr) (hop : SpaceD w.params op sd W.nx W.la)
    (hlv : PairsIn blk lvs W.lost) (hsv : PairsIn blk svs seen) (hoff : ∀ p ∈ blk, p.1 ≠ wd ∧ p.1 ≠ sd ∧ p.1 ≠ cdx ∧ p.1 ≠ ll ∧ p.1 ≠ dxp ∧ p.1 ≠ sl)
    (DZ : ∀ p ∈ Z, p.1 ≠ wd ∧ p.1 ≠ sd ∧ p.1 ≠ cdx ∧ p.1 ≠ ll ∧ p.1 ≠ dxp ∧ p.1 ≠ sl ∧ ∀ q ∈ blk, p.1 ≠ q.1) :
    ∃ S, News b L h (S ++ Z) ∧ (∀ p ∈ Z, ∀ q ∈ S, p.1 ≠ q.1) ∧ RunInv w pl ct wd sd cdx ll dxp sl delay W seen S := by
  refine ⟨(wd, ow) :: (sd, os) :: (cdx, oc) :: (ll, PySem.W.listOf (lvs : List Value).toArray c1) :: (dxp, op) :: (sl, PySem.W.listOf (svs : List Value).toArray c2) :: blk, ?_, ?_, ⟨ow, os, oc, op, kvs, lvs, svs, c1, c2, blk, how, hos, hps, hoc, hop, hlv, hsv, hoff⟩⟩
  · exact news_of N (.tail _ (.tail _ (.tail _ (.tail _ (.tail _ (.head _)))))) (news_of N (.tail _ (.tail _ (.tail _ (.head _)))) (news_of N (.tail _ (.tail _ (.tail _ (.tail _ (.head _))))) (news_of N (.tail _ (.tail _ (.tail _ (.tail _ (.tail _ (.tail _ (.head _))))))) (news_of N (.tail _ (.tail _ (.head _))) (news_of N (.tail _ (.tail _ (.tail _ (.tail _ (.tail _ (.tail _ (.tail _ (.head _)))))))) (news_sub N fun p hp => .tail _ (.tail _ (.tail _ (.tail _ (.tail _ (.tail _ (.tail _ (.tail _ hp)))))))))))))
  · intro p hp q hq
    obtain ⟨a1, a2, a3, a4, a5, a6, a7⟩ := DZ p hp
    exact disjC (rest := [p]) (dC a1 dN) (disjC (dC a2 dN) (disjC (dC a3 dN) (disjC (dC a4 dN) (disjC (dC a5 dN) (disjC (dC a6 dN) fun p' hp' q' hq' => by rw [List.mem_singleton.mp hp']; exact a7 q' hq'))))) p (.head _) q hq
theorem news_in {h₀ h : Heap} {L : Addr} {p : Addr × Obj} {S Z : List (Addr × Obj)} (N : News h₀ L h (p :: (S ++ Z))) : News h₀ L h (S ++ p :: Z) := news_sub N fun q hq => by
  rcases List.mem_append.mp hq with h | h
  · exact .tail _ (List.mem_append_left _ h)
  · rcases List.mem_cons.mp h with rfl | h
    · exact .head _
    · exact .tail _ (List.mem_append_right _ h)
theorem news_out {h₀ h : Heap} {L : Addr} {p : Addr × Obj} {S Z : List (Addr × Obj)} (N : News h₀ L h (S ++ p :: Z)) : News h₀ L h (p :: (S ++ Z)) := news_sub N fun q hq => by
  rcases List.mem_cons.mp hq with rfl | h
  · exact List.mem_append_right _ (.head _)
  · rcases List.mem_append.mp h with h | h
    · exact List.mem_append_left _ h
    · exact List.mem_append_right _ (.tail _ h)
theorem disj_in {p : Addr × Obj} {S Z : List (Addr × Obj)} (h : ∀ q ∈ S, q.1 ≠ p.1) (D : ∀ p ∈ Z, ∀ q ∈ S, p.1 ≠ q.1) : ∀ r ∈ p :: Z, ∀ q ∈ S, r.1 ≠ q.1 := fun r hr q hq => by
  rcases List.mem_cons.mp hr with rfl | hr
  · exact (h q hq).symm
  · exact D r hr q hq
theorem told_take {delay : Int} {i j : Nat} {lots : List Lot} {l : Lot} {W : Wd} (e : lots[j]? = some l) : (lots.take (j + 1)).foldl (toldStep delay i) W = toldStep delay i ((lots.take j).foldl (toldStep delay i) W) l := by
  rw [List.take_add_one, e, List.foldl_append]; rfl
theorem send_take {i j : Nat} {rows : List Row} {r : Row} {W : Wd} (e : rows[j]? = some r) : (rows.take (j + 1)).foldl (sendStep i) W = sendStep i ((rows.take j).foldl (sendStep i) W) r := by
  rw [List.take_add_one, e, List.foldl_append]; rfl
theorem seen_len (manner delay : Int) (rows : List Row) (lots : List Lot) : ∀ i, (runs manner delay rows lots i).seen.length = i
  | 0 => rfl
  | i + 1 => by
    rw [runs_succ]
    show (_ ++ [_]).length = _
    have : (headStep manner delay i (runs manner delay rows lots i)).seen = (runs manner delay rows lots i).seen := by
      unfold headStep; split
      · rfl
      · split <;> rfl
    rw [this, List.length_append, seen_len manner delay rows lots i, List.length_singleton]
theorem head_seen (manner delay : Int) (i : Nat) (x : Rn) : (headStep manner delay i x).seen = x.seen := by
  unfold headStep; split
  · rfl
  · split <;> rfl
end
section
theorem RunInv.sent {w : World} {b h : Heap} {L pl ct wd sd cdx ll dxp sl px pdx fl : Addr} {delay : Int} {W : Wd} {seen : List (Int × Int)} {Z blk : List (Addr × Obj)} {ow os oc op po : Obj} {kvs : List (Int × Value)} {lvs svs : List Value} {c1 c2 n i : Nat} {r : Row}
    (N : News b L h ((pl, instObj 354 dxp) :: (ct, instObj 155 cdx) :: (dxp, op) :: (sd, os) :: (cdx, oc) :: (pdx, po) :: (px, instObj 211 pdx) :: (wd, ow) :: (ll, PySem.W.listOf lvs.toArray c1) :: (sl, PySem.W.listOf svs.toArray c2) :: (blk ++ Z)))
    (P : Apt pl ct dxp sd cdx ((pdx, po) :: (px, instObj 211 pdx) :: (wd, ow) :: (ll, PySem.W.listOf lvs.toArray c1) :: (sl, PySem.W.listOf svs.toArray c2) :: (blk ++ Z)))
    (hq : ∀ q ∈ (wd, ow) :: (ll, PySem.W.listOf lvs.toArray c1) :: (sl, PySem.W.listOf svs.toArray c2) :: (blk ++ Z), q.1 ≠ px ∧ q.1 ≠ pdx)
    (how : WorldD w ow pl ct ll sl W.later delay) (hok : W.Ok n) (hos : os.IsDictOf (PySem.intKind PRG w) (stored kvs W.nx (.ref px))) (hps : PktsV (PktIn w.params blk) kvs W.sent) (hpo : PktD w.params po ⟨W.nx, 1125 * i, r.2.1, r.2.2⟩ fl)
    (hop : SpaceD w.params op sd (W.nx + 1) W.la) (hoc : RenoIs w.params oc (if r.2.2 then { W.nr with inf := W.nr.inf + r.2.1 } else W.nr))
    (hlv : PairsIn blk lvs W.lost) (hsv : PairsIn blk svs seen) (hoff : ∀ p ∈ blk, p.1 ≠ wd ∧ p.1 ≠ sd ∧ p.1 ≠ cdx ∧ p.1 ≠ ll ∧ p.1 ≠ dxp ∧ p.1 ≠ sl)
    (DZ : ∀ p ∈ Z, p.1 ≠ wd ∧ p.1 ≠ sd ∧ p.1 ≠ cdx ∧ p.1 ≠ ll ∧ p.1 ≠ dxp ∧ p.1 ≠ sl ∧ ∀ q ∈ blk, p.1 ≠ q.1) (e : r.1 = i) :
    ∃ S, News b L h (S ++ Z) ∧ (∀ p ∈ Z, ∀ q ∈ S, p.1 ≠ q.1) ∧ RunInv w pl ct wd sd cdx ll dxp sl delay (sendStep i W r) seen S := by
  have q1 := hq _ (.head _)
  have q2 := hq _ (.tail _ (.head _))
  have q3 := hq _ (.tail _ (.tail _ (.head _)))
  have p1 := P.r _ (.head _)
  have p2 := P.r _ (.tail _ (.head _))
  have mm : ∀ q ∈ blk, q ∈ (pdx, po) :: (px, instObj 211 pdx) :: blk := fun q h => .tail _ (.tail _ h)
  have es : sendStep i W r = { W with sent := W.sent ++ [⟨W.nx, 1125 * i, r.2.1, r.2.2⟩], nx := W.nx + 1, nr := if r.2.2 then { W.nr with inf := W.nr.inf + r.2.1 } else W.nr } := if_pos e
  rw [es]
  have nk : W.nx ∉ kvs.map (·.1) := by
    rw [hps.keys]
    intro hm
    obtain ⟨p, hp, e⟩ := List.mem_map.mp hm
    have := hok.lt p hp
    omega
  rw [stored_new nk] at hos
  refine RunInv.close (blk := (pdx, po) :: (px, instObj 211 pdx) :: blk) (news_of N (.head _) (news_of N (.tail _ (.head _)) (news_of N (.tail _ (.tail _ (.head _))) (news_of N (.tail _ (.tail _ (.tail _ (.head _)))) (news_of N (.tail _ (.tail _ (.tail _ (.tail _ (.head _))))) (news_of N (.tail _ (.tail _ (.tail _ (.tail _ (.tail _ (.tail _ (.tail _ (.head _)))))))) (news_of N (.tail _ (.tail _ (.tail _ (.tail _ (.tail _ (.tail _ (.tail _ (.tail _ (.head _))))))))) (news_of N (.tail _ (.tail _ (.tail _ (.tail _ (.tail _ (.tail _ (.tail _ (.tail _ (.tail _ (.head _)))))))))) (news_of N (.tail _ (.tail _ (.tail _ (.tail _ (.tail _ (.head _)))))) (news_of N (.tail _ (.tail _ (.tail _ (.tail _ (.tail _ (.tail _ (.head _))))))) (news_sub N fun p hp => ?_))))))))))) how hos ?_ hoc hop (hlv.mono mm) (hsv.mono mm) ?_ ?_
  · exact .tail _ (.tail _ (.tail _ (.tail _ (.tail _ (.tail _ (.tail _ (.tail _ (.tail _ (.tail _ hp)))))))))
  · exact PktsV.push (PktsV.mono hps fun v p x => x.mono mm) ⟨px, pdx, po, fl, rfl, (.tail _ (.head _)), (.head _), hpo⟩
  · intro p hp
    rcases List.mem_cons.mp hp with rfl | hp
    · exact ⟨q1.2.symm, p1.2.1, p1.2.2, q2.2.symm, p1.1, q3.2.symm⟩
    · rcases List.mem_cons.mp hp with rfl | hp
      · exact ⟨q1.1.symm, p2.2.1, p2.2.2, q2.1.symm, p2.1, q3.1.symm⟩
      · exact hoff p hp
  · intro p hp
    obtain ⟨a1, a2, a3, a4, a5, a6, a7⟩ := DZ p hp
    have z := hq p (.tail _ (.tail _ (.tail _ (List.mem_append_right _ hp))))
    refine ⟨a1, a2, a3, a4, a5, a6, fun q hq' => ?_⟩
    rcases List.mem_cons.mp hq' with rfl | hq'
    · exact z.2
    · rcases List.mem_cons.mp hq' with rfl | hq'
      · exact z.1
      · exact a7 q hq'
/-- a new pair onto the seen list -/
theorem RunInv.saw {w : World} {b h : Heap} {L pl ct wd sd cdx ll dxp sl tp : Addr} {delay : Int} {W : Wd} {seen : List (Int × Int)} {Z blk : List (Addr × Obj)} {ow os oc op : Obj} {kvs : List (Int × Value)} {lvs svs : List Value} {c1 c2 nt : Nat} {ab : Int × Int} {t1 t2 : Tok}
    (N : News b L h ((pl, instObj 354 dxp) :: (ct, instObj 155 cdx) :: (dxp, op) :: (sd, os) :: (cdx, oc) :: (wd, ow) :: (ll, PySem.W.listOf lvs.toArray c1) :: (sl, PySem.W.listOf (svs ++ [Value.ref tp]).toArray c2) :: (blk ++ Z)))
    (N' : News b L h [(tp, tupO [.int ab.1 t1, .int ab.2 t2] nt)])
    (hlt : tp ≠ wd ∧ tp ≠ sd ∧ tp ≠ cdx ∧ tp ≠ ll ∧ tp ≠ dxp ∧ tp ≠ sl) (hz : ∀ p ∈ Z, p.1 ≠ tp)
    (how : WorldD w ow pl ct ll sl W.later delay) (hos : os.IsDictOf (PySem.intKind PRG w) kvs) (hps : PktsV (PktIn w.params blk) kvs W.sent) (hoc : RenoIs w.params oc W.nr) (hop : SpaceD w.params op sd W.nx W.la)
    (hlv : PairsIn blk lvs W.lost) (hsv : PairsIn blk svs seen) (hoff : ∀ p ∈ blk, p.1 ≠ wd ∧ p.1 ≠ sd ∧ p.1 ≠ cdx ∧ p.1 ≠ ll ∧ p.1 ≠ dxp ∧ p.1 ≠ sl)
    (DZ : ∀ p ∈ Z, p.1 ≠ wd ∧ p.1 ≠ sd ∧ p.1 ≠ cdx ∧ p.1 ≠ ll ∧ p.1 ≠ dxp ∧ p.1 ≠ sl ∧ ∀ q ∈ blk, p.1 ≠ q.1) :
    ∃ S, News b L h (S ++ Z) ∧ (∀ p ∈ Z, ∀ q ∈ S, p.1 ≠ q.1) ∧ RunInv w pl ct wd sd cdx ll dxp sl delay W (seen ++ [ab]) S := by
  have mm : ∀ q ∈ blk, q ∈ (tp, tupO [.int ab.1 t1, .int ab.2 t2] nt) :: blk := fun q h => .tail _ h
  refine RunInv.close (blk := (tp, tupO [.int ab.1 t1, .int ab.2 t2] nt) :: blk) (news_of N (.head _) (news_of N (.tail _ (.head _)) (news_of N (.tail _ (.tail _ (.head _))) (news_of N (.tail _ (.tail _ (.tail _ (.head _)))) (news_of N (.tail _ (.tail _ (.tail _ (.tail _ (.head _))))) (news_of N (.tail _ (.tail _ (.tail _ (.tail _ (.tail _ (.head _)))))) (news_of N (.tail _ (.tail _ (.tail _ (.tail _ (.tail _ (.tail _ (.head _))))))) (news_of N (.tail _ (.tail _ (.tail _ (.tail _ (.tail _ (.tail _ (.tail _ (.head _)))))))) (news_of N' (.head _) (news_sub N fun p hp => ?_)))))))))) how hos ?_ hoc hop (hlv.mono mm) ?_ ?_ ?_
  · exact .tail _ (.tail _ (.tail _ (.tail _ (.tail _ (.tail _ (.tail _ (.tail _ hp)))))))
  · exact PktsV.mono hps fun v p x => x.mono mm
  · exact Paired.snoc (hsv.mono mm) ⟨tp, nt, t1, t2, rfl, .head _⟩
  · intro p hp
    rcases List.mem_cons.mp hp with rfl | hp
    · exact hlt
    · exact hoff p hp
  · intro p hp
    obtain ⟨a1, a2, a3, a4, a5, a6, a7⟩ := DZ p hp
    refine ⟨a1, a2, a3, a4, a5, a6, fun q hq' => ?_⟩
    rcases List.mem_cons.mp hq' with rfl | hq'
    · exact hz p hp
    · exact a7 q hq'
end
section
local macro_rules | `(tactic| k_ne) => `(tactic| first | exact NeA.out (by assumption) | exact NeA.outs (by assumption))
local macro_rules | `(tactic| k_handed) => `(tactic| exact handed_opt _ _)
local macro_rules | `(tactic| walk_at "m_wl") => `(tactic| first | exact worldL_place | exact worldL_control | exact worldL_later | exact worldL_delay | exact worldL_lost | exact worldL_seen)
local macro_rules | `(tactic| walk_at "subscriptTail") => `(tactic| (k_here; (with_reducible show wpAny _ _ (subscriptTail _ _ (Value.ref _) (Value.str _ _)) _ _ _); (refine' world_item ?N ?p ?d ?l ?_; (case N => k_asm); (case p => k_mem); (case d => assumption); (case l => walk_at "m_wl"); k_whole)))
local macro_rules | `(tactic| walk_at "d_all") => `(tactic| (repeat (first | exact dN | (refine dC (by first | exact NeA.out (by assumption) | exact NeA.outs (by assumption)) ?_))))
def StopIf : Prop := True
local macro_rules | `(tactic| walk_at "exec If") => `(tactic| (have si2 := (‹StopIf› : StopIf); clear si2; k_here; refine stop_in ?_))
theorem Fr.as {b h : Heap} {L : Addr} {m m' : Str → Option Value} (F : Fr b L h m) (e : m = m') : Fr b L h m' := e ▸ F
theorem head_0 {manner delay : Int} {i : Nat} {x : Rn} (h : manner = 0) : headStep manner delay i x = { x with W := look delay (1125 * i) x.W } := if_pos h
theorem head_hit {manner delay : Int} {i : Nat} {x : Rn} {t0 : Int} (h0 : manner ≠ 0) (h : manner = 1) (e : x.W.later = some t0) (hle : t0 ≤ 1125 * (i : Int)) : headStep manner delay i x = { x with W := look delay (1125 * i) x.W, nv := looks delay (1125 * i) x.W && x.nv } := by
  unfold headStep
  rw [if_neg h0, if_pos ⟨h, by rw [e]; simpa using hle⟩]
theorem head_hitT {manner delay : Int} {i : Nat} {x : Rn} {t0 : Int} (h0 : manner ≠ 0) (h : manner = 1) (e : x.W.later = some t0) (hle : t0 ≤ 1125 * (i : Int)) (hl : looks delay (1125 * i) x.W = true) : headStep manner delay i x = { x with W := look delay (1125 * i) x.W, nv := x.nv } := by
  rw [head_hit h0 h e hle, hl]; rfl
theorem head_hitF {manner delay : Int} {i : Nat} {x : Rn} {t0 : Int} (h0 : manner ≠ 0) (h : manner = 1) (e : x.W.later = some t0) (hle : t0 ≤ 1125 * (i : Int)) (hl : looks delay (1125 * i) x.W = false) : headStep manner delay i x = { x with W := look delay (1125 * i) x.W, nv := looks delay (1125 * i) x.W } := by
  rw [head_hit h0 h e hle, hl]; rfl
theorem head_miss {manner delay : Int} {i : Nat} {x : Rn} {t0 : Int} (h0 : manner ≠ 0) (e : x.W.later = some t0) (hle : ¬ t0 ≤ 1125 * (i : Int)) : headStep manner delay i x = x := by
  unfold headStep
  rw [if_neg h0, if_neg]
  rw [e]
  exact fun q => hle (by simpa using q.2)
theorem head_none {manner delay : Int} {i : Nat} {x : Rn} (h0 : manner ≠ 0) (e : x.W.later = none) : headStep manner delay i x = x := by
  unfold headStep
  rw [if_neg h0, if_neg]
  rw [e]
  exact fun q => by simp at q
theorem head_no {manner delay : Int} {i : Nat} {x : Rn} (h0 : manner ≠ 0) (h1 : manner ≠ 1) : headStep manner delay i x = x := by
  unfold headStep
  rw [if_neg h0, if_neg fun q => h1 q.1]
section
variable {w : World} {A : Around} {E : Value → Shared → Prop} {s : Shared} {h₀ : Heap} {L : Addr} {pl ct wd sd cdx ll dxp sl : Addr} {delay : Int} {W : Wd} {seen : List (Int × Int)} {S Z : List (Addr × Obj)}
theorem later_none {t : Tok} {value slice : PySem.Expr} {Q : Value → Shared → Prop} (N : News h₀ L s.heap (S ++ Z)) (H : RunInv w pl ct wd sd cdx ll dxp sl delay W seen S) (e : W.later = none) (h : Q .none { s with toks := s.toks + 1 })
    (hs : subscripted slice false (.ref wd) (.str (Str.ofString "later") t) = operate [.ref wd, .str (Str.ofString "later") t] (getItem (.ref wd) (.str (Str.ofString "later") t)) := by with_unfolding_all rfl) (hg : ∀ r, letTemporaryGo value (.ref wd) r = pure () := by intro _; with_unfolding_all rfl) :
    wpAny (model PRG w) A (subscriptTail value slice (.ref wd) (.str (Str.ofString "later") t)) Q E s := by
  obtain ⟨ow, os, oc, op, kvs, lvs, svs, c1, c2, blk, ⟨t1, t2, how⟩, _⟩ := H
  rw [e] at how
  exact world_item N (.head _) how worldL_later h hs hg
theorem later_some {t : Tok} {t0 : Int} {value slice : PySem.Expr} {Q : Value → Shared → Prop} (N : News h₀ L s.heap (S ++ Z)) (H : RunInv w pl ct wd sd cdx ll dxp sl delay W seen S) (e : W.later = some t0) (h : ∀ t1, Q (.int t0 t1) { s with toks := s.toks + 1 })
    (hs : subscripted slice false (.ref wd) (.str (Str.ofString "later") t) = operate [.ref wd, .str (Str.ofString "later") t] (getItem (.ref wd) (.str (Str.ofString "later") t)) := by with_unfolding_all rfl) (hg : ∀ r, letTemporaryGo value (.ref wd) r = pure () := by intro _; with_unfolding_all rfl) :
    wpAny (model PRG w) A (subscriptTail value slice (.ref wd) (.str (Str.ofString "later") t)) Q E s := by
  obtain ⟨ow, os, oc, op, kvs, lvs, svs, c1, c2, blk, ⟨t1, t2, how⟩, _⟩ := H
  rw [e] at how
  exact world_item N (.head _) how worldL_later (h _) hs hg
end
local macro_rules | `(tactic| walk_at "subscriptTail") => `(tactic| (k_here; (with_reducible show wpAny _ _ (subscriptTail _ _ (Value.ref _) (Value.str _ _)) _ _ _); (refine' later_none ?N ?H ?e ?_; (case N => assumption); (case H => assumption); (case e => assumption); k_whole)))
local macro_rules | `(tactic| walk_at "subscriptTail") => `(tactic| (k_here; (with_reducible show wpAny _ _ (subscriptTail _ _ (Value.ref _) (Value.str _ _)) _ _ _); (refine' later_some ?N ?H ?e ?_; (case N => assumption); (case H => assumption); (case e => assumption); k_whole; intro _)))
abbrev rmap (u1 u2 u3 u4 u5 u6 : Option Value) (pl ct : Addr) (nv : Bool) (wd rl tl : Addr) (m : Nat) (tm : Tok) (delay : Int) (td : Tok) (manner : Int) (tn : Tok) : Str → Option Value :=
  (fun y => if y = Str.ofString "moment" then u1 else if y = Str.ofString "now" then u2 else if y = Str.ofString "when" then u3 else if y = Str.ofString "numbers" then u4 else if y = Str.ofString "size" then u5 else if y = Str.ofString "frames" then u6 else if y = Str.ofString "place" then some (.ref pl) else if y = Str.ofString "control" then some (.ref ct) else if y = Str.ofString "no_vain" then some (.bool nv) else if y = Str.ofString "world" then some (.ref wd) else List.lookup y [(Str.ofString "rows", .ref rl), (Str.ofString "lots", .ref tl), (Str.ofString "moments", .int (m : Int) tm), (Str.ofString "delay", .int delay td), (Str.ofString "manner", .int manner tn)].reverse)
set_option maxHeartbeats 4000000 in
theorem law_run_spec {w : World} {A : Around} {s : Shared} {mean mg mb} {R : Result → Shared → Prop} (C : Cx w mean mg mb s.heap) (hA : Rm A 11)
    {rl tl : Addr} {rvs tvs : List Value} {rows : List Row} {lots : List Lot} {m : Nat} {delay manner : Int} {tm td tn : Tok}
    (hrl : s.heap.IsList rl rvs.toArray) (htl : s.heap.IsList tl tvs.toArray) (hr : Paired (RowT s.heap) rvs rows) (ht : Paired (LotT s.heap) tvs lots) (hr8 : rows.length ≤ 60) (ht8 : lots.length ≤ 60) (hm : m ≤ 1000) (B : Base0 rows lots) (hl64 : ∀ l ∈ lots, l.2.length < 64)
    (hR : ∀ t nt wd pl ct cdx ll dxp sd sl S h' tk, (sd == sysModules) = false → Led s.heap h' ((t, tupO [.bool (runEnd manner delay rows lots m).nv, .ref wd] nt) :: (S ++ [(pl, instObj 354 dxp), (ct, instObj 155 cdx)])) →
      RunInv w pl ct wd sd cdx ll dxp sl delay (runEnd manner delay rows lots m).W (runEnd manner delay rows lots m).seen S → R (.ok (.ret (.ref t))) {s with heap := h', toks := tk}) :
    codeAny (model PRG w) A (.call (.ref 382) ⟨[.ref rl, .ref tl, .int m tm, .int delay td, .int manner tn], []⟩) R s := by
  obtain ⟨d, f, g, u, rfl⟩ := hA.norm
  have X := C.X
  have T := C.T
  refine' call_S (binds := [(Str.ofString "rows", .ref rl), (Str.ofString "lots", .ref tl), (Str.ofString "moments", .int m tm), (Str.ofString "delay", .int delay td), (Str.ofString "manner", .int manner tn)]) (Led.refl _) (Nat.le_refl _) C ?k1 ?k2 ?k3 ?k4 ?k5 ?_ ?c1 ?c2 ?c3 ?c4
  walk_at "m_open"
  intro L' h₁ F N lt hL
  k_fold
  k_steps
  rename_i wd _ ow F1 N1 _ low hd1
  refine new_space ‹Fr s.heap L' _ _› ‹News s.heap L' _ _› C ((hA.deeper _).less (by omega)) ?_
  intro pl dxp sd op os h' tk F' N' ap e1 e2 e3 lo hop hos
  have q1 : NeA wd pl := (ap _ (.head _)).1
  have q2 : NeA wd dxp := (ap _ (.head _)).2.1
  have q3 : NeA wd sd := (ap _ (.head _)).2.2
  have q4 : NeA sd dxp := e3
  have q14 : NeA pl dxp := e1
  have q15 : NeA pl sd := e2
  clear F1 N1
  k_steps
  refine new_reno ‹Fr s.heap L' _ _› ‹News s.heap L' _ _› C ((hA.deeper _).less (by omega)) ?_
  intro ct cdx oc h' tk F' N' ap2 e4 hoc
  have q5 : NeA dxp ct := (ap2 _ (.head _)).1
  have q6 : NeA dxp cdx := (ap2 _ (.head _)).2
  have q7 : NeA sd ct := (ap2 _ (.tail _ (.head _))).1
  have q8 : NeA sd cdx := (ap2 _ (.tail _ (.head _))).2
  have q9 : NeA pl ct := (ap2 _ (.tail _ (.tail _ (.head _)))).1
  have q10 : NeA pl cdx := (ap2 _ (.tail _ (.tail _ (.head _)))).2
  have q11 : NeA wd ct := (ap2 _ (.tail _ (.tail _ (.tail _ (.head _))))).1
  have q12 : NeA wd cdx := (ap2 _ (.tail _ (.tail _ (.tail _ (.head _))))).2
  have q13 : NeA ct cdx := e4
  clear ap ap2
  k_steps
  refine stop_out ?_
  refine for_S (h₀ := s.heap) ?_ (by intro _; rfl)
  k_steps
  rename_i ll _ lt1 sl _ lt2 _ ow hw _ _ _ _ lt3 _ _ _ _ _ _ h2 tk2 t1 u1 v1 hrg F2 N2 hk2
  have X6 : Six wd sd cdx ll dxp sl := ⟨q3.out, q12.out, Nat.ne_of_lt lt1.2.2.2.2.2, q2.out, Nat.ne_of_lt lt2.2.2.2.2.2.2, q8.out, Nat.ne_of_lt lt1.2.2.2.1, q4.out, Nat.ne_of_lt lt2.2.2.2.2.1, Nat.ne_of_lt lt1.1, q6.outs, Nat.ne_of_lt lt2.2.1, Nat.ne_of_gt lt1.2.2.1, Nat.ne_of_lt lt2.1, Nat.ne_of_lt lt2.2.2.2.1, lo⟩
  refine ForGo.mk _ [(wd, ow), (sd, os), (cdx, oc), (ll, PySem.W.listOf [].toArray 0), (dxp, op), (sl, PySem.W.listOf [].toArray 0)] [(pl, instObj 354 dxp), (ct, instObj 155 cdx)] [] m _ (fun i mm S => ∃ (u1 u2 u3 u4 u5 u6 : Option Value), mm = (rmap (u1) (u2) (u3) (u4) (u5) (u6) pl ct ((runs manner delay rows lots i).nv) wd rl tl m tm delay td manner tn) ∧
      RunInv w pl ct wd sd cdx ll dxp sl delay (runs manner delay rows lots i).W (runs manner delay rows lots i).seen S ∧ (∀ p ∈ [(pl, instObj 354 dxp), (ct, instObj 155 cdx)], ∀ q ∈ S, p.1 ≠ q.1)) F2 ?_ (SrcOk.range rfl hrg (small_one (by decide) (by decide) (by omega) (by omega)) (by rw [rangeSize_nat]; omega)) (fun _ h => (nomatch h)) ?_ ?_ ?_
  · exact news_of N2 (.tail _ (.tail _ (.tail _ (.tail _ (.tail _ (.tail _ (.tail _ (.tail _ (.head _))))))))) (news_of N2 (.tail _ (.tail _ (.tail _ (.tail _ (.tail _ (.tail _ (.head _))))))) (news_of N2 (.tail _ (.tail _ (.tail _ (.head _)))) (news_of N2 (.tail _ (.tail _ (.head _))) (news_of N2 (.tail _ (.tail _ (.tail _ (.tail _ (.tail _ (.head _)))))) (news_of N2 (.tail _ (.head _)) (news_of N2 (.tail _ (.tail _ (.tail _ (.tail _ (.tail _ (.tail _ (.tail _ (.head _)))))))) (news_of N2 (.tail _ (.tail _ (.tail _ (.tail _ (.head _))))) News.nil)))))))
  · refine exI6 none none none none none none ⟨?_, ⟨ow, os, oc, op, [], [], [], 0, 0, [], ?_, hos, .nil, hoc, hop, .nil, .nil, fun _ h => (nomatch h)⟩, ?_⟩
    · exact ch_eq (by walk_at "m_ch") (by walk_at "m_ch") (by exact rfl) (by exact rfl)
    · exact ⟨td, td, hw⟩
    · exact disjC (dC q1.outs (dC q11.outs dN)) (disjC (dC q15.out (dC q7.outs dN)) (disjC (dC q10.out (dC q13.out dN)) (disjC (dC (Nat.ne_of_lt lt1.2.2.2.2.1) (dC (Nat.ne_of_lt lt1.2.1) dN)) (disjC (dC q14.out (dC q5.outs dN)) (disjC (dC (Nat.ne_of_lt lt2.2.2.2.2.2.1) (dC (Nat.ne_of_lt lt2.2.2.1) dN)) disjN)))))
  · rintro i v m₁ S₁ I oI h₁ tk₁ hi ⟨t, rfl⟩ hJ9 F₁ N₁ hSI hZI hIs U9 hU9
    refine exE6 hJ9 ?_
    clear hJ9
    rintro u1 u2 u3 u4 u5 u6 hJ9
    refine andE3 hJ9 ?_
    clear hJ9
    rintro rfl HI HD
    rw [Int.zero_add]
    generalize hx : runs manner delay rows lots i = x at HI F₁
    clear F2 N2
    have hok : x.W.Ok (cntLt rows i) := by rw [← hx]; exact (run_inv B i).ok
    have hcn : cntLt rows i ≤ 60 := Nat.le_trans (cnt_le rows i) hr8
    refine assign_any F₁ N₁ rfl rfl ?_
    intro h₂ F₂ N₂
    have si : StopIf := trivial
    k_steps
    refine stop_out ?_
    clear si
    have F3 := ‹Fr s.heap L' _ _›
    have N3 := ‹News s.heap L' _ _›
    refine wpAny_mono (Q := fun fl s' => Stop (∃ h tk u1 u2 u3 u4 u5 u6 S, fl = .next ∧ s' = { s with heap := h, toks := tk } ∧ Fr s.heap L' h (rmap (some (.int i u1)) (some (.int (1125 * i) u2)) (u3) (u4) (u5) (u6) pl ct ((headStep manner delay i x).nv) wd rl tl m tm delay td manner tn) ∧
      News s.heap L' h (S ++ (I, oI) :: [(pl, instObj 354 dxp), (ct, instObj 155 cdx)]) ∧ (∀ p ∈ (I, oI) :: [(pl, instObj 354 dxp), (ct, instObj 155 cdx)], ∀ q ∈ S, p.1 ≠ q.1) ∧
      RunInv w pl ct wd sd cdx ll dxp sl delay (headStep manner delay i x).W x.seen S)) ?_ ?_ (fun _ _ h => h)
    · refine post_abs ?_
      intro V hV
      have N4 : News s.heap L' _ (S₁ ++ (I, oI) :: [(pl, instObj 354 dxp), (ct, instObj 155 cdx)]) := news_sub N3 fun p hp => by
        rcases List.mem_append.mp hp with h | h
        · exact .tail _ (List.mem_append_left _ h)
        · rcases List.mem_cons.mp h with rfl | h
          · exact .head _
          · exact .tail _ (List.mem_append_right _ h)
      have D4 : ∀ p ∈ (I, oI) :: [(pl, instObj 354 dxp), (ct, instObj 155 cdx)], ∀ q ∈ S₁, p.1 ≠ q.1 := fun p hp q hq => by
        rcases List.mem_cons.mp hp with rfl | hp
        · exact (hSI q hq).symm
        · exact HD p hp q hq
      clear N3
      rcases hlat : x.W.later with _ | t0
      · k_steps
        · refine look_run C ((hA.deeper _).less (by omega)) F3 N4 D4 HI X6 (.tail _ (.head _)) (.tail _ (.tail _ (.head _))) hok hcn ?_
          intro h5 tk5 S5 F5 N5 D5 H5
          k_steps
          refine hV _ _ ?_
          refine stop_out ?_
          rw [head_0 (by assumption)]
          refine' ⟨_, _, _, _, _, _, _, _, S5, rfl, rfl, ?F, N5, D5, H5⟩
          case F =>
            refine Fr.as (by assumption) ?_
            exact ch_eq (by walk_at "m_ch") (by walk_at "m_ch") (by exact rfl) (by exact rfl)
        · refine hV _ _ ?_
          refine stop_out ?_
          rw [head_none (by assumption) (by assumption)]
          refine' ⟨_, _, _, _, _, _, _, _, S₁, rfl, rfl, ?F, N4, D4, HI⟩
          case F =>
            refine Fr.as (by assumption) ?_
            exact ch_eq (by walk_at "m_ch") (by walk_at "m_ch") (by exact rfl) (by exact rfl)
        · refine hV _ _ ?_
          refine stop_out ?_
          rw [head_no (by assumption) (by assumption)]
          refine' ⟨_, _, _, _, _, _, _, _, S₁, rfl, rfl, ?F, N4, D4, HI⟩
          case F =>
            refine Fr.as (by assumption) ?_
            exact ch_eq (by walk_at "m_ch") (by walk_at "m_ch") (by exact rfl) (by exact rfl)
      · k_steps
        · refine look_run C ((hA.deeper _).less (by omega)) F3 N4 D4 HI X6 (.tail _ (.head _)) (.tail _ (.tail _ (.head _))) hok hcn ?_
          intro h5 tk5 S5 F5 N5 D5 H5
          k_steps
          refine hV _ _ ?_
          refine stop_out ?_
          rw [head_0 (by assumption)]
          refine' ⟨_, _, _, _, _, _, _, _, S5, rfl, rfl, ?F, N5, D5, H5⟩
          case F =>
            refine Fr.as (by assumption) ?_
            exact ch_eq (by walk_at "m_ch") (by walk_at "m_ch") (by exact rfl) (by exact rfl)
        · refine look_run C ((hA.deeper _).less (by omega)) F3 N4 D4 HI X6 (.tail _ (.head _)) (.tail _ (.tail _ (.head _))) hok hcn ?_
          intro h5 tk5 S5 F5 N5 D5 H5
          k_steps
          · refine hV _ _ ?_
            refine stop_out ?_
            rw [head_hitT (by assumption) (by assumption) hlat (by assumption) (by assumption)]
            refine' ⟨_, _, _, _, _, _, _, _, S5, rfl, rfl, ?F, by assumption, D5, H5⟩
            case F =>
              refine Fr.as (by assumption) ?_
              exact ch_eq (by walk_at "m_ch") (by walk_at "m_ch") (by exact rfl) (by exact rfl)
          · refine hV _ _ ?_
            refine stop_out ?_
            rw [head_hitF (by assumption) (by assumption) hlat (by assumption) (by assumption)]
            refine' ⟨_, _, _, _, _, _, _, _, S5, rfl, rfl, ?F, by assumption, D5, H5⟩
            case F =>
              refine Fr.as (by assumption) ?_
              exact ch_eq (by walk_at "m_ch") (by walk_at "m_ch") (by exact rfl) (by exact rfl)
        · refine hV _ _ ?_
          refine stop_out ?_
          rw [head_miss (by assumption) (by assumption) (by omega)]
          refine' ⟨_, _, _, _, _, _, _, _, S₁, rfl, rfl, ?F, N4, D4, HI⟩
          case F =>
            refine Fr.as (by assumption) ?_
            exact ch_eq (by walk_at "m_ch") (by walk_at "m_ch") (by exact rfl) (by exact rfl)
        · refine hV _ _ ?_
          refine stop_out ?_
          rw [head_no (by assumption) (by assumption)]
          refine' ⟨_, _, _, _, _, _, _, _, S₁, rfl, rfl, ?F, N4, D4, HI⟩
          case F =>
            refine Fr.as (by assumption) ?_
            exact ch_eq (by walk_at "m_ch") (by walk_at "m_ch") (by exact rfl) (by exact rfl)
    · rintro fl s' ⟨h, tk, u1, u2, u3, u4, u5, u6, S, rfl, rfl, FA, NA, DA, HA⟩
      clear F3 N3 F₂ N₂ F₁ N₁
      k_steps
      refine stop_out ?_
      refine for_S (h₀ := s.heap) ?_ (by intro _; rfl)
      k_steps
      have hyok : (headStep manner delay i x).W.Ok (cntLt rows i) := head_ok hok
      generalize hy : headStep manner delay i x = yy at HA FA hyok
      refine ForGo.mk _ S ((I, oI) :: [(pl, instObj 354 dxp), (ct, instObj 155 cdx)]) [tl] lots.length _ (fun j mm S => ∃ (u1 u2 : Tok) (u3 u4 u5 u6 : Option Value), mm = (rmap (some (.int i u1)) (some (.int (1125 * i) u2)) (u3) (u4) (u5) (u6) pl ct (yy.nv) wd rl tl m tm delay td manner tn) ∧ (∀ p ∈ (I, oI) :: [(pl, instObj 354 dxp), (ct, instObj 155 cdx)], ∀ q ∈ S, p.1 ≠ q.1) ∧
          RunInv w pl ct wd sd cdx ll dxp sl delay ((lots.take j).foldl (toldStep delay i) yy.W) x.seen S) FA NA (SrcOk.lst tvs lots.length (Paired.length ht) rfl (htl.at fun o e => FA.keep _ _ e)) ?_ (exI6 u1 u2 u3 u4 u5 u6 ⟨rfl, DA, HA⟩) ?_ ?_
      · intro a ha
        rw [List.mem_singleton.mp ha]
        obtain ⟨o, e, _⟩ := id htl
        exact .inl ⟨o, e⟩
      · rintro j v m₁ S₁ J oJ h₁ tk₁ hj hv hJ9 F₁ N₁ hSJ hZJ hJs U9 hU9
        refine exE6 hJ9 ?_
        clear hJ9
        rintro u1 u2 u3 u4 u5 u6 hJ9
        refine andE3 hJ9 ?_
        clear hJ9
        rintro rfl HD HI
        obtain ⟨l, hl, ta, nt, t1, nl, nvs, rfl, hta, hnl, hns⟩ := Paired.get' ht hv
        clear FA NA
        refine assign2 rfl F₁ N₁ ⟨_, F₁.keep _ _ hta, rfl, _, rfl⟩ rfl rfl rfl ?_
        intro h₂ tk₂ F₂ N₂
        clear F₁ N₁
        have hmem : l ∈ lots := List.mem_of_getElem? hl
        k_steps
        · refine told_run C ((hA.deeper _).less (by omega)) F₂ (news_in N₂) (disj_in hSJ HD) HI X6 (.tail _ (.tail _ (.head _))) (.tail _ (.tail _ (.tail _ (.head _)))) (told_all hyok) hcn hnl hns (B.ne l hmem) (hl64 l hmem) ?_
          intro h5 tk5 S5 F5 N5 D5 H5
          clear F₂ N₂
          k_steps
          refine hU9 _ _ ?_
          refine TurnEnd.mk S5 (by assumption) (news_out (by assumption)) (fun q hq => (D5 _ (.head _) q hq).symm) (exI6 u1 u2 (some (.int l.1 t1)) (some (.ref nl)) u5 u6 ⟨?_, fun p hp => D5 p (.tail _ hp), ?_⟩)
          · exact ch_eq (by walk_at "m_ch") (by walk_at "m_ch") (by exact rfl) (by exact rfl)
          · rw [told_take hl, toldStep, if_pos (by assumption)]
            exact H5
        · refine hU9 _ _ ?_
          refine TurnEnd.mk S₁ F₂ N₂ hSJ (exI6 u1 u2 (some (.int l.1 t1)) (some (.ref nl)) u5 u6 ⟨?_, HD, ?_⟩)
          · exact ch_eq (by walk_at "m_ch") (by walk_at "m_ch") (by exact rfl) (by exact rfl)
          · rw [told_take hl, toldStep, if_neg (by assumption)]
            exact HI
      · rintro m₁ S₁ h₁ tk₁ hJ9 F₁ N₁
        refine exE6 hJ9 ?_
        clear hJ9
        rintro u1 u2 u3 u4 u5 u6 hJ9
        refine andE3 hJ9 ?_
        clear hJ9
        rintro rfl HD HI
        rw [List.take_of_length_le (Nat.le_refl _)] at HI
        clear FA NA
        have hwok : (lots.foldl (toldStep delay i) yy.W).Ok (cntLt rows i) := told_all hyok
        generalize hww : lots.foldl (toldStep delay i) yy.W = ww at HI hwok
        k_steps
        refine stop_out ?_
        refine for_S (h₀ := s.heap) ?_ (by intro _; rfl)
        k_steps
        refine ForGo.mk _ S₁ ((I, oI) :: [(pl, instObj 354 dxp), (ct, instObj 155 cdx)]) [rl] rows.length _ (fun j mm S => ∃ (u1 u2 : Tok) (u3 u4 u5 u6 : Option Value), mm = (rmap (some (.int i u1)) (some (.int (1125 * i) u2)) (u3) (u4) (u5) (u6) pl ct (yy.nv) wd rl tl m tm delay td manner tn) ∧ (∀ p ∈ (I, oI) :: [(pl, instObj 354 dxp), (ct, instObj 155 cdx)], ∀ q ∈ S, p.1 ≠ q.1) ∧
            RunInv w pl ct wd sd cdx ll dxp sl delay ((rows.take j).foldl (sendStep i) ww) x.seen S) F₁ N₁ (SrcOk.lst rvs rows.length (Paired.length hr) rfl (hrl.at fun o e => F₁.keep _ _ e)) ?_ (exI6 u1 u2 u3 u4 u5 u6 ⟨rfl, HD, HI⟩) ?_ ?_
        · intro a ha
          rw [List.mem_singleton.mp ha]
          obtain ⟨o, e, _⟩ := id hrl
          exact .inl ⟨o, e⟩
        · clear F₁ N₁
          rintro j v m₁ S₁ J oJ h₁ tk₁ hj hv hJ9 F₁ N₁ hSJ hZJ hJs U9 hU9
          refine exE6 hJ9 ?_
          clear hJ9
          rintro u1 u2 u3 u4 u5 u6 hJ9
          refine andE3 hJ9 ?_
          clear hJ9
          rintro rfl HD HI
          obtain ⟨r, hrw, ta, nt, t1, t2, fl, rfl, hta, hfl⟩ := Paired.get' hr hv
          have hjok : ((rows.take j).foldl (sendStep i) ww).Ok (cntLt rows i + ((rows.take j).filter fun r => decide (r.1 = (i : Int))).length) := send_all hwok fun r hr => B.sz r (List.mem_of_mem_take hr)
          have hstep : (rows.take (j + 1)).foldl (sendStep i) ww = sendStep i ((rows.take j).foldl (sendStep i) ww) r := send_take hrw
          generalize (rows.take j).foldl (sendStep i) ww = wj at HI hjok hstep
          have hnj : cntLt rows i + ((rows.take j).filter fun r => decide (r.1 = (i : Int))).length ≤ 60 + 60 := by
            have e1 := List.length_filter_le (fun r : Row => decide (r.1 = (i : Int))) (rows.take j)
            have e2 := List.length_take_le j rows
            have e3 := List.length_take_le' j rows
            omega
          generalize cntLt rows i + ((rows.take j).filter fun r => decide (r.1 = (i : Int))).length = nj at hjok hnj
          refine assign3 rfl F₁ N₁ ⟨_, F₁.keep _ _ hta, rfl, _, rfl⟩ rfl rfl rfl rfl ?_
          intro h₂ tk₂ F₂ N₂
          clear F₁ N₁
          have N3 := news_in N₂
          have D3 := disj_in (p := (J, oJ)) hSJ HD
          clear N₂
          refine RunInv.open X6 N3 HI (.tail _ (.tail _ (.head _))) (.tail _ (.tail _ (.tail _ (.head _)))) D3 ?_
          intro ow os oc op kvs lvs svs c1 c2 blk NO AP how hos hps hoc hop hlv hsv hoff DZ
          have hop' := hop
          obtain ⟨p0, p1, p2, p3, p4, p5, p6, p7, p8, p9, p10, p11, p12, p13, p14, p15, p16, pv0, pv1, vn, va, vl, vt, vr, vs, vg, vf, vu, vk, vw, vh, ve, vi⟩ := hop
          have hkl : kvs.length ≤ 100000 := by
            have e1 := hps.length
            have e2 := hjok.len
            have e3 := hnj
            omega
          k_steps
          · refine take_run C ((hA.deeper _).less (by omega)) F₂ NO AP hop' ?_
            intro h5 tk5 op5 t5 F5 N5 hop
            clear F₂ NO N3 hop'
            have hop5 := hop
            obtain ⟨p0, p1, p2, p3, p4, p5, p6, p7, p8, p9, p10, p11, p12, p13, p14, p15, p16, pv0, pv1, vn, va, vl, vt, vr, vs, vg, vf, vu, vk, vw, vh, ve, vi⟩ := hop
            dsimp only
            k_steps
            refine sent_run (p := ⟨wj.nx, 1125 * (i : Int), r.2.1, r.2.2⟩) C ((hA.deeper _).less (by omega)) (by assumption) (by assumption) AP hop5 hos hkl hfl ?_
            intro px pdx po h6 tk6 op6 os6 F6 N6 hop6 hos6 hpo AP6 off1 off2 off3
            clear F5 N5 hop5
            have hpo' := hpo
            have hoc' := hoc
            obtain ⟨z0, z1, z2, z3, z4, z5, w0, w1, w2⟩ := hpo
            obtain ⟨r0, r1, r2, r3, r4, r5, rv0, rv1, rv2, rv3, rv4, rv5⟩ := hoc
            dsimp only
            k_steps
            · have hk : r.2.2 = true := by assumption
              refine flight_run C ((hA.deeper _).less (by omega)) F6 N6 AP6 hoc' ?_
              intro h7 tk7 oc7 F7 N7 hoc7
              obtain ⟨S7, N8, D8, H8⟩ := RunInv.sent (i := i) (r := r) N7 AP6 off3 how hjok hos6 hps hpo' hop6 (by rw [if_pos hk]; exact hoc7) hlv hsv hoff DZ (by assumption)
              clear F6 N6 N7
              k_steps
              refine hU9 _ _ ?_
              refine TurnEnd.mk S7 (by assumption) (news_out (by assumption)) (fun q hq => (D8 _ (.head _) q hq).symm) (exI6 u1 u2 (some (.int r.1 t1)) u4 (some (.int r.2.1 t2)) (some (.ref fl)) ⟨?_, fun p hp => D8 p (.tail _ hp), by rw [hstep]; exact H8⟩)
              · exact ch_eq (by walk_at "m_ch") (by walk_at "m_ch") (by exact rfl) (by exact rfl)
            · have hk : r.2.2 = false := by assumption
              obtain ⟨S7, N8, D8, H8⟩ := RunInv.sent (i := i) (r := r) N6 AP6 off3 how hjok hos6 hps hpo' hop6 (by rw [if_neg (by rw [hk]; decide)]; exact hoc') hlv hsv hoff DZ (by assumption)
              refine hU9 _ _ ?_
              refine TurnEnd.mk S7 (by assumption) (news_out (by assumption)) (fun q hq => (D8 _ (.head _) q hq).symm) (exI6 u1 u2 (some (.int r.1 t1)) u4 (some (.int r.2.1 t2)) (some (.ref fl)) ⟨?_, fun p hp => D8 p (.tail _ hp), by rw [hstep]; exact H8⟩)
              · exact ch_eq (by walk_at "m_ch") (by walk_at "m_ch") (by exact rfl) (by exact rfl)
          · refine hU9 _ _ ?_
            refine TurnEnd.mk S₁ F₂ (news_out N3) hSJ (exI6 u1 u2 (some (.int r.1 t1)) u4 (some (.int r.2.1 t2)) (some (.ref fl)) ⟨?_, HD, ?_⟩)
            · exact ch_eq (by walk_at "m_ch") (by walk_at "m_ch") (by exact rfl) (by exact rfl)
            · rw [hstep, sendStep, if_neg (by assumption)]
              exact HI
        · clear F₁ N₁
          rintro m₁ S₁ h₁ tk₁ hJ9 F₁ N₁
          refine exE6 hJ9 ?_
          clear hJ9
          rintro u1 u2 u3 u4 u5 u6 hJ9
          refine andE3 hJ9 ?_
          clear hJ9
          rintro rfl HD HI
          rw [List.take_of_length_le (Nat.le_refl _)] at HI
          refine RunInv.open X6 N₁ HI (.tail _ (.head _)) (.tail _ (.tail _ (.head _))) HD ?_
          intro ow os oc op kvs lvs svs c1 c2 blk NO AP how hos hps hoc hop hlv hsv hoff DZ
          clear N₁
          have hoc' := hoc
          obtain ⟨r0, r1, r2, r3, r4, r5, rv0, rv1, rv2, rv3, rv4, rv5⟩ := hoc
          obtain ⟨wt1, wt2, hw⟩ := how
          have hsl : svs.length = i := by rw [hsv.length, ← hx, seen_len]
          k_steps
          rename_i D9 _ F9 N9 l9
          obtain ⟨b1, b2, b3, b4, b5, b6, b7, b8, b9⟩ := l9
          have zp := DZ _ (.tail _ (.head _))
          have zc := DZ _ (.tail _ (.tail _ (.head _)))
          refine append_head (D := sl) F9 (news_of N9 (.tail _ (.tail _ (.tail _ (.tail _ (.tail _ (.tail _ (.tail _ (.tail _ (.head _))))))))) (news_of N9 (.head _) (news_of N9 (.tail _ (.head _)) (news_of N9 (.tail _ (.tail _ (.head _))) (news_of N9 (.tail _ (.tail _ (.tail _ (.head _)))) (news_of N9 (.tail _ (.tail _ (.tail _ (.tail _ (.head _))))) (news_of N9 (.tail _ (.tail _ (.tail _ (.tail _ (.tail _ (.head _)))))) (news_of N9 (.tail _ (.tail _ (.tail _ (.tail _ (.tail _ (.tail _ (.head _))))))) (news_of N9 (.tail _ (.tail _ (.tail _ (.tail _ (.tail _ (.tail _ (.tail _ (.head _)))))))) (news_sub N9 fun p hp => .tail _ (.tail _ (.tail _ (.tail _ (.tail _ (.tail _ (.tail _ (.tail _ (.tail _ hp))))))))))))))))))
            (dC (Nat.ne_of_gt b8) (dC zp.2.2.2.2.2.1 (dC zc.2.2.2.2.2.1 (dC X6.e1 (dC X6.b4 (dC X6.c3 (dC X6.a5 (dC X6.d2 fun p hp => (List.mem_append.mp hp).elim (fun h => (hoff p h).2.2.2.2.2) fun h => (DZ p h).2.2.2.2.2.1)))))))) ?_ (hsz := by rw [List.size_toArray, hsl]; exact Nat.le_trans (Nat.le_of_lt hi) (Nat.le_trans hm (by decide)))
          intro h5 F5 N5
          rw [List.push_toArray] at N5
          clear F9 N9
          obtain ⟨S7, N7, D7, H7⟩ := RunInv.saw (ab := (_, _)) (news_of N5 (.tail _ (.tail _ (.head _))) (news_of N5 (.tail _ (.tail _ (.tail _ (.head _)))) (news_of N5 (.tail _ (.tail _ (.tail _ (.tail _ (.head _))))) (news_of N5 (.tail _ (.tail _ (.tail _ (.tail _ (.tail _ (.head _)))))) (news_of N5 (.tail _ (.tail _ (.tail _ (.tail _ (.tail _ (.tail _ (.head _))))))) (news_of N5 (.tail _ (.tail _ (.tail _ (.tail _ (.tail _ (.tail _ (.tail _ (.head _)))))))) (news_of N5 (.tail _ (.tail _ (.tail _ (.tail _ (.tail _ (.tail _ (.tail _ (.tail _ (.head _))))))))) (news_of N5 (.head _) (news_sub N5 fun p hp => .tail _ (.tail _ (.tail _ (.tail _ (.tail _ (.tail _ (.tail _ (.tail _ (.tail _ hp)))))))))))))))))
            (news_of N5 (.tail _ (.head _)) News.nil) ⟨Nat.ne_of_gt b6, Nat.ne_of_gt b4, Nat.ne_of_gt b5, Nat.ne_of_gt b7, Nat.ne_of_gt b3, Nat.ne_of_gt b8⟩ (fun p hp => Nat.ne_of_lt (kst_ltOf b9 p (List.mem_append_right _ hp))) ⟨wt1, wt2, hw⟩ hos hps hoc' hop hlv hsv hoff DZ
          clear N5
          k_steps
          have hys : yy.seen = x.seen := by rw [← hy, head_seen]
          have hrun : runs manner delay rows lots (i + 1) = ⟨rows.foldl (sendStep i) ww, yy.nv, x.seen ++ [((rows.foldl (sendStep i) ww).nr.win, (rows.foldl (sendStep i) ww).nr.inf)]⟩ := by
            rw [runs_succ, hx, ← hww, ← hys, ← hy]; rfl
          refine hU9 _ _ ?_
          refine TurnEnd.mk S7 (by assumption) (news_out (by assumption)) (fun q hq => (D7 _ (.head _) q hq).symm) (exI6 (some (.int i u1)) (some (.int (1125 * i) u2)) u3 u4 u5 u6 ⟨?_, ?_, fun p hp => D7 p (.tail _ hp)⟩)
          · rw [hrun]
          · rw [hrun]
            exact H7
  · rintro m₁ S₁ h₁ tk₁ hJ9 F₁ N₁
    refine exE6 hJ9 ?_
    clear hJ9
    rintro u1 u2 u3 u4 u5 u6 hJ9
    refine andE3 hJ9 ?_
    clear hJ9
    rintro rfl HI HD
    have hok : (runs manner delay rows lots m).W.Ok (cntLt rows m) := (run_inv B m).ok
    have hcn : cntLt rows m ≤ 60 := Nat.le_trans (cnt_le rows m) hr8
    clear F2 N2
    k_steps
    · refine look_run C ((hA.deeper _).less (by omega)) F₁ N₁ HD HI X6 (.head _) (.tail _ (.head _)) hok hcn ?_
      intro h5 tk5 S5 F5 N5 D5 H5
      clear F₁ N₁
      k_steps
      rename_i D9 _ F9 N9 l9
      have he : runEnd manner delay rows lots m = { runs manner delay rows lots m with W := look delay (1125 * m) (runs manner delay rows lots m).W } := if_pos (by assumption)
      rw [he] at hR
      exact hR D9 _ wd pl ct cdx ll dxp sd sl S5 _ _ lo (led_of F9 N9 fun p hp => hp) H5
    · rename_i D9 _ F9 N9 l9
      have he : runEnd manner delay rows lots m = runs manner delay rows lots m := if_neg (by assumption)
      rw [he] at hR
      exact hR D9 _ wd pl ct cdx ll dxp sd sl S₁ _ _ lo (led_of F9 N9 fun p hp => hp) HI
end
section
set_option maxHeartbeats 1000000
theorem neL {a b : Addr} (h : @LT.lt Nat _ a b) : NeA a b := Nat.ne_of_lt h
theorem neG {a b : Addr} (h : @LT.lt Nat _ a b) : NeA b a := Nat.ne_of_gt h
theorem news_mid {b h : Heap} {L : Addr} {pre post : List (Addr × Obj)} {p : Addr × Obj} (N : News b L h (pre ++ p :: post)) : News b L h ([p] ++ (pre ++ post)) := fun q hq => N q (by
  rcases List.mem_cons.mp hq with rfl | hq
  · exact List.mem_append_right _ (.head _)
  · have hq : q ∈ pre ++ post := hq
    rcases List.mem_append.mp hq with hq | hq
    · exact List.mem_append_left _ hq
    · exact List.mem_append_right _ (.tail _ hq))
theorem news_mid' {b h : Heap} {L : Addr} {pre post : List (Addr × Obj)} {p : Addr × Obj} (N : News b L h ([p] ++ (pre ++ post))) : News b L h (pre ++ p :: post) := fun q hq => N q (by
  rcases List.mem_append.mp hq with hq | hq
  · exact List.mem_append_right [p] (List.mem_append_left post hq)
  · rcases List.mem_cons.mp hq with rfl | hq
    · exact .head _
    · exact List.mem_append_right [p] (List.mem_append_right pre hq))
section
variable {w : World} {A : Around} {E : Value → Shared → Prop} {s : Shared} {b : Heap} {L : Addr} {mm : Str → Option Value} {mean mg mb} {news : List (Addr × Obj)} {g : Obj → List (Addr × Obj)}
theorem take_law {Q : Value → Shared → Prop} {bx bl c n : Nat} {k m : Int} {tk tm : Tok} {vs : List Value} {ns : List Int} (C : Cx w mean mg mb b) (hA : Rm A 0) (F : Fr b L s.heap mm) (N : News b L s.heap news) (U : UpdF bx (PySem.W.listOf [Value.ref bl, .int k tk].toArray c) news g)
    (hbl : (bl, PySem.W.listOf vs.toArray n) ∈ news) (hbn : bl ≠ bx) (hi : IntsAre vs ns) (hlen : ns.length < 64) (hk0 : 0 ≤ k) (hk1 : k ≤ 1000) (hm : 0 < m) (hm1 : m ≤ 1000)
    (h : ∀ r t tk' c' h' tk, Fr b L h' mm → News b L h' (g (PySem.W.listOf [Value.ref bl, .int (k + 1) tk'].toArray c')) → 0 ≤ r → r < m → Q (.int r t) { s with heap := h', toks := tk }) :
    wpAny (model PRG w) A (call (.ref 365) [.ref bx, .int m tm]) Q E s := by
  obtain ⟨pre, post, rfl, hg, h1, h2⟩ := U.split
  obtain ⟨g', hgs, LD, st, hrest, back⟩ := shift _ _ F (news_mid N) (disj1 fun p hp => (List.mem_append.mp hp).elim (h1 p) (h2 p))
  have hbl' : (bl, PySem.W.listOf vs.toArray n) ∈ pre ++ post := by
    rcases List.mem_append.mp hbl with hb | hb
    · exact List.mem_append_left _ hb
    · rcases List.mem_cons.mp hb with hb | hb
      · exact absurd (congrArg Prod.fst hb) hbn
      · exact List.mem_append_right _ hb
  refine wpAny_call (law_take_spec (C.keeps st) hA LD hgs ⟨_, hrest _ hbl', rfl, _, rfl⟩ hi hlen hk0 hk1 hm hm1 ?_)
  intro r t tk' c' v h' tk LD' hr0 hr1 hv
  subst hv
  obtain ⟨F', N', off⟩ := back _ _ LD'
  exact h r t tk' c' h' tk F' (by rw [hg]; exact news_mid' N') hr0 hr1
/-- a list, changed by an append -/
theorem append_law {Q : Value → Shared → Prop} {D n : Nat} {vs : List Value} {x : Value} (F : Fr b L s.heap mm) (N : News b L s.heap news) (U : UpdF D (PySem.W.listOf vs.toArray n) news g) (hsz : vs.length ≤ 10000)
    (h : ∀ h' c', Fr b L h' mm → News b L h' (g (PySem.W.listOf (vs ++ [x]).toArray c')) → Q .none { s with heap := h' }) : wpAny (model PRG w) A (call (.builtin "list.append") [.ref D, x]) Q E s := by
  obtain ⟨pre, post, rfl, hg, h1, h2⟩ := U.split
  have hN := N (D, PySem.W.listOf vs.toArray n) (List.mem_append_right _ (.head _))
  refine append_at (hsz := by rw [List.size_toArray]; exact Nat.le_trans hsz (by decide)) hN.1 fun h' hs ho' => ?_
  rw [List.push_toArray] at ho'
  refine h h' (n + 1) (F.change hs hN.2.1 hN.2.2) ?_
  rw [hg]
  exact N.setAt h1 h2 hs ho'
end
theorem Fr.put {b h : Heap} {L : Addr} {m : Str → Option Value} {k : Str} {v : Option Value} (F : Fr b L h m) (e : m k = v) : Fr b L h (fun y => if y = k then v else m y) := by
  have : (fun y => if y = k then v else m y) = m := by
    funext y
    by_cases q : y = k
    · rw [if_pos q, q, e]
    · rw [if_neg q]
  rw [this]; exact F
/-- a walk's cut: of the heap only what is said -/
theorem cut {M : Model} {α : Type} {A : Around} {s : Shared} {T : Sem α} {Q : α → Shared → Prop} {E : Value → Shared → Prop} {h₀ : Heap} {tk₀ : Nat} (P : Heap → Prop) (hp : P h₀) (h : ∀ h tk, P h → wpAny M A T Q E { s with heap := h, toks := tk }) :
    wpAny M A T Q E { s with heap := h₀, toks := tk₀ } := h _ _ hp
end
section
set_option maxHeartbeats 1000000
def RowB (blk : List (Addr × Obj)) (v : Value) (r : Row) : Prop := ∀ h : Heap, (∀ p ∈ blk, h.get? p.1 = some p.2) → RowT h v r
theorem RowB.mono {blk blk' : List (Addr × Obj)} {v : Value} {r : Row} (x : RowB blk v r) (h : ∀ p ∈ blk, p ∈ blk') : RowB blk' v r := fun g hg => x g fun p hp => hg p (h p hp)
/-- a lot while it is made: its tuple and its list of numbers -/
structure LotD where
  t : Addr
  nl : Addr
  nt : Nat
  t1 : Tok
  c : Nat
  mom : Int
  nvs : List Value
  ns : List Int
def LotD.tup (d : LotD) : Addr × Obj := (d.t, tupO [.int d.mom d.t1, .ref d.nl] d.nt)
def LotD.lst (d : LotD) : Addr × Obj := (d.nl, PySem.W.listOf d.nvs.toArray d.c)
def dts (ds : List LotD) : List (Addr × Obj) := ds.map LotD.tup
def dls (ds : List LotD) : List (Addr × Obj) := ds.map LotD.lst
def dvs (ds : List LotD) : List Value := ds.map fun d => Value.ref d.t
theorem dvs_len (ds : List LotD) : (dvs ds).length = ds.length := List.length_map ..
theorem dvs_snoc (ds : List LotD) (d : LotD) : dvs (ds ++ [d]) = dvs ds ++ [Value.ref d.t] := by unfold dvs; rw [List.map_append]; rfl
structure LotsApt (bx tl cn : Addr) (Z : List (Addr × Obj)) (ds : List LotD) : Prop where
  bt : ∀ p ∈ dts ds ++ dls ds, p.1 ≠ bx ∧ p.1 ≠ tl ∧ @LT.lt Nat _ cn p.1
  nd : (ds.map (·.nl)).Nodup
  ap : ∀ d ∈ ds, ∀ p ∈ dts ds ++ Z, p.1 ≠ d.nl
theorem dts_snoc (ds : List LotD) (d : LotD) : dts (ds ++ [d]) = dts ds ++ [d.tup] := by unfold dts; rw [List.map_append]; rfl
theorem dls_snoc (ds : List LotD) (d : LotD) : dls (ds ++ [d]) = dls ds ++ [d.lst] := by unfold dls; rw [List.map_append]; rfl
theorem lots_snoc {b h : Heap} {L : Addr} {ds : List LotD} {d : LotD} (N : News b L h (dts ds ++ dls ds)) (Nt : News b L h [d.tup, d.lst]) : News b L h (dts (ds ++ [d]) ++ dls (ds ++ [d])) := by
  rw [dts_snoc, dls_snoc]
  intro p hp
  rcases List.mem_append.mp hp with hp | hp
  · rcases List.mem_append.mp hp with hp | hp
    · exact N p (List.mem_append_left _ hp)
    · rw [List.mem_singleton.mp hp]; exact Nt _ (.head _)
  · rcases List.mem_append.mp hp with hp | hp
    · exact N p (List.mem_append_right _ hp)
    · rw [List.mem_singleton.mp hp]; exact Nt _ (.tail _ (.head _))
theorem lt_cons {D : Addr} {p : Addr × Obj} {l : List (Addr × Obj)} (h : @LT.lt Nat _ p.1 D) (t : ∀ p ∈ l, p.1 < D) : ∀ q ∈ p :: l, q.1 < D := fun q hq => by
  rcases List.mem_cons.mp hq with rfl | hq
  · exact h
  · exact t q hq
theorem LotsApt.nil {bx tl cn : Addr} {Z : List (Addr × Obj)} : LotsApt bx tl cn Z [] := ⟨fun _ h => (nomatch h), .nil, fun _ h => (nomatch h)⟩
theorem LotsApt.snoc {bx tl cn : Addr} {Z : List (Addr × Obj)} {ds : List LotD} {d : LotD} (P : LotsApt bx tl cn Z ds) (h0 : @LT.lt Nat _ cn d.nl) (h1 : @LT.lt Nat _ bx d.nl) (h2 : @LT.lt Nat _ tl d.nl) (h3 : ∀ p ∈ Z, p.1 < d.nl) (h4 : ∀ p ∈ dts ds ++ dls ds, p.1 < d.nl) (h5 : @LT.lt Nat _ d.nl d.t) : LotsApt bx tl cn Z (ds ++ [d]) := by
  have k1 : ∀ e ∈ ds, e.nl < d.nl := fun e he => h4 e.lst (List.mem_append_right _ (List.mem_map_of_mem he))
  have k2 : ∀ e ∈ ds, e.t < d.nl := fun e he => h4 e.tup (List.mem_append_left _ (List.mem_map_of_mem he))
  refine ⟨?_, ?_, ?_⟩
  · rw [dts_snoc, dls_snoc]
    intro p hp
    rcases List.mem_append.mp hp with hp | hp
    · rcases List.mem_append.mp hp with hp | hp
      · exact P.bt p (List.mem_append_left _ hp)
      · rw [List.mem_singleton.mp hp]; exact ⟨Nat.ne_of_gt (Nat.lt_trans h1 h5), Nat.ne_of_gt (Nat.lt_trans h2 h5), Nat.lt_trans h0 h5⟩
    · rcases List.mem_append.mp hp with hp | hp
      · exact P.bt p (List.mem_append_right _ hp)
      · rw [List.mem_singleton.mp hp]; exact ⟨Nat.ne_of_gt h1, Nat.ne_of_gt h2, h0⟩
  · rw [List.map_append, List.nodup_append]
    refine ⟨P.nd, by simp, fun a ha c hc => ?_⟩
    obtain ⟨e, he, rfl⟩ := List.mem_map.mp ha
    rw [List.map_cons, List.map_nil, List.mem_singleton] at hc
    rw [hc]; exact Nat.ne_of_lt (k1 e he)
  · intro e he p hp
    rw [dts_snoc] at hp
    rcases List.mem_append.mp he with he | he
    · rcases List.mem_append.mp hp with hp | hp
      · rcases List.mem_append.mp hp with hp | hp
        · exact P.ap e he p (List.mem_append_left _ hp)
        · rw [List.mem_singleton.mp hp]; exact Nat.ne_of_gt (Nat.lt_trans (k1 e he) h5)
      · exact P.ap e he p (List.mem_append_right _ hp)
    · rw [List.mem_singleton.mp he]
      rcases List.mem_append.mp hp with hp | hp
      · rcases List.mem_append.mp hp with hp | hp
        · obtain ⟨e', he', rfl⟩ := List.mem_map.mp hp
          exact Nat.ne_of_lt (k2 e' he')
        · rw [List.mem_singleton.mp hp]; exact Nat.ne_of_gt h5
      · exact Nat.ne_of_lt (h3 p hp)
theorem assign_cell {M : Model} {A : Around} {E : Value → Shared → Prop} {s : Shared} {h₀ : Heap} {L a : Addr} {m : Str → Option Value} {cn : Str} {cs : Scope} {ccd : Value} {cl : List (Str × Addr)} {x : Str} {p : Pos} {v : Value} {Q : Unit → Shared → Prop} {news : List (Addr × Obj)} {g : Obj → List (Addr × Obj)} {c : Addr} {o : Obj} {v₀ : Option Value}
    (F : Fr h₀ L s.heap m) (N : News h₀ L s.heap news) (hc : cl.lookup x = some c) (U : UpdF c o news g) (hd : o.data = .cell v₀)
    (h : ∀ h' o', Fr h₀ L h' m → News h₀ L h' (g o') → o'.data = .cell (some v) → Q () { s with heap := h' })
    (hk : cs.kind = .function := by rfl) (hx : (envX cn cs L a ccd cl).kindOf x = some .cell := by rfl) : wpAny M A (assign (.Name x p) (envX cn cs L a ccd cl) v) Q E s :=
  wpAny_assign_Name (storeX_C F N hc U hd h hk hx)
def LotOk (rs : List Row) (i : Nat) (d : LotD) : Prop := IntsAre d.nvs d.ns ∧ d.ns.length ≤ i ∧ ∀ x ∈ d.ns, ∃ j : Nat, x = (j : Int) ∧ j < i ∧ ∃ r, rs[j]? = some r ∧ r.1 < d.mom
theorem LotOk.succ {rs : List Row} {i : Nat} {d : LotD} (h : LotOk rs i d) : LotOk rs (i + 1) d := ⟨h.1, Nat.le_succ_of_le h.2.1, fun x hx => by
  obtain ⟨j, e, hj, r⟩ := h.2.2 x hx; exact ⟨j, e, Nat.lt_succ_of_lt hj, r⟩⟩
theorem map_set_same {β : Type} {es : List LotD} {q : Nat} {d d' : LotD} (hd : es[q]? = some d) (f : LotD → β) (e : f d' = f d) : (es.set q d').map f = es.map f := by
  refine List.ext_getElem? fun j => ?_
  rw [List.getElem?_map, List.getElem?_map, List.getElem?_set]
  by_cases h : q = j
  · subst h
    rw [if_pos rfl, hd]
    obtain ⟨hlt, _⟩ := List.getElem?_eq_some_iff.mp hd
    rw [if_pos hlt]
    simp [e]
  · rw [if_neg h]
theorem lots_set {b h h' : Heap} {L bx tl cn : Addr} {Z : List (Addr × Obj)} {es : List LotD} {q : Nat} {d d' : LotD} (hd : es[q]? = some d) (e1 : d'.tup = d.tup) (e2 : d'.nl = d.nl) (P : LotsApt bx tl cn Z es) (N : News b L h (dts es ++ dls es)) (hs : Heap.SameBut d.nl h h')
    (ho : h'.get? d.nl = some (PySem.W.listOf d'.nvs.toArray d'.c)) : News b L h' (dts (es.set q d') ++ dls (es.set q d')) ∧ LotsApt bx tl cn Z (es.set q d') := by
  have m1 : dts (es.set q d') = dts es := map_set_same hd LotD.tup e1
  have m2 : (es.set q d').map (·.nl) = es.map (·.nl) := map_set_same hd (·.nl) e2
  have hdm : d ∈ es := List.mem_of_getElem? hd
  have old : ∀ e ∈ es.set q d', ∃ e0 ∈ es, e0.nl = e.nl := fun e he => by
    have : e.nl ∈ es.map (·.nl) := m2 ▸ List.mem_map_of_mem (f := (·.nl)) he
    obtain ⟨e0, h0, h1⟩ := List.mem_map.mp this
    exact ⟨e0, h0, h1⟩
  refine ⟨fun p hp => ?_, ?_, ?_, ?_⟩
  · rcases List.mem_append.mp hp with hp | hp
    · rw [m1] at hp
      have z := N p (List.mem_append_left _ hp)
      exact ⟨hs.extBut _ _ (P.ap d hdm p (List.mem_append_left _ hp)) z.1, z.2⟩
    · obtain ⟨e, he, rfl⟩ := List.mem_map.mp hp
      obtain ⟨j, hj⟩ := List.mem_iff_getElem?.mp he
      rw [List.getElem?_set] at hj
      by_cases hq : q = j
      · subst hq
        obtain ⟨hlt, _⟩ := List.getElem?_eq_some_iff.mp hd
        rw [if_pos rfl, if_pos hlt] at hj
        cases hj
        have z := N d.lst (List.mem_append_right _ (List.mem_map_of_mem hdm))
        show h'.get? d'.nl = some _ ∧ d'.nl ≠ L ∧ b.get? d'.nl = none
        rw [e2]
        exact ⟨ho, z.2⟩
      · rw [if_neg hq] at hj
        have z := N e.lst (List.mem_append_right _ (List.mem_map_of_mem (List.mem_of_getElem? hj)))
        refine ⟨hs.extBut _ _ (fun q' => ?_) z.1, z.2⟩
        obtain ⟨hlt, _⟩ := List.getElem?_eq_some_iff.mp hj
        have hj' : j < (es.map fun x : LotD => x.nl).length := by rw [List.length_map]; exact hlt
        refine hq (((List.getElem?_inj hj' P.nd).mp ?_).symm)
        rw [List.getElem?_map, List.getElem?_map, hj, hd]
        exact congrArg some q'
  · intro p hp
    rcases List.mem_append.mp hp with hp | hp
    · rw [m1] at hp; exact P.bt p (List.mem_append_left _ hp)
    · obtain ⟨e, he, rfl⟩ := List.mem_map.mp hp
      obtain ⟨e0, h0, h1⟩ := old e he
      have := P.bt e0.lst (List.mem_append_right _ (List.mem_map_of_mem h0))
      show e.nl ≠ bx ∧ e.nl ≠ tl ∧ @LT.lt Nat _ cn e.nl
      rw [← h1]; exact this
  · rw [m2]; exact P.nd
  · intro e he p hp
    obtain ⟨e0, h0, h1⟩ := old e he
    rw [m1] at hp
    rw [← h1]; exact P.ap e0 h0 p hp
theorem dvs_set {es : List LotD} {q : Nat} {d d' : LotD} (hd : es[q]? = some d) (e : d'.t = d.t) : dvs (es.set q d') = dvs es := map_set_same hd (fun d => Value.ref d.t) (congrArg Value.ref e)
theorem news_change {b h h' : Heap} {L D : Addr} {l : List (Addr × Obj)} (N : News b L h l) (hs : Heap.SameBut D h h') (hne : ∀ p ∈ l, p.1 ≠ D) : News b L h' l := fun p hp => ⟨hs.extBut _ _ (hne p hp) (N p hp).1, (N p hp).2⟩
theorem lots_addr {es : List LotD} {q : Nat} {d d' : LotD} (hd : es[q]? = some d) (e1 : d'.tup = d.tup) (e2 : d'.nl = d.nl) : ∀ p ∈ dts (es.set q d') ++ dls (es.set q d'), ∃ p0 ∈ dts es ++ dls es, p0.1 = p.1 := fun p hp => by
  have m1 : dts (es.set q d') = dts es := map_set_same hd LotD.tup e1
  have m2 : (es.set q d').map (·.nl) = es.map (·.nl) := map_set_same hd (·.nl) e2
  rcases List.mem_append.mp hp with hp | hp
  · rw [m1] at hp; exact ⟨p, List.mem_append_left _ hp, rfl⟩
  · obtain ⟨e, he, rfl⟩ := List.mem_map.mp hp
    have : e.nl ∈ es.map (·.nl) := m2 ▸ List.mem_map_of_mem (f := (·.nl)) he
    obtain ⟨e0, h0, h1⟩ := List.mem_map.mp this
    exact ⟨e0.lst, List.mem_append_right _ (List.mem_map_of_mem h0), h1⟩
def lotsOf (ds : List LotD) : List Lot := (ds.filter fun d => !d.nvs.isEmpty).map fun d => (d.mom, d.ns)
theorem lotsOf_succ {ds : List LotD} {i : Nat} {d : LotD} (hd : ds[i]? = some d) : lotsOf (ds.take (i + 1)) = lotsOf (ds.take i) ++ (if d.nvs.isEmpty = true then [] else [(d.mom, d.ns)]) := by
  unfold lotsOf
  rw [List.take_add_one, hd, List.filter_append, List.map_append]
  congr 1
  rw [Option.toList_some, List.filter_cons]
  cases d.nvs.isEmpty <;> rfl
def LotG (G : List (Addr × Obj)) (v : Value) (l : Lot) : Prop := ∀ h : Heap, (∀ p ∈ G, h.get? p.1 = some p.2) → LotT h v l
theorem LotG.mono {G G' : List (Addr × Obj)} {v : Value} {l : Lot} (x : LotG G v l) (h : ∀ p ∈ G, p ∈ G') : LotG G' v l := fun g hg => x g fun p hp => hg p (h p hp)
def LotB (G S : List (Addr × Obj)) (v : Value) (l : Lot) : Prop := LotG (S ++ G) v l
theorem LotB.mono {G S S' : List (Addr × Obj)} {v : Value} {l : Lot} (x : LotB G S v l) (h : ∀ p ∈ S, p ∈ S') : LotB G S' v l := LotG.mono x fun p hp => (List.mem_append.mp hp).elim (fun q => List.mem_append_left _ (h p q)) fun q => List.mem_append_right _ q
theorem ns_unique {h : Heap} {a : Addr} {m m' : Str → Option Value} (x : h.Ns a m) (y : h.Ns a m') : m = m' := by
  obtain ⟨o, es, ep, e, hd, _, f⟩ := x
  obtain ⟨o', es', ep', e', hd', _, f'⟩ := y
  rw [e] at e'; cases e'
  rw [hd] at hd'; cases hd'
  funext n
  rw [← f, ← f']
end
section
open PyProof.Rows.LCg
set_option maxHeartbeats 4000000
theorem keys_miss : typeLookup (.type "list") (Str.ofString "keys") = pure none := am_miss_of_fast (by decide +kernel)
theorem getAttrQ_miss_list {prog : Program} {w : World} {A : Around} {E : Value → Shared → Prop} {s : Shared} {a : Addr} {o : Obj} {xs : Array Value} {k : Nat} {name : Str} {Q : Option Value → Shared → Prop}
    (hx : s.heap.get? a = some o) (hc : o.cls = .type "list") (hdat : o.data = .seq xs k) (hd : o.dict = none) (hmiss : typeLookup (.type "list") name = pure none) (hname : (["__module__", "__name__", "__qualname__", "__doc__", "__annotations__"] : List Str).contains name = false) (hA : A.handled = none)
    (h : ∀ h' tk, s.heap.StaysIn h' → Q none { s with heap := h', toks := tk }) (hsz : name.length + 100 ≤ sizeLine := by size_fits) :
    wpAny (model prog w) A (getAttr? (.ref a) name) Q E s := by
  obtain ⟨c, dct, dat, sl⟩ := o
  simp only at hc hdat hd
  subst hc hdat hd
  obtain ⟨hp, g, d, tk, os⟩ := s
  have hT : ∀ tk', (⟨hp, g, d, tk', os⟩ : Shared).TypeIs (.ref a) "list" := fun _ => ⟨_, hx, rfl⟩
  have f1 := sub_AttributeError
  have f3 := F.slot_list_getattribute.lookup
  have f4 := F.slot_list_getattribute.bind (.ref a)
  have f5 := am_list_getattr_none
  unfold getAttr? getAttrBy? getAttrBy
  repeat (any_goals (first | assumption | exact hT _ | ((with_reducible show wpAny _ _ (call (Value.builtin "list.__getattribute__") _ _) _ _ _); refine call_meets F.slot_list_getattribute (hT _) am_entry_list_getattribute (F.args_list_getattribute_2 _ _) (meets_getattribute_miss_list a xs k sl name _ hmiss hname hsz) ⟨hx, hA, fun h' tk' e hx' => ?_⟩) | wp_step))
  obtain ⟨t', u', he⟩ := hx'.there
  show wpAny _ _ (getattributeRaised _ _ _ _ _ _ _) _ _ _
  unfold getattributeRaised
  repeat (any_goals (first | assumption | wp_step))
  exact h _ _ hx'.keeps
theorem upd_entry : entryFor table "dict.update.loop" = some Builtin.«dict.update.loop» := entryFor_of_tree (by kernel_rfl)
def KV (kv : Int × Value) (ab : Int × Int) : Prop := kv.1 = ab.1 ∧ ∃ t, kv.2 = .int ab.2 t
theorem pair_items {prog : Program} {w : World} {A : Around} {E : Value → Shared → Prop} {s : Shared} {t : Addr} {o : Obj} {vs : List Value} {n : Nat} {Q : List Value → Shared → Prop} (ho : s.heap.get? t = some o) (hc : o.cls = .type "tuple") (hd : o.data = .seq vs.toArray n) (h : Q vs s) :
    wpAny (model prog w) A (Builtin.Dict.pairItems (.ref t)) Q E s := by
  unfold Builtin.Dict.pairItems
  refine wpAny_bind (wpAny_typeOf (T := "tuple") ⟨o, ho, hc⟩ ?_)
  rw [if_pos (by decide)]
  refine wpAny_bind (wpAny_seqItems ho hd (wpAny_pure ?_))
  simpa using h
theorem upd_loop {w : World} {A : Around} {R : Result → Shared → Prop} {s : Shared} {base : Heap} {D I a : Addr} {vs : List Value} {abs : List (Int × Int)} (hA : A.handled = none) (hPA : PairsAt base vs abs) (hnd : (abs.map (·.1)).Nodup) (hlen : abs.length ≤ 1000)
    (ha : ∃ o, base.get? a = some o) (hD : base.get? D = none) (hI : base.get? I = none) (hDI : D ≠ I)
    (hR : ∀ h' tk kvs, base.StaysIn h' → h'.DictOf (PySem.intKind PRG w) D kvs → Paired KV kvs abs → R (.ok (.ret .none)) { s with heap := h', toks := tk }) :
    ∀ (k j : Nat) (h₁ : Heap) (tk : Nat) (kvs : List (Int × Value)) (ti : Tok), j + k = abs.length → h₁.IsListIter I a j → h₁.IsList a vs.toArray → base.StaysIn h₁ → h₁.DictOf (PySem.intKind PRG w) D kvs → Paired KV kvs (abs.take j) →
      codeAny (model PRG w) A (.builtin "dict.update.loop" ⟨[.ref D, .ref I, .int (j : Int) ti, .none], []⟩) R { s with heap := h₁, toks := tk } := by
  have haI : a ≠ I := fun e => by obtain ⟨o, ho⟩ := ha; rw [e, hI] at ho; cases ho
  have haD : a ≠ D := fun e => by obtain ⟨o, ho⟩ := ha; rw [e, hD] at ho; cases ho
  have hvl : vs.length = abs.length := hPA.length
  intro k
  induction k with
  | zero =>
    intro j h₁ tk kvs ti hj hit hl hb hd hp
    refine codeAny_builtin upd_entry ?_
    have W := Walks.list (prog := PRG) (w := w) (A := A.under (.builtin "dict.update.loop" ⟨[.ref D, .ref I, .int (j : Int) ti, .none], []⟩)) hA I a haI vs.toArray
    have hsz : vs.toArray.size = j := by rw [List.size_toArray]; omega
    rw [hsz] at W
    unfold Builtin.«dict.update.loop»
    dsimp only
    refine wpAny_bind (W.done _ _ _ ⟨hit, hl⟩ fun h₂ tk₂ hk₂ => ?_)
    dsimp only
    have hb2 : base.StaysIn h₂ := fun b o e => hk₂ b o (fun q => by rw [List.mem_singleton.mp q, hI] at e; cases e) (hb b o e)
    refine wpAny_bind (m := Builtin.Dict.addKeywords D []) (wpAny_pure ?_)
    refine wpAny_pure ?_
    refine hR _ _ kvs hb2 (Heap.dictOf_iff.mpr ?_) ?_
    · obtain ⟨o, ho, hd'⟩ := Heap.dictOf_iff.mp hd
      exact ⟨o, hk₂ _ _ (by simpa using hDI) ho, hd'⟩
    · rw [List.take_of_length_le (by omega)] at hp; exact hp
  | succ k ih =>
    intro j h₁ tk kvs ti hj hit hl hb hd hp
    refine codeAny_builtin upd_entry ?_
    have W := Walks.list (prog := PRG) (w := w) (A := A.under (.builtin "dict.update.loop" ⟨[.ref D, .ref I, .int (j : Int) ti, .none], []⟩)) hA I a haI vs.toArray
    unfold Builtin.«dict.update.loop»
    dsimp only
    refine wpAny_bind (W.item j _ _ _ (by rw [List.size_toArray]; omega) ⟨hit, hl⟩ fun v h₂ tk₂ hv hst₂ hk₂ => ?_)
    dsimp only
    have hb2 : base.StaysIn h₂ := fun b o e => hk₂ b o (fun q => by rw [List.mem_singleton.mp q, hI] at e; cases e) (hb b o e)
    have hd2 : h₂.DictOf (PySem.intKind PRG w) D kvs := Heap.dictOf_iff.mpr (by
      obtain ⟨o, ho, hd'⟩ := Heap.dictOf_iff.mp hd
      exact ⟨o, hk₂ _ _ (by simpa using hDI) ho, hd'⟩)
    rw [List.getElem?_toArray] at hv
    obtain ⟨ab, hab, t, nt, t1, t2, rfl, ht⟩ := Paired.get' hPA hv
    refine wpAny_bind (wpAny_holding (wpAny_bind (wpAny_tryCatch (pair_items (hb2 _ _ ht) rfl rfl ?_))))
    dsimp only
    have hkl : kvs.length = j := by rw [hp.length, List.length_take]; omega
    refine wpAny_holding (wpAny_dictSet_pairs (knd := PySem.intKind PRG w) (intKind_is _ _ _ _) hd2 (fun h₃ hd3 hs3 => ?_) (by rw [hkl]; exact Nat.le_trans (show j ≤ 1000 by omega) (by decide)))
    have hkeys : ∀ {kvs : List (Int × Value)} {abs : List (Int × Int)}, Paired KV kvs abs → kvs.map (·.1) = abs.map (·.1) := fun x => by
      induction x with
      | nil => rfl
      | cons a _ ih => rw [List.map_cons, List.map_cons, ih, a.1]
    have hnk : ab.1 ∉ kvs.map (·.1) := by
      rw [hkeys hp]
      intro hm
      obtain ⟨ab', h1, h2⟩ := List.mem_map.mp hm
      obtain ⟨i, hi, e⟩ := List.mem_iff_getElem.mp h1
      rw [List.length_take] at hi
      rw [List.getElem_take] at e
      have h3 : i = j := (List.getElem?_inj (l := abs.map (·.1)) (by rw [List.length_map]; omega) hnd).mp (by
        rw [List.getElem?_map, List.getElem?_map, hab, List.getElem?_eq_getElem (by omega), e]
        exact congrArg some h2)
      omega
    rw [stored_new hnk] at hd3
    refine wpAny_pure ⟨Code.quiet_builtin _ (by decide +kernel), ?_⟩
    refine ih (j + 1) _ _ _ 0 (by omega) ?_ ?_ ?_ hd3 ?_
    · exact hst₂.1.at fun o e => hs3.extBut _ _ (Ne.symm hDI) e
    · exact hst₂.2.at fun o e => hs3.extBut _ _ haD e
    · exact fun b o e => hs3.extBut _ _ (fun q => by rw [q, hD] at e; cases e) (hb2 b o e)
    · rw [List.take_add_one, hab]
      exact Paired.snoc hp ⟨rfl, t2, rfl⟩
theorem dict_pairs {w : World} {A : Around} {E : Value → Shared → Prop} {s : Shared} {b : Heap} {L : Addr} {m : Str → Option Value} {news : List (Addr × Obj)} {a c : Nat} {vs : List Value} {abs : List (Int × Int)} {Q : Value → Shared → Prop} (hA : A.handled = none) (FF : Fr b L s.heap m) (N : News b L s.heap news) (hbig : b.NoLimit)
    (ho : s.heap.get? a = some (PySem.W.listOf vs.toArray c)) (hPA : PairsAt s.heap vs abs) (hnd : (abs.map (·.1)).Nodup) (hlen : abs.length ≤ 1000)
    (h : ∀ D o kvs h' tk, Fr b L h' m → News b L h' ((D, o) :: news) → (∀ p ∈ news, p.1 < D) → (D == sysModules) = false → o.IsDictOf (PySem.intKind PRG w) kvs → Paired KV kvs abs → Q (.ref D) { s with heap := h', toks := tk }) :
    wpAny (model PRG w) A (call (.type "dict") [.ref a]) Q E s := by
  refine callType_codes (Q₁ := fun obj s₁ => obj = .ref s.heap.objs.size ∧ s₁ = { s with heap := s.heap.push { cls := .type "dict", data := .dict #[] } }) F.kt_called_dict (F.kt_typeCall_dict_1 _) F.entry_dict_init (kt_code_dict_new _ ⟨rfl, rfl⟩) ?_
  rintro obj s₁ ⟨rfl, rfl⟩
  have hnew : (s.heap.push { cls := .type "dict", data := .dict #[] }).DictOf (PySem.intKind PRG w) s.heap.objs.size [] := Heap.DictOf.new s.heap
  refine ⟨hnew.typeIs, F.args_dict_init_2 _ _, ?_⟩
  unfold Builtin.«dict.__init__»
  refine wpAny_bind ?_
  unfold Builtin.Dict.selfAndRest
  refine wpAny_bind (wpAny_notOrdered_dict hnew.typeIs ?_)
  show wpAny _ _ (pure (s.heap.objs.size, [Value.ref a])) _ _ _
  refine wpAny_pure ?_
  show wpAny _ _ (Builtin.Dict.updateFrom "dict.__init__" s.heap.objs.size (.ref a) [] .none) _ _ _
  unfold Builtin.Dict.updateFrom
  have ho1 : (s.heap.push { cls := .type "dict", data := .dict #[] }).get? a = some (PySem.W.listOf vs.toArray c) := Heap.get?_push_of_some _ ho
  refine wpAny_bind (wpAny_typeOf (T := "list") ⟨_, ho1, rfl⟩ ?_)
  rw [if_pos (by decide)]
  refine wpAny_bind (getAttrQ_miss_list ho1 rfl rfl rfl keys_miss (by decide +kernel) hA (fun h₂ tk₂ hk₂ => ?_))
  simp only [Option.isNone_none, if_true]
  refine wpAny_bind (wpAny_rule ?_)
  have hl2 : h₂.IsList a vs.toArray := ⟨_, hk₂ _ _ ho1, rfl, _, rfl⟩
  refine wpAny_bind (wpAny_pyIter_list hl2 ?_)
  refine wpAny_pure ⟨Code.quiet_builtin _ (by decide +kernel), ?_⟩
  have kp : s.heap.StaysIn (s.heap.push { cls := .type "dict", data := .dict #[] }) := fun b o e => Heap.get?_push_of_some _ e
  have hDlt : s.heap.objs.size < h₂.objs.size := by
    have := Heap.lt_size (hk₂ _ _ (Heap.get?_push_size s.heap (o := { cls := .type "dict", data := .dict #[] }) rfl))
    exact this
  refine upd_loop (A := A.in1) (s := s) (w := w) (base := s.heap) (abs := abs) (show A.in1.handled = none from hA) hPA hnd hlen ⟨_, ho⟩ (Heap.get?_none_of_le (Nat.le_refl _)) (Heap.get?_none_of_le (Nat.le_of_lt hDlt)) (Nat.ne_of_lt hDlt) ?_ abs.length 0 _ _ [] 0 (by omega) ?_ (hl2.at fun o e => Heap.get?_push_of_some _ e) (fun b o e => Heap.get?_push_of_some _ (hk₂ _ _ (kp _ _ e))) ?_ .nil
  · intro h' tk kvs hk hd hp
    refine ⟨rfl, ?_⟩
    obtain ⟨o, hoD, hd'⟩ := Heap.dictOf_iff.mp hd
    refine h _ o kvs h' tk (FF.keeps hk) (fun p hp => ?_) (fun p hp => Heap.lt_size (N p hp).1) (FF.notModules (modules_low hbig)) hd' hp
    rcases List.mem_cons.mp hp with rfl | hp
    · exact ⟨hoD, (Nat.ne_of_lt FF.ns.lt).symm, next_is_new FF⟩
    · exact N.grown hk p hp
  · exact ⟨_, Heap.get?_push_size _ rfl, rfl, rfl⟩
  · obtain ⟨o, hoD, hd'⟩ := Heap.dictOf_iff.mp hnew
    exact Heap.dictOf_iff.mpr ⟨o, Heap.get?_push_of_some _ (hk₂ _ _ hoD), hd'⟩
end
section
open PyProof.Rows.LCg PySem.Spec PySem.SeqAt
set_option maxHeartbeats 1000000
def pd (ab : Int × Int) : PyData := .tuple [.int ab.1, .int ab.2]
theorem reads_pairs {h : Heap} : ∀ {vs : List Value} {abs : List (Int × Int)}, PairsAt h vs abs → ∃ as, ReadsAll h vs (abs.map pd) as
  | _, _, .nil => ⟨_, .nil⟩
  | _, _, .cons a r => by
    obtain ⟨as, ih⟩ := reads_pairs r
    obtain ⟨t, nt, t1, t2, rfl, e⟩ := a
    exact ⟨_, .cons (.tuple e rfl rfl (.cons (.int _ _) (.cons (.int _ _) .nil))) ih⟩
theorem can_pairs : ∀ abs : List (Int × Int), PyData.canLayAll0 (abs.map pd) = true
  | [] => rfl
  | ab :: r => by
    rw [List.map_cons]
    show (PyData.canLay0 (pd ab) && PyData.canLayAll0 (r.map pd)) = true
    rw [can_pairs r]; rfl
theorem depth_pairs : ∀ abs : List (Int × Int), PyData.depthAll (abs.map pd) ≤ 10
  | [] => Nat.zero_le _
  | ab :: r => by
    have := depth_pairs r
    rw [List.map_cons]
    show max (PyData.depth (pd ab)) (PyData.depthAll (r.map pd)) ≤ 10
    have h : PyData.depth (pd ab) ≤ 10 := by unfold pd; simp only [PyData.depth, PyData.depthAll]; omega
    omega
theorem shaped_pairs (abs : List (Int × Int)) : shaped (.list (abs.map pd)) = true := by
  have h1 := depth_pairs abs
  have h2 : PyData.depth (.list (abs.map pd)) ≤ 64 := by simp only [PyData.depth]; omega
  show (PyData.canLay0 (.list (abs.map pd)) && decide (PyData.depth (.list (abs.map pd)) ≤ 64)) = true
  rw [Bool.and_eq_true]
  exact ⟨by simp only [PyData.canLay0]; exact can_pairs abs, decide_eq_true h2⟩
theorem noMix_pairs : ∀ abs : List (Int × Int), noMixAll (abs.map pd) (abs.map pd) = true
  | [] => rfl
  | ab :: r => by
    rw [List.map_cons]
    show (noMix (pd ab) (pd ab) && noMixAll (r.map pd) (r.map pd)) = true
    rw [noMix_pairs r]; rfl
theorem ne_pairs {w : World} {A : Around} {E : Value → Shared → Prop} {s : Shared} {a b c1 c2 : Nat} {vs us : List Value} {abs : List (Int × Int)} {Q : Value → Shared → Prop} (hl : s.heap.get? a = some (PySem.W.listOf vs.toArray c1)) (hp : PairsAt s.heap vs abs) (hl' : s.heap.get? b = some (PySem.W.listOf us.toArray c2)) (hp' : PairsAt s.heap us abs)
    (hu : A.units + 64 < cLine) (h : Q (.bool false) s) : wpAny (model PRG w) A (compareOp .NotEq (.ref a) (.ref b)) Q E s := by
  obtain ⟨as, ra⟩ := reads_pairs hp
  obtain ⟨bs, rb⟩ := reads_pairs hp'
  refine ne_dataH_same (da := .list (abs.map pd)) (db := .list (abs.map pd)) (.list hl rfl rfl ra) (.list hl' rfl rfl rb) (shaped_pairs abs) (shaped_pairs abs) hu (by simp only [noMix]; exact noMix_pairs abs) ?_
  rw [PySem.Spec.same_self]
  exact h
end
section
structure Plan (rows : List Row) (lots : List Lot) (at_ mo m0 : Int) : Prop where
  B : Base0 rows lots
  l64 : ∀ l ∈ lots, l.2.length < 64
  r8 : rows.length ≤ 60
  l8 : lots.length ≤ 60
  at1 : ∀ r ∈ rows, r.1 ≤ at_
  a0 : 0 ≤ at_
  a1 : at_ ≤ 100
  mo0 : 0 ≤ mo
  mo1 : mo ≤ 100
  m0a : 1 ≤ m0
  m0b : m0 ≤ 4
theorem cnt_ge {i : Nat} : ∀ {rs : List Row} {j : Nat} {r : Row}, rs.Pairwise (fun a b => a.1 ≤ b.1) → rs[j]? = some r → r.1 < (i : Int) → j < cntLt rs i
  | a :: rs, 0, r, hp, e, h => by
    have e' : a = r := by simpa using e
    unfold cntLt
    rw [List.filter_cons, if_pos (by rw [e']; simpa using h), List.length_cons]
    omega
  | a :: rs, j + 1, r, hp, e, h => by
    have e' : rs[j]? = some r := by simpa using e
    have ih := cnt_ge (List.pairwise_cons.mp hp).2 e' h
    have := (List.pairwise_cons.mp hp).1 r (List.mem_of_getElem? e')
    unfold cntLt at ih ⊢
    rw [List.filter_cons, if_pos (by simp; omega), List.length_cons]
    omega
theorem plan_of {rs : List Row} {es : List LotD} {n : Nat} {at_ mo m0 : Int} (hlen : rs.length = n) (hn : n ≤ 8) (hrr : ∀ r ∈ rs, 0 ≤ r.1 ∧ r.1 ≤ at_ ∧ 0 ≤ r.2.1 ∧ r.2.1 ≤ 1000) (hpw : rs.Pairwise (fun a b => a.1 ≤ b.1))
    (hes : ∀ d ∈ es, LotOk rs n d) (hel : es.length ≤ 4) (a0 : 0 ≤ at_) (a1 : at_ ≤ 100) (mo0 : 0 ≤ mo) (mo1 : mo ≤ 100) (m0a : 1 ≤ m0) (m0b : m0 ≤ 4) : Plan rs (lotsOf es) at_ mo m0 := by
  have key : ∀ l ∈ lotsOf es, ∃ d ∈ es, d.nvs.isEmpty = false ∧ l = (d.mom, d.ns) := fun l hl => by
    obtain ⟨d, hd, rfl⟩ := List.mem_map.mp hl
    obtain ⟨h1, h2⟩ := List.mem_filter.mp hd
    exact ⟨d, h1, by simpa using h2, rfl⟩
  refine ⟨⟨fun r hr => ⟨(hrr r hr).2.2.1, (hrr r hr).2.2.2⟩, fun r hr => (hrr r hr).1, ?_, ?_⟩, ?_, by omega, ?_, fun r hr => (hrr r hr).2.1, a0, a1, mo0, mo1, m0a, m0b⟩
  · intro l hl
    obtain ⟨d, hd, he, rfl⟩ := key l hl
    intro q
    have := (hes d hd).1.length
    rw [show d.ns = [] from q] at this
    rw [List.length_eq_zero_iff.mp this] at he
    cases he
  · intro l hl i hi x hx
    obtain ⟨d, hd, he, rfl⟩ := key l hl
    obtain ⟨j, rfl, hj, r, hr, hlt⟩ := (hes d hd).2.2 x hx
    have := cnt_ge hpw hr (by rw [← hi]; exact hlt)
    omega
  · intro l hl
    obtain ⟨d, hd, he, rfl⟩ := key l hl
    have := (hes d hd).2.1
    show d.ns.length < 64
    omega
  · have : (lotsOf es).length ≤ es.length := by
      unfold lotsOf
      rw [List.length_map]
      exact List.length_filter_le _ _
    omega
end
section
set_option maxHeartbeats 1000000
inductive WorldG (w : World) (delay : Int) (G : List (Addr × Obj)) (wd : Addr) (W : Wd) (seen : List (Int × Int)) : Prop
  | mk (pl ct cdx ll dxp sd sl : Addr) (S : List (Addr × Obj)) (hS : ∀ p ∈ S, p ∈ G) (hpl : (pl, instObj 354 dxp) ∈ G) (hct : (ct, instObj 155 cdx) ∈ G) (lo : (sd == sysModules) = false) (H : RunInv w pl ct wd sd cdx ll dxp sl delay W seen S) : WorldG w delay G wd W seen
theorem WorldG.mono {w : World} {delay : Int} {G G' : List (Addr × Obj)} {wd : Addr} {W : Wd} {seen : List (Int × Int)} (x : WorldG w delay G wd W seen) (h : ∀ p ∈ G, p ∈ G') : WorldG w delay G' wd W seen := by
  obtain ⟨pl, ct, cdx, ll, dxp, sd, sl, S, h1, h2, h3, h4, h5⟩ := x
  exact ⟨pl, ct, cdx, ll, dxp, sd, sl, S, fun p hp => h _ (h1 p hp), h _ h2, h _ h3, h4, h5⟩
section
variable {w : World} {A : Around} {E : Value → Shared → Prop} {s : Shared} {b : Heap} {L : Addr} {m : Str → Option Value} {mean mg mb} {H G : List (Addr × Obj)}
theorem run_law {Q : Value → Shared → Prop} {rl tl : Addr} {c1 c2 M : Nat} {rvs tvs : List Value} {rows : List Row} {lots : List Lot} {at_ mo m0 Mi delay manner : Int} {tm td tn : Tok} (C : Cx w mean mg mb b) (hA : Rm A 11) (F : Fr b L s.heap m) (N : News b L s.heap (H ++ G))
    (hrl : (rl, PySem.W.listOf rvs.toArray c1) ∈ G) (htl : (tl, PySem.W.listOf tvs.toArray c2) ∈ G) (hr : Paired (RowB G) rvs rows) (ht : Paired (LotG G) tvs lots) (P : Plan rows lots at_ mo m0) (hMi : Mi = (M : Int)) (hM : M ≤ 1000)
    (h : ∀ t nt wd G1 h' tk, Fr b L h' m → News b L h' (H ++ (G1 ++ G)) → (t, tupO [.bool (runEnd manner delay rows lots M).nv, .ref wd] nt) ∈ G1 → (∀ p ∈ G1, ∀ q ∈ H ++ G, p.1 ≠ q.1) → WorldG w delay G1 wd (runEnd manner delay rows lots M).W (runEnd manner delay rows lots M).seen → Q (.ref t) { s with heap := h', toks := tk }) :
    wpAny (model PRG w) A (call (.ref 382) [.ref rl, .ref tl, .int Mi tm, .int delay td, .int manner tn]) Q E s := by
  subst hMi
  have gG : ∀ p ∈ G, s.heap.get? p.1 = some p.2 := fun p hp => N.get (List.mem_append_right _ hp)
  refine wpAny_call (law_run_spec (C.keeps F.keep) hA ⟨_, gG _ hrl, rfl, _, rfl⟩ ⟨_, gG _ htl, rfl, _, rfl⟩ (Paired.mono (fun _ _ x => x _ gG) hr) (Paired.mono (fun _ _ x => x _ gG) ht) P.r8 P.l8 hM P.B P.l64 ?_)
  intro t nt wd pl ct cdx ll dxp sd sl S h' tk lo LD HI
  have NB := led_news F LD
  refine h t nt wd ((t, tupO [.bool (runEnd manner delay rows lots M).nv, .ref wd] nt) :: (S ++ [(pl, instObj 354 dxp), (ct, instObj 155 cdx)])) h' tk (F.keeps LD.sub) (fun p hp => ?_) (.head _) (fun p hp q hq e => ?_) ⟨pl, ct, cdx, ll, dxp, sd, sl, S, fun p hp => .tail _ (List.mem_append_left _ hp), .tail _ (List.mem_append_right _ (.head _)), .tail _ (List.mem_append_right _ (.tail _ (.head _))), lo, HI⟩
  · rcases List.mem_append.mp hp with hp | hp
    · exact N.grown LD.sub p (List.mem_append_left _ hp)
    · rcases List.mem_append.mp hp with hp | hp
      · exact NB p hp
      · exact N.grown LD.sub p (List.mem_append_right _ hp)
  · have := (LD.mem p hp).2
    rw [e, N.get hq] at this; cases this
end
end
section
def StopX : Prop := True
def lawBody : List Stmt := match PRG.main.body.getLast? with
  | some (.FunctionDef _ _ b _ _ _ _ _ _ _) => b
  | _ => []
def lawScope : Scope := match PRG.main.body.getLast? with
  | some (.FunctionDef _ _ _ _ _ _ sc _ _ _) => sc
  | _ => default
abbrev lawEnv (L' : Addr) : Env := envOfC (Str.ofString "law") lawScope L' 387 (.ref 386)
abbrev lawQ (R : Result → Shared → Prop) : Flow → Shared → Prop := fun fl s' => R (.ok (.ret (match fl with | .ret v => v | _ => .none))) s'
/-- what the plain law says of the first run's end X and the third's end Z -/
structure Ends (X Z : Wd) (lots : List Lot) : Prop where
  tx : Tidy X
  tz : Tidy Z
  sent : Z.sent = X.sent
  sub : ∀ q ∈ Z.lost, ∃ t0, (q.1, t0) ∈ X.lost ∧ t0 ≤ q.2
  cov : ∀ q ∈ X.lost, q.1 ∉ Z.lost.map (·.1) → ∃ l ∈ lots, q.1 ∈ l.2 ∧ q.2 ≤ 1125 * l.1
  ox : ∃ n, X.Ok n ∧ n ≤ 60
  oz : ∃ n, Z.Ok n ∧ n ≤ 60
  l64 : ∀ l ∈ lots, l.2.length < 64
  l8 : lots.length ≤ 60
theorem ends_of {delay : Int} {rows : List Row} {lots : List Lot} {M : Nat} (B : Base0 rows lots) (hM : ∀ r ∈ rows, 1125 * r.1 + delay ≤ 1125 * (M : Int) - 1125) (r8 : rows.length ≤ 60) (l64 : ∀ l ∈ lots, l.2.length < 64) (l8 : lots.length ≤ 60) :
    runEnd 1 delay rows lots M = runEnd 0 delay rows lots M ∧ (runEnd 0 delay rows lots M).nv = true ∧ Ends (runEnd 0 delay rows lots M).W (runEnd 2 delay rows lots M).W lots := by
  obtain ⟨a1, a2, a3, a4, a5, a6, a7⟩ := plain_law B hM
  have hn : cntLt rows M ≤ 60 := Nat.le_trans (cnt_le rows M) r8
  have e0 : runEnd 0 delay rows lots M = runs 0 delay rows lots M := if_neg (by decide)
  have e2 : runEnd 2 delay rows lots M = { runs 2 delay rows lots M with W := look delay (1125 * M) (runs 2 delay rows lots M).W } := if_pos rfl
  refine ⟨a1, a2, a3, a4, a5, a6, a7, ⟨_, ?_, hn⟩, ⟨_, ?_, hn⟩, l64, l8⟩
  · rw [e0]; exact (run_inv B M).ok
  · rw [e2]; exact look_ok (run_inv B M).ok
end
section
local macro_rules | `(tactic| walk_at "m_wl") => `(tactic| first | exact worldL_place | exact worldL_control | exact worldL_later | exact worldL_delay | exact worldL_lost | exact worldL_seen)
local macro_rules | `(tactic| walk_at "subscriptTail") => `(tactic| (k_here; (with_reducible show wpAny _ _ (subscriptTail _ _ (Value.ref _) (Value.str _ _)) _ _ _); (refine' world_item ?N ?p ?d ?l ?_; (case N => k_asm); (case p => k_mem); (case d => assumption); (case l => walk_at "m_wl"); k_whole)))
local macro_rules | `(tactic| k_ne) => `(tactic| first | exact NeA.out (by assumption) | exact NeA.outs (by assumption))
local macro_rules | `(tactic| k_all) => `(tactic| assumption)
local macro_rules | `(tactic| walk_at "subscriptTail") => `(tactic| (k_here; (with_reducible show wpAny _ _ (subscriptTail _ _ (Value.ref _) (Value.int _ _)) _ _ _); (refine' item_tupleT ?t ?a ?b ?c ?d ?_; (case t => assumption); (case a => decide); (case b => decide); (case c => rfl); (case d => rfl); k_whole)))
local macro_rules | `(tactic| walk_at "execs cons") => `(tactic| (have sx2 := (‹StopX› : StopX); clear sx2; k_here; refine stop_in ?_))
local macro_rules | `(tactic| walk_at "exec For Name Tuple cons") => `(tactic| (k_here; refine stop_in ?_))
local macro_rules | `(tactic| walk_at "exec For Name Tuple cons nil") => `(tactic| (k_here; refine stop_in ?_))
local macro_rules | `(tactic| walk_at "exec For Name Tuple") => `(tactic| (k_here; refine stop_in ?_))
theorem Rm.line64 {A : Around} {n : Nat} (r : Rm A n) : A.units + 64 < cLine := by
  have := r.units; show A.units + 64 < 9900; omega
theorem key_int {w : World} {k : Int} {v : Value} (h : (PySem.intKind PRG w).is k v = true) : ∃ t, v = .int k t := by
  cases v with
  | int i t => exact ⟨t, by rw [show i = k from (PySem.intKind PRG w).inj (.int i t) i k (intKind_is _ _ _ _) h]⟩
  | _ => cases h
theorem kv_keys {kvs : List (Int × Value)} {abs : List (Int × Int)} (x : Paired KV kvs abs) : kvs.map (·.1) = abs.map (·.1) := by
  induction x with
  | nil => rfl
  | cons a _ ih => rw [List.map_cons, List.map_cons, ih, a.1]
theorem kv_at {kvs : List (Int × Value)} {abs : List (Int × Int)} (x : Paired KV kvs abs) (hn : (abs.map (·.1)).Nodup) {ab : Int × Int} (h : ab ∈ abs) : ∃ t, valueAt kvs ab.1 = some (.int ab.2 t) := by
  obtain ⟨i, hi, rfl⟩ := List.mem_iff_getElem.mp h
  obtain ⟨⟨k, v⟩, e1, e2, t, e3⟩ := Paired.get x (List.getElem?_eq_getElem hi)
  dsimp only at e2 e3
  subst e2 e3
  exact ⟨t, valueAt_of_nodup (kv_keys x ▸ hn) e1⟩
theorem SrcOk.tup {w : World} {A : Around} {s : Shared} {x : Str} {px : Pos} {t : Addr} (vs : List Value) (n : Nat) (hn : vs.length = n) (hh : A.handled = none) (ht : s.heap.IsTuple t vs.toArray) :
    SrcOk w A s (.ref t) (.Name x px) [t] n (fun i v => vs[i]? = some v) := by
  subst hn
  intro Q E h
  obtain ⟨ol, hol, _⟩ := id ht
  have hlt : t < s.heap.objs.size := Heap.lt_size hol
  have W := Walks.tuple (prog := PRG) (w := w) (A := A) hh s.heap.objs.size t (Nat.ne_of_lt hlt) vs.toArray
  simp only [List.size_toArray, List.getElem?_toArray] at W
  refine wpAny_pyIter_tuple ht (h _ s.heap.objs.size _ (fun b o e => Heap.get?_push_of_some _ e) rfl (by rw [Heap.size_push]; exact Nat.lt_succ_self _) (by rw [Heap.size_push]; exact Nat.le_refl _) (fun a ha => by rw [List.mem_singleton.mp ha]; exact hlt)
    W ⟨⟨_, Heap.get?_push_size _ rfl, rfl, rfl⟩, ht.at fun o e => Heap.get?_push_of_some _ e⟩ (fun i h st => by obtain ⟨o, e, _⟩ := st.1; exact ⟨o, e⟩) (fun i s' v Q' E' st q => wpAny_pure q))
structure GoodE (X W : Wd) : Prop where
  sent : W.sent = X.sent
  tid : Tidy W
  ok : ∃ n, W.Ok n ∧ n ≤ 60
section
variable {w : World} {A : Around} {s : Shared} {mean : ExcName → Option Value} {mg mb : Str → Option Value} {R : Result → Shared → Prop} {b : Heap} {L' wd1 wd2 wd3 tl : Addr} {oc ob oa : Obj} {v1 v2 v3 : Option Value} {G : List (Addr × Obj)} {tvs : List Value} {lots : List Lot} {c2 : Nat} {delay : Int} {X Z : Wd} {sx sz : List (Int × Int)} {mb0 : Str → Option Value} {fd ld : Addr} {ofd old : Obj} {kf kl : List (Int × Value)}
set_option maxHeartbeats 4000000 in
theorem law_d16 (C : Cx w mean mg mb b) (hA : Rm A 13)
    (F : Fr b L' s.heap (mput (Str.ofString "first") (some (.ref wd1)) (mput (Str.ofString "second") (some (.ref wd2)) (mput (Str.ofString "third") (some (.ref wd3)) mb0))))
    (N : News b L' s.heap ([(L' + 1, oc), (L' + 1 + 1, ob), (L' + 1 + 1 + 1, oa)] ++ G)) (e1 : oc.data = .cell v1) (e2 : ob.data = .cell (some (.ref fd))) (e3 : oa.data = .cell (some (.ref ld)))
    (hcG : ∀ p ∈ G, p.1 ≠ L' + 1 ∧ p.1 ≠ L' + 1 + 1 ∧ p.1 ≠ L' + 1 + 1 + 1) (htl : (tl, PySem.W.listOf tvs.toArray c2) ∈ G) (ht : Paired (LotG G) tvs lots)
    (W1 : WorldG w delay G wd1 X sx) (W2 : WorldG w delay G wd2 X sx) (W3 : WorldG w delay G wd3 Z sz) (P : Ends X Z lots) (hsx : sx.length ≤ 1000)
    (hfd : (fd, ofd) ∈ G) (hld : (ld, old) ∈ G) (lof : (fd == sysModules) = false) (lol : (ld == sysModules) = false) (hdf : ofd.IsDictOf (PySem.intKind PRG w) kf) (hdl : old.IsDictOf (PySem.intKind PRG w) kl) (hkf : Paired KV kf X.lost) (hkl : Paired KV kl Z.lost)
    (hR : ∀ h' tk, b.StaysIn h' → R (.ok (.ret (.bool true))) {s with heap := h', toks := tk}) :
    wpAny (model PRG w) (A.deeper (lawEnv L')) (execs (lawBody.drop 16) (lawEnv L')) (lawQ R) (fun _ _ => False) s := by
  obtain ⟨d, f, g, u, rfl⟩ := hA.norm
  have X9 := C.X
  have T := C.T
  unfold lawEnv lawQ
  conv in (List.drop _ _) => whnf
  conv in (occs := *) lawScope => all_goals whnf
  have N1 : News b L' s.heap ((L' + 1, oc) :: (L' + 1 + 1, ob) :: (L' + 1 + 1 + 1, oa) :: G) := N
  clear N
  k_steps
  refine stop_out ?_
  refine for_S (h₀ := b) ?_ (by intro _; rfl)
  k_steps
  rename_i Dt hD F2 N2' lt2
  obtain ⟨oD, N2, htp⟩ : ∃ oD, News b L' hD ((Dt, oD) :: (L' + 1, oc) :: (L' + 1 + 1, ob) :: (L' + 1 + 1 + 1, oa) :: G) ∧ hD.IsTuple Dt [Value.ref wd1, .ref wd2, .ref wd3].toArray := ⟨_, N2', ⟨_, N2'.get (.head _), rfl, _, rfl⟩⟩
  clear N2'
  refine ForGo.mk _ [] ((Dt, oD) :: (L' + 1, oc) :: (L' + 1 + 1, ob) :: (L' + 1 + 1 + 1, oa) :: G) [Dt] 3 _ (fun i mm S => S = [] ∧ ∃ mb : Str → Option Value, mm = (mput (Str.ofString "first") (some (.ref wd1)) mb)) ((Fr.put (k := Str.ofString "first") F2 rfl)) N2 (SrcOk.tup [.ref wd1, .ref wd2, .ref wd3] 3 rfl rfl htp) ?_ ⟨rfl, _, rfl⟩ ?_ ?_
  · intro a ha
    rw [List.mem_singleton.mp ha]
    exact .inr ⟨_, .head _⟩
  · rintro i v m₁ S₁ I oI h₁ tk₁ hi hv hJ9 F₁ N₁ hSI hZI hIs U9 hU9
    obtain ⟨rfl, mb1, rfl⟩ := hJ9
    have hv3 : ∃ wdx W seen, v = .ref wdx ∧ WorldG w delay G wdx W seen ∧ GoodE X W := by
      match i, hi, hv with
      | 0, _, e => exact ⟨wd1, X, sx, (Option.some.inj e).symm, W1, ⟨rfl, P.tx, P.ox⟩⟩
      | 1, _, e => exact ⟨wd2, X, sx, (Option.some.inj e).symm, W2, ⟨rfl, P.tx, P.ox⟩⟩
      | 2, _, e => exact ⟨wd3, Z, sz, (Option.some.inj e).symm, W3, ⟨P.sent, P.tz, P.oz⟩⟩
    obtain ⟨wdx, W, seen, rfl, WG, GE⟩ := hv3
    obtain ⟨pl0, ct0, cdx0, ll0, dxp0, sd0, sl0, S0, i0, j0, k0, lo0, ow0, os0, oc0, op0, kvs0, lvs0, svs0, ca0, cb0, blk0, ⟨ta0, tb0, hw0⟩, hos0, hps0, hoc0, hop0, hlv0, hsv0, _⟩ := WG
    obtain ⟨pl1, ct1, cdx1, ll1, dxp1, sd1, sl1, S1, i1, j1, k1, lo1, ow1, os1, oc1, op1, kvs1, lvs1, svs1, ca1, cb1, blk1, ⟨ta1, tb1, hw1⟩, hos1, hps1, hoc1, hop1, hlv1, hsv1, _⟩ := W1
    refine assign_any F₁ N₁ rfl rfl ?_
    intro h₂ F₂ N₂
    clear F₁ N₁ F2 N2
    have gG : ∀ p ∈ G, h₂.get? p.1 = some p.2 := fun p hp => N₂.get (.tail _ (.tail _ (.tail _ (.tail _ (.tail _ hp)))))
    have gN : ∀ p ∈ G, p ∈ (I, oI) :: ([] ++ ((Dt, oD) :: (L' + 1, oc) :: (L' + 1 + 1, ob) :: (L' + 1 + 1 + 1, oa) :: G)) := fun p hp => (.tail _ (.tail _ (.tail _ (.tail _ (.tail _ hp)))))
    have N3 : News b L' h₂ ((wdx, ow0) :: (pl0, instObj 354 dxp0) :: (dxp0, op0) :: (ct0, instObj 155 cdx0) :: (cdx0, oc0) :: (ll0, PySem.W.listOf lvs0.toArray ca0) :: (sd0, os0) :: (wd1, ow1) :: (pl1, instObj 354 dxp1) :: (dxp1, op1) :: (sd1, os1) :: (I, oI) :: (Dt, oD) :: (L' + 1, oc) :: (L' + 1 + 1, ob) :: (L' + 1 + 1 + 1, oa) :: G) :=
      news_of N₂ (gN _ (i0 _ (.head _))) (news_of N₂ (gN _ j0) (news_of N₂ (gN _ (i0 _ (.tail _ (.tail _ (.tail _ (.tail _ (.head _))))))) (news_of N₂ (gN _ k0) (news_of N₂ (gN _ (i0 _ (.tail _ (.tail _ (.head _))))) (news_of N₂ (gN _ (i0 _ (.tail _ (.tail _ (.tail _ (.head _)))))) (news_of N₂ (gN _ (i0 _ (.tail _ (.head _)))) (news_of N₂ (gN _ (i1 _ (.head _))) (news_of N₂ (gN _ j1) (news_of N₂ (gN _ (i1 _ (.tail _ (.tail _ (.tail _ (.tail _ (.head _))))))) (news_of N₂ (gN _ (i1 _ (.tail _ (.head _)))) N₂))))))))))
    clear N₂ gN
    have hop := hop0
    obtain ⟨p0, p1, p2, p3, p4, p5, p6, p7, p8, p9, p10, p11, p12, p13, p14, p15, p16, pv0, pv1, vn, va, vl, vt, vr, vs, vg, vf, vu, vk, vw, vh, ve, vi⟩ := hop
    have hop := hop1
    obtain ⟨p0, p1, p2, p3, p4, p5, p6, p7, p8, p9, p10, p11, p12, p13, p14, p15, p16, pv0, pv1, vn, va, vl, vt, vr, vs, vg, vf, vu, vk, vw, vh, ve, vi⟩ := hop
    have hoc := hoc0
    obtain ⟨r0, r1, r2, r3, r4, r5, rv0, rv1, rv2, rv3, rv4, rv5⟩ := hoc
    obtain ⟨nX, hoX, hnX⟩ := P.ox
    have hk0 : kvs0.map (·.1) = X.sent.map (·.num) := by rw [hps0.keys, GE.sent]
    have hk1 : kvs1.map (·.1) = X.sent.map (·.num) := hps1.keys
    have hl0 : kvs0.length < 64 := by have := hoX.len; have e := congrArg List.length hk0; rw [List.length_map, List.length_map] at e; omega
    have hl1 : kvs1.length < 64 := by have := hoX.len; have e := congrArg List.length hk1; rw [List.length_map, List.length_map] at e; omega
    have hlW : W.lost.length ≤ 1000 := by obtain ⟨n, h1, h2⟩ := GE.ok; have := h1.len; omega
    k_steps
    refine sorted_dict rfl F₂ N3 lo0 (Heap.dictOf_iff.mpr ⟨_, N3.get (.tail _ (.tail _ (.tail _ (.tail _ (.tail _ (.tail _ (.head _))))))), hos0⟩) hl0 (by rw [hk0]; exact hoX.asc) ?_
    intro D5 vs5 c5 h5 tk5 F5 N5 l5 hi5
    clear F₂ N3
    k_steps
    refine sorted_dict rfl F5 N5 lo1 (Heap.dictOf_iff.mpr ⟨_, N5.get (.tail _ (.tail _ (.tail _ (.tail _ (.tail _ (.tail _ (.tail _ (.tail _ (.tail _ (.tail _ (.tail _ (.head _)))))))))))), hos1⟩) hl1 (by rw [hk1]; exact hoX.asc) ?_
    intro D6 vs6 c6 h6 tk6 F6 N6 l6 hi6
    clear F5 N5
    k_steps
    refine stop_out (ne_intsK (N6.isList (.tail _ (.head _))) hi5 (N6.isList (.head _)) hi6 (hA.deeper _).line64 ?_)
    rw [show decide (kvs0.map (·.1) = kvs1.map (·.1)) = true from decide_eq_true (hk0.trans hk1.symm), Bool.not_true]
    k_steps
    refine dict_pairs rfl F6 N6 (Top.nolimit T) (N6.get (.tail _ (.tail _ (.tail _ (.tail _ (.tail _ (.tail _ (.tail _ (.head _))))))))) (hlv0.at fun p hp => N6.get (.tail _ (.tail _ (.tail _ (.tail _ (.tail _ (.tail _ (.tail _ (.tail _ (.tail _ (.tail _ (.tail _ (.tail _ (.tail _ (.tail _ (.tail _ (.tail _ (.tail _ (.tail _ (i0 _ (.tail _ (.tail _ (.tail _ (.tail _ (.tail _ (.tail _ hp)))))))))))))))))))))))))) GE.tid.nd hlW ?_
    intro D7 od7 kd7 h7 tk7 F7 N7 l7 lo7 hd7 hk7
    clear F6 N6
    have hlen7 : (kd7.length : Int) = (lvs0.length : Int) := by rw [hk7.length, hlv0.length]
    have hinf : W.nr.inf = octets W.sent := GE.tid.inf
    k_steps
    refine kda_len (knd := PySem.intKind PRG w) N7 (.head _) hd7 lo7 (by have := hk7.length; omega) ?_
    k_steps
    refine len_list (N7.isList (.tail _ (.tail _ (.tail _ (.tail _ (.tail _ (.tail _ (.tail _ (.tail _ (.head _)))))))))) (by rw [List.size_toArray, hlv0.length]; omega) ?_
    rw [List.size_toArray]
    k_steps
    · exact absurd hlen7 (by assumption)
    have gG7 : ∀ p ∈ G, h7.get? p.1 = some p.2 := fun p hp => N7.get (.tail _ (.tail _ (.tail _ (.tail _ (.tail _ (.tail _ (.tail _ (.tail _ (.tail _ (.tail _ (.tail _ (.tail _ (.tail _ (.tail _ (.tail _ (.tail _ (.tail _ (.tail _ (.tail _ hp)))))))))))))))))))
    have hps7 : PktsAt w.params h7 kvs0 W.sent := hps0.at_ fun v p x => x.at_ fun q hq => gG7 q (i0 _ (.tail _ (.tail _ (.tail _ (.tail _ (.tail _ (.tail _ hq)))))))
    refine wpAny_call (octets_out_spec (C.keeps (Fr.keep (by assumption))) ((hA.deeper _).less (by omega)) (N7.get (.tail _ (.tail _ (.tail _ (.tail _ (.head _)))))) (N7.get (.tail _ (.tail _ (.tail _ (.tail _ (.tail _ (.head _))))))) hop0 (N7.get (.tail _ (.tail _ (.tail _ (.tail _ (.tail _ (.tail _ (.tail _ (.tail _ (.tail _ (.head _))))))))))) hos0 lo0 hps7 (by rw [GE.sent]; have := hoX.len; omega) ?_)
    intro v h8 tk t hk hv
    subst hv
    have F8 := F7.keeps hk
    have N8 := N7.grown hk
    clear F7 N7 gG gG7 hps7
    dsimp only
    k_steps
    · exact absurd hinf (by assumption)
    refine hU9 _ _ ?_
    refine TurnEnd.mk [] (Fr.put (k := Str.ofString "first") F8 rfl) (news_sub N8 fun p hp => (.tail _ (.tail _ (.tail _ (.tail _ (.tail _ (.tail _ (.tail _ (.tail _ (.tail _ (.tail _ (.tail _ (.tail _ (.tail _ (.tail _ hp))))))))))))))) (fun _ h => (nomatch h)) ⟨rfl, _, rfl⟩
  · rintro m₁ S₁ h₁ tk₁ hJ9 F₁ N₁
    obtain ⟨rfl, mb1, rfl⟩ := hJ9
    clear F2 N2
    k_steps
    exact hR _ _ F₁.keep
end
end
section
local macro_rules | `(tactic| walk_at "m_wl") => `(tactic| first | exact worldL_place | exact worldL_control | exact worldL_later | exact worldL_delay | exact worldL_lost | exact worldL_seen)
local macro_rules | `(tactic| walk_at "subscriptTail") => `(tactic| (k_here; (with_reducible show wpAny _ _ (subscriptTail _ _ (Value.ref _) (Value.str _ _)) _ _ _); (refine' world_item ?N ?p ?d ?l ?_; (case N => k_asm); (case p => k_mem); (case d => assumption); (case l => walk_at "m_wl"); k_whole)))
local macro_rules | `(tactic| k_ne) => `(tactic| first | exact NeA.out (by assumption) | exact NeA.outs (by assumption))
local macro_rules | `(tactic| k_all) => `(tactic| assumption)
local macro_rules | `(tactic| walk_at "subscriptTail") => `(tactic| (k_here; (with_reducible show wpAny _ _ (subscriptTail _ _ (Value.ref _) (Value.int _ _)) _ _ _); (refine' item_tupleT ?t ?a ?b ?c ?d ?_; (case t => assumption); (case a => decide); (case b => decide); (case c => rfl); (case d => rfl); k_whole)))
local macro_rules | `(tactic| walk_at "execs cons") => `(tactic| (have sx2 := (‹StopX› : StopX); clear sx2; k_here; refine stop_in ?_))
section
variable {w : World} {A : Around} {s : Shared} {mean : ExcName → Option Value} {mg mb : Str → Option Value} {R : Result → Shared → Prop} {b : Heap} {L' wd1 wd2 wd3 tl : Addr} {oc ob oa : Obj} {v1 v2 v3 : Option Value} {G : List (Addr × Obj)} {tvs : List Value} {lots : List Lot} {c2 : Nat} {delay : Int} {X Z : Wd} {sx sz : List (Int × Int)} {mb0 : Str → Option Value} {fd ld : Addr} {ofd old : Obj} {kf kl : List (Int × Value)}
set_option maxHeartbeats 4000000 in
theorem law_d15 (C : Cx w mean mg mb b) (hA : Rm A 13)
    (F : Fr b L' s.heap (mput (Str.ofString "first") (some (.ref wd1)) (mput (Str.ofString "second") (some (.ref wd2)) (mput (Str.ofString "third") (some (.ref wd3)) (mput (Str.ofString "lots") (some (.ref tl)) mb0)))))
    (N : News b L' s.heap ([(L' + 1, oc), (L' + 1 + 1, ob), (L' + 1 + 1 + 1, oa)] ++ G)) (e1 : oc.data = .cell v1) (e2 : ob.data = .cell (some (.ref fd))) (e3 : oa.data = .cell (some (.ref ld)))
    (hcG : ∀ p ∈ G, p.1 ≠ L' + 1 ∧ p.1 ≠ L' + 1 + 1 ∧ p.1 ≠ L' + 1 + 1 + 1) (htl : (tl, PySem.W.listOf tvs.toArray c2) ∈ G) (ht : Paired (LotG G) tvs lots)
    (W1 : WorldG w delay G wd1 X sx) (W2 : WorldG w delay G wd2 X sx) (W3 : WorldG w delay G wd3 Z sz) (P : Ends X Z lots) (hsx : sx.length ≤ 1000)
    (hfd : (fd, ofd) ∈ G) (hld : (ld, old) ∈ G) (lof : (fd == sysModules) = false) (lol : (ld == sysModules) = false) (hdf : ofd.IsDictOf (PySem.intKind PRG w) kf) (hdl : old.IsDictOf (PySem.intKind PRG w) kl) (hkf : Paired KV kf X.lost) (hkl : Paired KV kl Z.lost)
    (hR : ∀ h' tk, b.StaysIn h' → R (.ok (.ret (.bool true))) {s with heap := h', toks := tk}) :
    wpAny (model PRG w) (A.deeper (lawEnv L')) (execs (lawBody.drop 15) (lawEnv L')) (lawQ R) (fun _ _ => False) s := by
  obtain ⟨d, f, g, u, rfl⟩ := hA.norm
  have X9 := C.X
  have T := C.T
  unfold lawEnv lawQ
  conv in (List.drop _ _) => whnf
  conv in (occs := *) lawScope => all_goals whnf
  have gG : ∀ p ∈ G, s.heap.get? p.1 = some p.2 := fun p hp => N.get (List.mem_append_right _ hp)
  have hDf : s.heap.DictOf (PySem.intKind PRG w) fd kf := Heap.dictOf_iff.mpr ⟨_, gG _ hfd, hdf⟩
  have N1 : News b L' s.heap ((L' + 1, oc) :: (L' + 1 + 1, ob) :: (L' + 1 + 1 + 1, oa) :: G) := N
  clear N
  have lx : kf.length ≤ 1000 := by rw [hkf.length]; obtain ⟨n, h1, h2⟩ := P.ox; have := h1.len; omega
  have g1 : ∀ p ∈ G, p.1 ≠ L' + 1 := fun p hp => (hcG p hp).1
  have c1 : NeA (L' + 1) (L' + 1 + 1) := neL (by omega)
  have c3 : NeA (L' + 1) (L' + 1 + 1 + 1) := neL (by omega)
  k_steps
  refine stop_out ?_
  refine for_S (h₀ := b) ?_ (by intro _; rfl)
  k_steps
  refine ForGo.mk _ [(L' + 1, oc)] ((L' + 1 + 1, ob) :: (L' + 1 + 1 + 1, oa) :: G) [fd] kf.length _ (fun i mm S => ∃ (oc' : Obj) (v' : Option Value), mm = (mput (Str.ofString "first") (some (.ref wd1)) (mput (Str.ofString "second") (some (.ref wd2)) (mput (Str.ofString "third") (some (.ref wd3)) (mput (Str.ofString "lots") (some (.ref tl)) mb0)))) ∧ S = [(L' + 1, oc')] ∧ oc'.data = .cell v') F N1 (SrcOk.keys rfl lof hDf) ?_ (exI2 oc v1 ⟨rfl, rfl, e1⟩) ?_ ?_
  · intro a ha
    rw [List.mem_singleton.mp ha]
    exact .inr ⟨_, .tail _ (.tail _ hfd)⟩
  · rintro i v m₁ S₁ I oI h₁ tk₁ hi ⟨k, y, hk, hv⟩ hJ9 F₁ N₁ hSI hZI hIs U9 hU9
    refine exE2 hJ9 ?_
    clear hJ9
    rintro oc' v' hJ9
    refine andE3 hJ9 ?_
    clear hJ9
    rintro rfl rfl hoc
    obtain ⟨t, rfl⟩ := key_int hv
    obtain ⟨⟨xn, xt⟩, hx, hx1, tx, hx2⟩ := Paired.get' hkf hk
    dsimp only at hx1 hx2
    subst hx1 hx2
    have hxm := List.mem_of_getElem? hx
    obtain ⟨tx', vf⟩ := kv_at hkf P.tx.nd hxm
    dsimp only at vf
    have z1 : NeA (L' + 1) I := neA (hSI _ (.head _))
    have N₃ : News b L' h₁ ((I, oI) :: (L' + 1, oc') :: (L' + 1 + 1, ob) :: (L' + 1 + 1 + 1, oa) :: G) := N₁
    clear N₁ F N1 gG hDf
    refine' assign_cell F₁ N₃ rfl ?U hoc ?_
    case U => k_updF
    intro h₂ o4 F₂ N₂ hoc2
    try dsimp only at N₂
    clear F₁ N₃
    have gG : ∀ p ∈ G, h₂.get? p.1 = some p.2 := fun p hp => N₂.get (.tail _ (.tail _ (.tail _ (.tail _ hp))))
    have hDf : h₂.DictOf (PySem.intKind PRG w) fd kf := Heap.dictOf_iff.mpr ⟨_, gG _ hfd, hdf⟩
    have hDl : h₂.DictOf (PySem.intKind PRG w) ld kl := Heap.dictOf_iff.mpr ⟨_, gG _ hld, hdl⟩
    have hcn : CellAt h₂ (L' + 1) (.int k t) := ⟨_, N₂.get (.tail _ (.head _)), hoc2⟩
    have hcf : CellAt h₂ (L' + 1 + 1) (.ref fd) := ⟨_, N₂.get (.tail _ (.tail _ (.head _))), e2⟩
    k_steps
    refine wpAny_notIn_of (intKind_is _ _ _ _) lol hDl.mapOf ?_
    cases hq : valueAt kl k with
    | some q =>
      rw [Option.isSome_some, Bool.not_true]
      k_steps
      refine hU9 _ _ ?_
      refine TurnEnd.mk [(L' + 1, o4)] F₂ N₂ (fun q hq => by rw [List.mem_singleton.mp hq]; exact z1.out) (exI2 o4 _ ⟨rfl, rfl, hoc2⟩)
    | none =>
      rw [Option.isSome_none, Bool.not_false]
      have hnot : k ∉ Z.lost.map (·.1) := fun hm => by
        obtain ⟨ab, h1, h2⟩ := List.mem_map.mp hm
        obtain ⟨t5, h3⟩ := kv_at hkl P.tz.nd h1
        rw [h2, hq] at h3; cases h3
      obtain ⟨l0, hl0, hk0, hx0⟩ := P.cov _ hxm hnot
      k_steps
      walk_at "m_comp"
      k_steps
      have hll := P.l8
      refine CompGo.mk h₂ [] [tl] lots.length _ (fun i ys S => S = [] ∧ ∀ j, j < i → ∀ l, lots[j]? = some l → k ∈ l.2 → xt ≤ 1125 * l.1 → ys ≠ []) (Nat.le_refl _) (Led.refl _) (SrcOk.lst tvs lots.length (Paired.length ht) rfl ⟨_, gG _ htl, rfl, _, rfl⟩) ?_ (Nat.le_trans (show lots.length ≤ 1000 by omega) (by decide)) ⟨rfl, fun _ h => absurd h (Nat.not_lt_zero _)⟩ ?_ ?_
      · intro a ha
        rw [List.mem_singleton.mp ha]
        exact ⟨_, gG _ htl⟩
      · rintro q v ys S₁ J oJ D C2 h₃ tk₃ m₂ hq2 hv2 hJ9 hyl F₃ N₃ hoff2 hID hDC hIs2 U9 hU9 V9 hV9
        obtain ⟨rfl, hJ⟩ := hJ9
        obtain ⟨l, hl, hLG⟩ := Paired.get' ht hv2
        obtain ⟨tt, ntt, tt1, nl, nvs, rfl, htt, hnl, hns⟩ := hLG h₂ gG
        have step : ∀ ys' : List Value, (∀ l', l' = l → k ∈ l'.2 → xt ≤ 1125 * l'.1 → ys' ≠ []) → (ys ≠ [] → ys' ≠ []) → ∀ j, j < q + 1 → ∀ l, lots[j]? = some l → k ∈ l.2 → xt ≤ 1125 * l.1 → ys' ≠ [] := fun ys' h1 h2 j hj l' hl' a b => by
          by_cases e : j = q
          · subst e; rw [hl] at hl'; exact h1 l' (Option.some.inj hl').symm a b
          · exact h2 (hJ j (by omega) l' hl' a b)
        refine assign2 rfl F₃ N₃ ⟨_, F₃.keep _ _ htt, rfl, _, rfl⟩ rfl rfl rfl ?_
        intro h₄ tk₄ F₄ N₄
        clear F₃ N₃ F₂ N₂
        refine wpAny_tests_one ?_
        have hnl4 : h₄.IsList nl nvs.toArray := hnl.at fun o e => F₄.keep _ _ e
        k_steps
        · (first | refine hU9 _ _ ?_ | refine hV9 _ ?_)
          refine CompEnd'.mk [] F₄ N₄ (fun _ h => (nomatch h)) ⟨rfl, step _ (fun _ _ _ _ => by simp) (fun _ => by simp)⟩
        · (first | refine hU9 _ _ ?_ | refine hV9 _ ?_)
          refine CompEnd'.mk [] F₄ N₄ (fun _ h => (nomatch h)) ⟨rfl, step _ (fun l' e _ hb => ?_) id⟩
          subst e
          exact absurd hb (by assumption)
        · (first | refine hU9 _ _ ?_ | refine hV9 _ ?_)
          refine CompEnd'.mk [] F₄ N₄ (fun _ h => (nomatch h)) ⟨rfl, step _ (fun l' e a _ => ?_) id⟩
          subst e
          have hin : (l'.2.any fun x => x == k) = false := by assumption
          rw [List.any_eq_false] at hin
          exact absurd (by simp) (hin k a)
      · rintro ys S₁ D h₃ tk₃ hJ9 hyl LD₃ hoff2 hDs
        obtain ⟨rfl, hJ⟩ := hJ9
        have hys : ys ≠ [] := by
          obtain ⟨j, hj, rfl⟩ := List.mem_iff_getElem.mp hl0
          exact hJ j hj _ (List.getElem?_eq_getElem hj) hk0 hx0
        have F5 := F₂.keeps LD₃.sub
        have N5 : News b L' h₃ ((D, LCg.lst ys) :: (I, oI) :: (L' + 1, o4) :: (L' + 1 + 1, ob) :: (L' + 1 + 1 + 1, oa) :: G) := news_of (led_news F₂ LD₃) (.head _) (N₂.grown LD₃.sub)
        clear F₂ N₂
        k_steps
        rename_i l5 _ F6 N6 l15
        refine stop_out (list_eq_nil (vs := ys) (News.isList N6 (.tail _ (.head _))) (News.isList N6 (.head _)) (Rm.line (hA.deeper _)) ?_)
        rw [show ys.isEmpty = false from by cases ys with | nil => exact absurd rfl hys | cons _ _ => rfl]
        k_steps
        refine hU9 _ _ ?_
        refine TurnEnd.mk [(L' + 1, o4)] F6 (news_of N6 (.tail _ (.tail _ (.head _))) (news_of N6 (.tail _ (.tail _ (.tail _ (.head _)))) (news_sub N6 fun p hp => (.tail _ (.tail _ (.tail _ (.tail _ hp))))))) (fun q hq => by rw [List.mem_singleton.mp hq]; exact z1.out) ⟨o4, _, rfl, rfl, hoc2⟩
  · rintro m₁ S₁ h₁ tk₁ ⟨oc', v', rfl, rfl, hoc⟩ F₁ N₁
    have stx : StopX := trivial
    k_steps
    refine stop_out ?_
    clear stx
    exact law_d16 C hA (Fr.put (k := Str.ofString "first") (Fr.put (k := Str.ofString "second") (Fr.put (k := Str.ofString "third") F₁ rfl) rfl) rfl) N₁ hoc e2 e3 hcG htl ht W1 W2 W3 P hsx hfd hld lof lol hdf hdl hkf hkl hR
set_option maxHeartbeats 4000000 in
theorem law_d14 (C : Cx w mean mg mb b) (hA : Rm A 13)
    (F : Fr b L' s.heap (mput (Str.ofString "first") (some (.ref wd1)) (mput (Str.ofString "second") (some (.ref wd2)) (mput (Str.ofString "third") (some (.ref wd3)) (mput (Str.ofString "lots") (some (.ref tl)) mb0)))))
    (N : News b L' s.heap ([(L' + 1, oc), (L' + 1 + 1, ob), (L' + 1 + 1 + 1, oa)] ++ G)) (e1 : oc.data = .cell v1) (e2 : ob.data = .cell (some (.ref fd))) (e3 : oa.data = .cell (some (.ref ld)))
    (hcG : ∀ p ∈ G, p.1 ≠ L' + 1 ∧ p.1 ≠ L' + 1 + 1 ∧ p.1 ≠ L' + 1 + 1 + 1) (htl : (tl, PySem.W.listOf tvs.toArray c2) ∈ G) (ht : Paired (LotG G) tvs lots)
    (W1 : WorldG w delay G wd1 X sx) (W2 : WorldG w delay G wd2 X sx) (W3 : WorldG w delay G wd3 Z sz) (P : Ends X Z lots) (hsx : sx.length ≤ 1000)
    (hfd : (fd, ofd) ∈ G) (hld : (ld, old) ∈ G) (lof : (fd == sysModules) = false) (lol : (ld == sysModules) = false) (hdf : ofd.IsDictOf (PySem.intKind PRG w) kf) (hdl : old.IsDictOf (PySem.intKind PRG w) kl) (hkf : Paired KV kf X.lost) (hkl : Paired KV kl Z.lost)
    (hR : ∀ h' tk, b.StaysIn h' → R (.ok (.ret (.bool true))) {s with heap := h', toks := tk}) :
    wpAny (model PRG w) (A.deeper (lawEnv L')) (execs (lawBody.drop 14) (lawEnv L')) (lawQ R) (fun _ _ => False) s := by
  obtain ⟨d, f, g, u, rfl⟩ := hA.norm
  have X9 := C.X
  have T := C.T
  unfold lawEnv lawQ
  conv in (List.drop _ _) => whnf
  conv in (occs := *) lawScope => all_goals whnf
  have gG : ∀ p ∈ G, s.heap.get? p.1 = some p.2 := fun p hp => N.get (List.mem_append_right _ hp)
  have hDf : s.heap.DictOf (PySem.intKind PRG w) fd kf := Heap.dictOf_iff.mpr ⟨_, gG _ hfd, hdf⟩
  have hDl : s.heap.DictOf (PySem.intKind PRG w) ld kl := Heap.dictOf_iff.mpr ⟨_, gG _ hld, hdl⟩
  have hcf : CellAt s.heap (L' + 1 + 1) (.ref fd) := ⟨_, N.get (List.mem_append_left _ (.tail _ (.head _))), e2⟩
  have hcl : CellAt s.heap (L' + 1 + 1 + 1) (.ref ld) := ⟨_, N.get (List.mem_append_left _ (.tail _ (.tail _ (.head _)))), e3⟩
  have N1 : News b L' s.heap ((L' + 1, oc) :: (L' + 1 + 1, ob) :: (L' + 1 + 1 + 1, oa) :: G) := N
  clear N
  have lz : kl.length ≤ 1000 := by rw [hkl.length]; obtain ⟨n, h1, h2⟩ := P.oz; have := h1.len; omega
  k_steps
  walk_at "m_comp"
  k_steps
  refine CompGo.mk s.heap [] [ld] kl.length _ (fun i ys S => ys = [] ∧ S = []) (Nat.le_refl _) (Led.refl _) (SrcOk.keys rfl lol hDl) ?_ (Nat.le_trans lz (by decide)) ⟨rfl, rfl⟩ ?_ ?_
  · intro a ha
    rw [List.mem_singleton.mp ha]
    exact ⟨_, gG _ hld⟩
  · rintro i v ys S₁ I oI D C2 h₂ tk₂ m₁ hi ⟨k, y, hk, hv⟩ hJ9 hyl F₂ N₂ hoff hID hDC hIs U9 hU9 V9 hV9
    obtain ⟨rfl, rfl⟩ := hJ9
    obtain ⟨t, rfl⟩ := key_int hv
    obtain ⟨⟨zn, zt⟩, hz, hz1, tz, hz2⟩ := Paired.get' hkl hk
    dsimp only at hz1 hz2
    subst hz1 hz2
    have hzm := List.mem_of_getElem? hz
    obtain ⟨t0, hx0, hle⟩ := P.sub _ hzm
    obtain ⟨tx, vf⟩ := kv_at hkf P.tx.nd hx0
    obtain ⟨tz', vl⟩ := kv_at hkl P.tz.nd hzm
    dsimp only at vf vl hle
    refine assign_any F₂ N₂ rfl rfl ?_
    intro h₃ F₃ N₃
    clear F₂ N₂ F N1
    refine wpAny_tests_one ?_
    k_steps
    refine wpAny_notIn_of (intKind_is _ _ _ _) lof (dictOf_keeps hDf F₃.keep).mapOf ?_
    rw [vf]
    rw [Option.isSome_some, Bool.not_true]
    k_steps
    all_goals first | (exfalso; omega) | exact hU9 _ _ (CompEnd'.mk [] F₃ N₃ (fun _ h => (nomatch h)) ⟨rfl, rfl⟩) | exact hV9 _ (CompEnd'.mk [] F₃ N₃ (fun _ h => (nomatch h)) ⟨rfl, rfl⟩)
  · rintro ys S₁ D h₂ tk₂ hJ9 hyl LD₂ hoff hDs
    obtain ⟨rfl, rfl⟩ := hJ9
    have F₂ := F.keeps LD₂.sub
    have N₂ : News b L' h₂ ((D, LCg.lst []) :: (L' + 1, oc) :: (L' + 1 + 1, ob) :: (L' + 1 + 1 + 1, oa) :: G) := news_of (led_news F LD₂) (.head _) (N1.grown LD₂.sub)
    clear F N1
    k_steps
    rename_i l5 _ F5 N5 l15
    refine stop_out (list_ne_nil (vs := []) (News.isList N5 (.tail _ (.head _))) (News.isList N5 (.head _)) (Rm.line (hA.deeper _)) ?_)
    have stx : StopX := trivial
    k_steps
    refine stop_out ?_
    clear stx
    have F9 := ‹Fr b L' _ _›
    have N9 := ‹News b L' _ _›
    exact law_d15 C hA F9 (news_sub N9 fun p hp => .tail _ (.tail _ hp)) e1 e2 e3 hcG htl ht W1 W2 W3 P hsx hfd hld lof lol hdf hdl hkf hkl hR
end
end
section
local macro_rules | `(tactic| walk_at "pad") => `(tactic| skip)
local macro_rules | `(tactic| walk_at "m_wl") => `(tactic| first | exact worldL_place | exact worldL_control | exact worldL_later | exact worldL_delay | exact worldL_lost | exact worldL_seen)
local macro_rules | `(tactic| walk_at "subscriptTail") => `(tactic| (k_here; (with_reducible show wpAny _ _ (subscriptTail _ _ (Value.ref _) (Value.str _ _)) _ _ _); (refine' world_item ?N ?p ?d ?l ?_; (case N => k_asm); (case p => k_mem); (case d => assumption); (case l => walk_at "m_wl"); k_whole)))
local macro_rules | `(tactic| k_ne) => `(tactic| first | exact NeA.out (by assumption) | exact NeA.outs (by assumption))
local macro_rules | `(tactic| k_all) => `(tactic| assumption)
local macro_rules | `(tactic| walk_at "subscriptTail") => `(tactic| (k_here; (with_reducible show wpAny _ _ (subscriptTail _ _ (Value.ref _) (Value.int _ _)) _ _ _); (refine' item_tupleT ?t ?a ?b ?c ?d ?_; (case t => assumption); (case a => decide); (case b => decide); (case c => rfl); (case d => rfl); k_whole)))
local macro_rules | `(tactic| walk_at "execs cons") => `(tactic| (have sx2 := (‹StopX› : StopX); clear sx2; k_here; refine stop_in ?_))
section
variable {w : World} {A : Around} {s : Shared} {mean : ExcName → Option Value} {mg mb : Str → Option Value} {R : Result → Shared → Prop} {b : Heap} {L' wd1 wd2 wd3 tl : Addr} {oc ob oa : Obj} {v1 v2 v3 : Option Value} {G : List (Addr × Obj)} {tvs : List Value} {lots : List Lot} {c2 : Nat} {delay : Int} {X Z : Wd} {sx sz : List (Int × Int)} {mb0 : Str → Option Value} {fd ld : Addr} {ofd old : Obj} {kf kl : List (Int × Value)}
set_option maxHeartbeats 4000000 in
theorem law_d13 (C : Cx w mean mg mb b) (hA : Rm A 13)
    (F : Fr b L' s.heap (mput (Str.ofString "first") (some (.ref wd1)) (mput (Str.ofString "second") (some (.ref wd2)) (mput (Str.ofString "third") (some (.ref wd3)) (mput (Str.ofString "no_vain") (some (.bool true)) (mput (Str.ofString "lots") (some (.ref tl)) mb0))))))
    (N : News b L' s.heap ([(L' + 1, oc), (L' + 1 + 1, ob), (L' + 1 + 1 + 1, oa)] ++ G)) (e1 : oc.data = .cell v1) (e2 : ob.data = .cell (some (.ref fd))) (e3 : oa.data = .cell (some (.ref ld)))
    (hcG : ∀ p ∈ G, p.1 ≠ L' + 1 ∧ p.1 ≠ L' + 1 + 1 ∧ p.1 ≠ L' + 1 + 1 + 1) (htl : (tl, PySem.W.listOf tvs.toArray c2) ∈ G) (ht : Paired (LotG G) tvs lots)
    (W1 : WorldG w delay G wd1 X sx) (W2 : WorldG w delay G wd2 X sx) (W3 : WorldG w delay G wd3 Z sz) (P : Ends X Z lots) (hsx : sx.length ≤ 1000)
    (hfd : (fd, ofd) ∈ G) (hld : (ld, old) ∈ G) (lof : (fd == sysModules) = false) (lol : (ld == sysModules) = false) (hdf : ofd.IsDictOf (PySem.intKind PRG w) kf) (hdl : old.IsDictOf (PySem.intKind PRG w) kl) (hkf : Paired KV kf X.lost) (hkl : Paired KV kl Z.lost)
    (hR : ∀ h' tk, b.StaysIn h' → R (.ok (.ret (.bool true))) {s with heap := h', toks := tk}) :
    wpAny (model PRG w) (A.deeper (lawEnv L')) (execs (lawBody.drop 13) (lawEnv L')) (lawQ R) (fun _ _ => False) s := by
  obtain ⟨d, f, g, u, rfl⟩ := hA.norm
  have X9 := C.X
  have T := C.T
  unfold lawEnv lawQ
  conv in (List.drop _ _) => whnf
  conv in (occs := *) lawScope => all_goals whnf
  have W1' := W1
  have W2' := W2
  obtain ⟨pl1, ct1, cdx1, ll1, dxp1, sd1, sl1, S1, i1, j1, k1, lo1, ow1, os1, oc1, op1, kvs1, lvs1, svs1, ca1, cb1, blk1, ⟨ta1, tb1, hw1⟩, hos1, hps1, hoc1, hop1, hlv1, hsv1, _⟩ := W1'
  obtain ⟨pl3, ct3, cdx3, ll3, dxp3, sd3, sl3, S3, i3, j3, k3, lo3, ow3, os3, oc3, op3, kvs3, lvs3, svs3, ca3, cb3, blk3, ⟨ta3, tb3, hw3⟩, hos3, hps3, hoc3, hop3, hlv3, hsv3, _⟩ := W2'
  have N1 : News b L' s.heap ((wd1, ow1) :: (ll1, PySem.W.listOf lvs1.toArray ca1) :: (sl1, PySem.W.listOf svs1.toArray cb1) :: (wd2, ow3) :: (ll3, PySem.W.listOf lvs3.toArray ca3) :: (sl3, PySem.W.listOf svs3.toArray cb3) :: ([(L' + 1, oc), (L' + 1 + 1, ob), (L' + 1 + 1 + 1, oa)] ++ G)) :=
    news_of N (List.mem_append_right _ (i1 _ (.head _))) (news_of N (List.mem_append_right _ (i1 _ (.tail _ (.tail _ (.tail _ (.head _)))))) (news_of N (List.mem_append_right _ (i1 _ (.tail _ (.tail _ (.tail _ (.tail _ (.tail _ (.head _)))))))) (news_of N (List.mem_append_right _ (i3 _ (.head _))) (news_of N (List.mem_append_right _ (i3 _ (.tail _ (.tail _ (.tail _ (.head _)))))) (news_of N (List.mem_append_right _ (i3 _ (.tail _ (.tail _ (.tail _ (.tail _ (.tail _ (.head _)))))))) N)))))
  have gG : ∀ p ∈ G, s.heap.get? p.1 = some p.2 := fun p hp => N.get (List.mem_append_right _ hp)
  clear N
  k_steps
  refine stop_out (ne_pairs (N1.get (.tail _ (.tail _ (.tail _ (.tail _ (.head _)))))) (hlv3.at fun p hp => gG p (i3 _ (.tail _ (.tail _ (.tail _ (.tail _ (.tail _ (.tail _ hp)))))))) (N1.get (.tail _ (.head _))) (hlv1.at fun p hp => gG p (i1 _ (.tail _ (.tail _ (.tail _ (.tail _ (.tail _ (.tail _ hp)))))))) (hA.deeper _).line64 ?_)
  k_steps
  refine stop_out (ne_pairs (N1.get (.tail _ (.tail _ (.tail _ (.tail _ (.tail _ (.head _))))))) (hsv3.at fun p hp => gG p (i3 _ (.tail _ (.tail _ (.tail _ (.tail _ (.tail _ (.tail _ hp)))))))) (N1.get (.tail _ (.tail _ (.head _)))) (hsv1.at fun p hp => gG p (i1 _ (.tail _ (.tail _ (.tail _ (.tail _ (.tail _ (.tail _ hp)))))))) (hA.deeper _).line64 ?_)
  have stx : StopX := trivial
  k_steps
  refine stop_out ?_
  clear stx
  have F9 := ‹Fr b L' _ _›
  have N9 := ‹News b L' _ _›
  refine law_d14 C hA (Fr.put (k := Str.ofString "first") (Fr.put (k := Str.ofString "second") (Fr.put (k := Str.ofString "third") (Fr.put (k := Str.ofString "lots") F9 rfl) rfl) rfl) rfl) (news_sub N9 fun p hp => (.tail _ (.tail _ (.tail _ (.tail _ (.tail _ (.tail _ hp))))))) e1 e2 e3 hcG htl ht W1 W2 W3 P hsx hfd hld lof lol hdf hdl hkf hkl hR
set_option maxHeartbeats 4000000 in
theorem law_d12 (C : Cx w mean mg mb b) (hA : Rm A 13)
    (F : Fr b L' s.heap (mput (Str.ofString "first") (some (.ref wd1)) (mput (Str.ofString "second") (some (.ref wd2)) (mput (Str.ofString "third") (some (.ref wd3)) (mput (Str.ofString "no_vain") (some (.bool true)) (mput (Str.ofString "lots") (some (.ref tl)) mb0))))))
    (N : News b L' s.heap ([(L' + 1, oc), (L' + 1 + 1, ob), (L' + 1 + 1 + 1, oa)] ++ G)) (e1 : oc.data = .cell v1) (e2 : ob.data = .cell v2) (e3 : oa.data = .cell v3)
    (hcG : ∀ p ∈ G, p.1 ≠ L' + 1 ∧ p.1 ≠ L' + 1 + 1 ∧ p.1 ≠ L' + 1 + 1 + 1) (htl : (tl, PySem.W.listOf tvs.toArray c2) ∈ G) (ht : Paired (LotG G) tvs lots)
    (W1 : WorldG w delay G wd1 X sx) (W2 : WorldG w delay G wd2 X sx) (W3 : WorldG w delay G wd3 Z sz) (P : Ends X Z lots) (hsx : sx.length ≤ 1000)
    (hR : ∀ h' tk, b.StaysIn h' → R (.ok (.ret (.bool true))) {s with heap := h', toks := tk}) :
    wpAny (model PRG w) (A.deeper (lawEnv L')) (execs (lawBody.drop 12) (lawEnv L')) (lawQ R) (fun _ _ => False) s := by
  obtain ⟨d, f, g, u, rfl⟩ := hA.norm
  have X9 := C.X
  have T := C.T
  unfold lawEnv lawQ
  conv in (List.drop _ _) => whnf
  conv in (occs := *) lawScope => all_goals whnf
  have W1' := W1
  have W3' := W3
  obtain ⟨pl1, ct1, cdx1, ll1, dxp1, sd1, sl1, S1, i1, j1, k1, lo1, ow1, os1, oc1, op1, kvs1, lvs1, svs1, ca1, cb1, blk1, ⟨ta1, tb1, hw1⟩, hos1, hps1, hoc1, hop1, hlv1, hsv1, _⟩ := W1'
  obtain ⟨pl3, ct3, cdx3, ll3, dxp3, sd3, sl3, S3, i3, j3, k3, lo3, ow3, os3, oc3, op3, kvs3, lvs3, svs3, ca3, cb3, blk3, ⟨ta3, tb3, hw3⟩, hos3, hps3, hoc3, hop3, hlv3, hsv3, _⟩ := W3'
  have N1 : News b L' s.heap ((wd1, ow1) :: (ll1, PySem.W.listOf lvs1.toArray ca1) :: (wd3, ow3) :: (ll3, PySem.W.listOf lvs3.toArray ca3) :: (L' + 1, oc) :: (L' + 1 + 1, ob) :: (L' + 1 + 1 + 1, oa) :: G) :=
    news_of N (List.mem_append_right _ (i1 _ (.head _))) (news_of N (List.mem_append_right _ (i1 _ (.tail _ (.tail _ (.tail _ (.head _)))))) (news_of N (List.mem_append_right _ (i3 _ (.head _))) (news_of N (List.mem_append_right _ (i3 _ (.tail _ (.tail _ (.tail _ (.head _)))))) N)))
  clear N
  have x1 := hcG _ (i1 _ (.head _))
  have x2 := hcG _ (i1 _ (.tail _ (.tail _ (.tail _ (.head _)))))
  have x3 := hcG _ (i3 _ (.head _))
  have x4 := hcG _ (i3 _ (.tail _ (.tail _ (.tail _ (.head _)))))
  have lx : X.lost.length ≤ 1000 := by obtain ⟨n, h1, h2⟩ := P.ox; have := h1.len; omega
  have lz : Z.lost.length ≤ 1000 := by obtain ⟨n, h1, h2⟩ := P.oz; have := h1.len; omega
  k_steps
  refine dict_pairs rfl F N1 (Top.nolimit T) (N1.get (.tail _ (.head _))) (hlv1.at fun p hp => N1.get (.tail _ (.tail _ (.tail _ (.tail _ (.tail _ (.tail _ (.tail _ (i1 _ (.tail _ (.tail _ (.tail _ (.tail _ (.tail _ (.tail _ hp))))))))))))))) P.tx.nd lx ?_
  intro D1 od1 kf h1 tk1 F1 N2 l1 lo8 hd1 hk1
  clear F N1
  k_steps
  refine dict_pairs rfl F1 N2 (Top.nolimit T) (N2.get (.tail _ (.tail _ (.tail _ (.tail _ (.head _)))))) (hlv3.at fun p hp => N2.get (.tail _ (.tail _ (.tail _ (.tail _ (.tail _ (.tail _ (.tail _ (.tail _ (i3 _ (.tail _ (.tail _ (.tail _ (.tail _ (.tail _ (.tail _ hp)))))))))))))))) P.tz.nd lz ?_
  intro D2 od2 kl h2 tk2 F2 N3 l2 lo9 hd2 hk2
  clear F1 N2
  have y0 : ∀ q ∈ G, s.heap.get? q.1 = some q.2 → True := fun _ _ _ => trivial
  have z1 : NeA (L' + 1) D1 := neL (l1 _ (.tail _ (.tail _ (.tail _ (.tail _ (.head _))))))
  have z2 : NeA (L' + 1 + 1) D1 := neL (l1 _ (.tail _ (.tail _ (.tail _ (.tail _ (.tail _ (.head _)))))))
  have z3 : NeA (L' + 1 + 1 + 1) D1 := neL (l1 _ (.tail _ (.tail _ (.tail _ (.tail _ (.tail _ (.tail _ (.head _))))))))
  have z4 : NeA (L' + 1) D2 := neL (l2 _ (.tail _ (.tail _ (.tail _ (.tail _ (.tail _ (.head _)))))))
  have z5 : NeA (L' + 1 + 1) D2 := neL (l2 _ (.tail _ (.tail _ (.tail _ (.tail _ (.tail _ (.tail _ (.head _))))))))
  have z6 : NeA (L' + 1 + 1 + 1) D2 := neL (l2 _ (.tail _ (.tail _ (.tail _ (.tail _ (.tail _ (.tail _ (.tail _ (.head _)))))))))
  have N4 : News b L' h2 ((D2, od2) :: (D1, od1) :: (L' + 1, oc) :: (L' + 1 + 1, ob) :: (L' + 1 + 1 + 1, oa) :: G) := (news_of N3 (.head _) (news_of N3 (.tail _ (.head _)) (news_of N3 (.tail _ (.tail _ (.tail _ (.tail _ (.tail _ (.tail _ (.head _))))))) (news_of N3 (.tail _ (.tail _ (.tail _ (.tail _ (.tail _ (.tail _ (.tail _ (.head _)))))))) (news_of N3 (.tail _ (.tail _ (.tail _ (.tail _ (.tail _ (.tail _ (.tail _ (.tail _ (.head _))))))))) (news_sub N3 fun p hp => (.tail _ (.tail _ (.tail _ (.tail _ (.tail _ (.tail _ (.tail _ (.tail _ (.tail _ hp)))))))))))))))
  clear N3
  have c1 : NeA (L' + 1) (L' + 1 + 1) := neL (by omega)
  have c3 : NeA (L' + 1) (L' + 1 + 1 + 1) := neL (by omega)
  have c4 : NeA (L' + 1 + 1) (L' + 1 + 1 + 1) := neL (by omega)
  have g1 : ∀ p ∈ G, p.1 ≠ L' + 1 := fun p hp => (hcG p hp).1
  have g2 : ∀ p ∈ G, p.1 ≠ L' + 1 + 1 := fun p hp => (hcG p hp).2.1
  have g3 : ∀ p ∈ G, p.1 ≠ L' + 1 + 1 + 1 := fun p hp => (hcG p hp).2.2
  have stx : StopX := trivial
  k_steps
  refine stop_out ?_
  clear stx
  rename_i D3 _ _ _ _ ob9 hb9 _ oa9 F9 N9 ha9
  refine law_d13 (G := (D2, od2) :: (D1, od1) :: G) C hA (Fr.put (k := Str.ofString "first") (Fr.put (k := Str.ofString "second") (Fr.put (k := Str.ofString "third") (Fr.put (k := Str.ofString "no_vain") (Fr.put (k := Str.ofString "lots") F9 rfl) rfl) rfl) rfl) rfl) (news_of N9 (.tail _ (.tail _ (.tail _ (.head _)))) (news_of N9 (.tail _ (.tail _ (.tail _ (.tail _ (.head _))))) (news_of N9 (.tail _ (.tail _ (.tail _ (.tail _ (.tail _ (.head _)))))) (news_of N9 (.tail _ (.head _)) (news_of N9 (.tail _ (.tail _ (.head _))) (news_sub N9 fun p hp => (.tail _ (.tail _ (.tail _ (.tail _ (.tail _ (.tail _ hp)))))))))))) e1 hb9 ha9 ?_ (.tail _ (.tail _ htl)) (Paired.mono (fun _ _ x => x.mono fun p hp => .tail _ (.tail _ hp)) ht) (W1.mono fun p hp => .tail _ (.tail _ hp)) (W2.mono fun p hp => .tail _ (.tail _ hp)) (W3.mono fun p hp => .tail _ (.tail _ hp)) P hsx (.tail _ (.head _)) (.head _) lo8 lo9 hd1 hd2 hk1 hk2 hR
  intro p hp
  rcases List.mem_cons.mp hp with rfl | hp
  · exact ⟨z4.outs, z5.outs, z6.outs⟩
  rcases List.mem_cons.mp hp with rfl | hp
  · exact ⟨z1.outs, z2.outs, z3.outs⟩
  exact hcG p hp
end
end
section
local macro_rules | `(tactic| k_ne) => `(tactic| first | exact NeA.out (by assumption) | exact NeA.outs (by assumption))
local macro_rules | `(tactic| k_all) => `(tactic| assumption)
local macro_rules | `(tactic| walk_at "subscriptTail") => `(tactic| (k_here; (with_reducible show wpAny _ _ (subscriptTail _ _ (Value.ref _) (Value.int _ _)) _ _ _); (refine' item_tupleT ?t ?a ?b ?c ?d ?_; (case t => assumption); (case a => decide); (case b => decide); (case c => rfl); (case d => rfl); k_whole)))
local macro_rules | `(tactic| walk_at "execs cons") => `(tactic| (have sx2 := (‹StopX› : StopX); clear sx2; k_here; refine stop_in ?_))
set_option maxHeartbeats 4000000 in
theorem law_d8 {w : World} {A : Around} {s : Shared} {mean mg mb} {R : Result → Shared → Prop} {b : Heap} (C : Cx w mean mg mb b) (hA : Rm A 13) {L' rl tl : Addr} {at_ mo m0 : Int} {ta tm td tmo : Tok} {mb0 : Str → Option Value} {oc ob oa : Obj} {v1 v2 v3 : Option Value} {G : List (Addr × Obj)} {rvs tvs : List Value} {rows : List Row} {lots : List Lot} {c1 c2 : Nat}
    (F : Fr b L' s.heap (mput (Str.ofString "at") (some (.int at_ ta)) (mput (Str.ofString "rows") (some (.ref rl)) (mput (Str.ofString "lots") (some (.ref tl)) (mput (Str.ofString "moments") (some (.int m0 tm)) (mput (Str.ofString "delay") (some (.int (1125 * m0) td)) (mput (Str.ofString "moment") (some (.int mo tmo)) mb0)))))))
    (N : News b L' s.heap ((L' + 1, oc) :: (L' + 1 + 1, ob) :: (L' + 1 + 1 + 1, oa) :: G)) (e1 : oc.data = .cell v1) (e2 : ob.data = .cell v2) (e3 : oa.data = .cell v3)
    (hcG : ∀ p ∈ G, p.1 ≠ L' + 1 ∧ p.1 ≠ L' + 1 + 1 ∧ p.1 ≠ L' + 1 + 1 + 1) (hrl : (rl, PySem.W.listOf rvs.toArray c1) ∈ G) (htl : (tl, PySem.W.listOf tvs.toArray c2) ∈ G) (hr : Paired (RowB G) rvs rows) (ht : Paired (LotG G) tvs lots) (P : Plan rows lots at_ mo m0)
    (hR : ∀ h' tk, b.StaysIn h' → R (.ok (.ret (.bool true))) {s with heap := h', toks := tk}) :
    wpAny (model PRG w) (A.deeper (lawEnv L')) (execs (lawBody.drop 8) (lawEnv L')) (lawQ R) (fun _ _ => False) s := by
  obtain ⟨d, f, g, u, rfl⟩ := hA.norm
  have X := C.X
  have T := C.T
  unfold lawEnv lawQ
  conv in (List.drop _ _) => whnf
  conv in (occs := *) lawScope => all_goals whnf
  obtain ⟨M, hM⟩ : ∃ M : Nat, (M : Int) = max at_ mo + m0 + 1 := ⟨(max at_ mo + m0 + 1).toNat, by have := P.a0; have := P.m0a; omega⟩
  have hM1 : M ≤ 1000 := by have := P.a1; have := P.mo1; have := P.m0b; omega
  have hMr : ∀ r ∈ rows, 1125 * r.1 + 1125 * m0 ≤ 1125 * (M : Int) - 1125 := fun r hr => by have := P.at1 r hr; omega
  k_steps
  have NN : News b L' _ ([(L' + 1, oc), (L' + 1 + 1, ob), (L' + 1 + 1 + 1, oa)] ++ G) := ‹News b L' _ _›
  refine run_law C ((hA.deeper _).less (by omega)) (by assumption) NN hrl htl hr ht P (M := M) (by rw [hM]; split <;> omega) hM1 ?_
  intro t1 nt1 wd1 G1 h1 tk1 F1 N1 ht1 hd1 W1
  clear NN
  have hT1 := N1.isTup (List.mem_append_right _ (List.mem_append_left _ ht1))
  k_steps
  have NN : News b L' _ ([(L' + 1, oc), (L' + 1 + 1, ob), (L' + 1 + 1 + 1, oa)] ++ (G1 ++ G)) := ‹News b L' _ _›
  try clear N1 F1
  refine run_law C ((hA.deeper _).less (by omega)) (by assumption) NN (List.mem_append_right _ hrl) (List.mem_append_right _ htl) (Paired.mono (fun _ _ x => x.mono fun p hp => List.mem_append_right _ hp) hr) (Paired.mono (fun _ _ x => x.mono fun p hp => List.mem_append_right _ hp) ht) P (M := M) (by rw [hM]; split <;> omega) hM1 ?_
  intro t2 nt2 wd2 G2 h2 tk2 F2 N2 ht2 hd2 W2
  clear NN hT1
  refine assign2 rfl F2 N2 ⟨_, N2.get (List.mem_append_right _ (List.mem_append_left _ ht2)), rfl, _, rfl⟩ rfl rfl rfl ?_
  intro h3 tk3 F3 N3
  try clear F2 N2
  k_steps
  have NN : News b L' _ ([(L' + 1, oc), (L' + 1 + 1, ob), (L' + 1 + 1 + 1, oa)] ++ (G2 ++ (G1 ++ G))) := ‹News b L' _ _›
  refine run_law C ((hA.deeper _).less (by omega)) (by assumption) NN (List.mem_append_right _ (List.mem_append_right _ hrl)) (List.mem_append_right _ (List.mem_append_right _ htl)) (Paired.mono (fun _ _ x => x.mono fun p hp => List.mem_append_right _ (List.mem_append_right _ hp)) hr) (Paired.mono (fun _ _ x => x.mono fun p hp => List.mem_append_right _ (List.mem_append_right _ hp)) ht) P (M := M) (by rw [hM]; split <;> omega) hM1 ?_
  intro t3 nt3 wd3 G3 h4 tk4 F4 N4 ht3 hd3 W3
  clear NN
  have hT3 := N4.isTup (List.mem_append_right _ (List.mem_append_left _ ht3))
  have stx : StopX := trivial
  k_steps
  refine stop_out ?_
  clear stx
  obtain ⟨q1, q2, q3⟩ := ends_of (delay := 1125 * m0) P.B hMr P.r8 P.l64 P.l8
  have F5 := ‹Fr b L' _ _›
  have N5 : News b L' _ ([(L' + 1, oc), (L' + 1 + 1, ob), (L' + 1 + 1 + 1, oa)] ++ (G3 ++ (G2 ++ (G1 ++ G)))) := ‹News b L' _ _›
  rw [q1, q2] at F5
  rw [q1] at W2
  have i0 : ∀ p ∈ G, p ∈ G3 ++ (G2 ++ (G1 ++ G)) := fun p hp => List.mem_append_right _ (List.mem_append_right _ (List.mem_append_right _ hp))
  refine law_d12 C hA (Fr.put (k := Str.ofString "first") (Fr.put (k := Str.ofString "second") (Fr.put (k := Str.ofString "third") (Fr.put (k := Str.ofString "no_vain") (Fr.put (k := Str.ofString "lots") F5 rfl) rfl) rfl) rfl) rfl) N5 e1 e2 e3 (fun p hp => ?_) (i0 _ htl) (Paired.mono (fun _ _ x => x.mono i0) ht) (W1.mono fun p hp => List.mem_append_right _ (List.mem_append_right _ (List.mem_append_left _ hp))) (W2.mono fun p hp => List.mem_append_right _ (List.mem_append_left _ hp)) (W3.mono fun p hp => List.mem_append_left _ hp) q3 ?_ hR
  · rcases List.mem_append.mp hp with hp | hp
    · exact ⟨hd3 p hp _ (.head _), hd3 p hp _ (.tail _ (.head _)), hd3 p hp _ (.tail _ (.tail _ (.head _)))⟩
    rcases List.mem_append.mp hp with hp | hp
    · exact ⟨hd2 p hp _ (.head _), hd2 p hp _ (.tail _ (.head _)), hd2 p hp _ (.tail _ (.tail _ (.head _)))⟩
    rcases List.mem_append.mp hp with hp | hp
    · exact ⟨hd1 p hp _ (.head _), hd1 p hp _ (.tail _ (.head _)), hd1 p hp _ (.tail _ (.tail _ (.head _)))⟩
    exact hcG p hp
  · rw [show runEnd 0 (1125 * m0) rows lots M = runs 0 (1125 * m0) rows lots M from if_neg (by decide), seen_len]; exact hM1
end
section
local macro_rules | `(tactic| k_ne) => `(tactic| first | exact NeA.out (by assumption) | exact NeA.outs (by assumption))
local macro_rules | `(tactic| k_all) => `(tactic| assumption)
local macro_rules | `(tactic| walk_at "call ref") => `(tactic| (k_here; (with_reducible show wpAny _ _ (call (Value.ref 365) _) _ _ _); (refine' take_law ?C ?hA ?F ?N ?U ?bl ?bn ?hi ?hl ?k0 ?k1 ?m0 ?m1 ?_; (case C => assumption); (case hA => exact (Rm.deeper (by assumption) _).less (by omega)); (case F => k_asm); (case N => k_asm); (case U => k_updF); (case bl => k_mem); (case bn => k_ne); (case hi => assumption); (case hl => first | assumption | omega); (case k0 => omega); (case k1 => omega); (case m0 => omega); (case m1 => omega); k_whole); intro r' t' tk' c' h' tk'' F' N' hr0 hr1; (try dsimp only at N')))
local macro_rules | `(tactic| walk_at "subscriptTail") => `(tactic| (k_here; (with_reducible show wpAny _ _ (subscriptTail _ _ (Value.ref _) (Value.int _ _)) _ _ _); (refine' item_tupleT ?t ?a ?b ?c ?d ?_; (case t => assumption); (case a => decide); (case b => decide); (case c => rfl); (case d => rfl); k_whole)))
local macro_rules | `(tactic| walk_at "subscriptTail") => `(tactic| (k_here; (with_reducible show wpAny _ _ (subscriptTail _ _ (Value.ref _) (Value.int _ _)) _ _ _); (refine' item_listL ?hl ?h0 ?hf ?hx ?_; (case hl => exact News.isList (by k_asm) (by k_mem)); (case hx => assumption); (case h0 => omega); (case hf => omega); k_whole)))
set_option maxHeartbeats 4000000 in
theorem law_spec {w : World} {A : Around} {s : Shared} {mean mg mb} {R : Result → Shared → Prop} (C : Cx w mean mg mb s.heap) (hA : Rm A 13)
    {ax : Addr} {vs : List Value} {ns : List Int} (hL : s.heap.IsList ax vs.toArray) (hI : IntsAre vs ns) (h63 : ns.length < 64)
    (hR : ∀ h' tk, s.heap.StaysIn h' → R (.ok (.ret (.bool true))) {s with heap := h', toks := tk}) :
    codeAny (model PRG w) A (.call (.ref 387) ⟨[.ref ax], []⟩) R s := by
  obtain ⟨d, f, g, u, rfl⟩ := hA.norm
  have X := C.X
  have T := C.T
  refine' call_SC (binds := [(Str.ofString "script", .ref ax)]) (Led.refl _) (Nat.le_refl _) C ?k1 ?k2 ?k3 ?k4 ?k5 ?k6 ?_ ?c1 ?c2 ?c3
  walk_at "m_openc"
  intro L' h₁ tk cells F N Y lt hL
  k_cells Y
  k_steps
  rename_i o1 o2 o3 e1 e2 e3 d0 ws _ la hIw hCw hLw bl cbl _ lb bx _ lc rl _ ld tl _ le D1 _ lf _ _ _ _ _ tkk r0 tr tkb cbx _ _ hr0 hr1 _ F N
  refine wpAny_call (loss_delay_spec (C.keeps (Fr.keep (by assumption))) ((hA.deeper _).less (by omega)) ?_)
  intro v h' tk t9 hk hv
  rw [show max (9 * max (1000 * (4 - r0)) 700 / 8) 1000 = 1125 * (4 - r0) from by omega] at hv
  subst hv
  have F' := Fr.keeps (by assumption) hk
  have N' := News.grown (by assumption) hk
  try dsimp only
  k_steps
  rename_i r1 _ tkb1 cb1 _ _ hr2 hr3 D2 _ lg _ _ _ F2 N2
  obtain ⟨m0, hm0⟩ : ∃ m0 : Int, m0 = 4 - r0 := ⟨_, rfl⟩
  obtain ⟨n, hn⟩ : ∃ n : Nat, (n : Int) = 3 + r1 := ⟨(3 + r1).toNat, by omega⟩
  have lts : @LT.lt Nat _ (L' + 1 + 1 + 1) bl ∧ @LT.lt Nat _ bl bx ∧ @LT.lt Nat _ bx rl ∧ @LT.lt Nat _ rl tl := ⟨kst_ltOf lb.2 _ (.head _), lc.1, ld.1, le.1⟩
  refine stop_out (cut (fun h => ∃ (mb : Str → Option Value) (t1 t2 t3 t4 : Tok) (c1 : Nat),
    Fr s.heap L' h (mput (Str.ofString "at") (some (.int 0 t1)) (mput (Str.ofString "rows") (some (.ref rl)) (mput (Str.ofString "lots") (some (.ref tl)) (mput (Str.ofString "box") (some (.ref bx)) (mput (Str.ofString "many") (some (.int n t2)) (mput (Str.ofString "moments") (some (.int m0 t3)) (mput (Str.ofString "delay") (some (.int (1125 * m0) t4)) mb))))))) ∧
    News s.heap L' h [(bx, PySem.W.listOf [Value.ref bl, .int 2 tkb1].toArray cb1), (rl, PySem.W.listOf [].toArray 0), (tl, PySem.W.listOf [].toArray 0), (bl, PySem.W.listOf ws.toArray cbl), (L' + 1 + 1 + 1, o1), (L' + 1 + 1, o2), (L' + 1, o3)])
    (exI6 _ _ _ _ _ 0 ⟨by
      rw [hn, hm0]
      exact (Fr.put (k := Str.ofString "at") (Fr.put (k := Str.ofString "rows") (Fr.put (k := Str.ofString "lots") (Fr.put (k := Str.ofString "box") (Fr.put (k := Str.ofString "many") (Fr.put (k := Str.ofString "moments") (Fr.put (k := Str.ofString "delay") F2 rfl) rfl) rfl) rfl) rfl) rfl) rfl), news_of N2 (.tail _ (.tail _ (.tail _ (.tail _ (.head _))))) (news_of N2 (.tail _ (.tail _ (.tail _ (.head _)))) (news_of N2 (.tail _ (.tail _ (.head _))) (news_of N2 (.tail _ (.tail _ (.tail _ (.tail _ (.tail _ (.head _)))))) (news_of N2 (.tail _ (.tail _ (.tail _ (.tail _ (.tail _ (.tail _ (.tail _ (.head _)))))))) (news_of N2 (.tail _ (.tail _ (.tail _ (.tail _ (.tail _ (.tail _ (.tail _ (.tail _ (.head _))))))))) (news_of N2 (.tail _ (.tail _ (.tail _ (.tail _ (.tail _ (.tail _ (.tail _ (.tail _ (.tail _ (.head _)))))))))) News.nil))))))⟩) ?_)
  clear la lb lc ld le lf lg F2 N2
  have a1 : NeA bx rl := neL (by omega)
  have a2 : NeA bx tl := neL (by omega)
  have a3 : NeA bx bl := neG (by omega)
  have a4 : NeA bx (L' + 1 + 1 + 1) := neG (by omega)
  have a5 : NeA bx (L' + 1 + 1) := neG (by omega)
  have a6 : NeA bx (L' + 1) := neG (by omega)
  have c1 : NeA tl bl := neG (by omega)
  have c2 : NeA tl (L' + 1 + 1 + 1) := neG (by omega)
  have c3 : NeA tl (L' + 1 + 1) := neG (by omega)
  have c4 : NeA tl (L' + 1) := neG (by omega)
  have d1 : NeA bl (L' + 1) := neG (by omega)
  have d2 : NeA (L' + 1 + 1 + 1) (L' + 1) := neG (by omega)
  have d3 : NeA (L' + 1 + 1) (L' + 1) := neG (by omega)
  have b1 : NeA rl tl := neL (by omega)
  have b2 : NeA rl bl := neG (by omega)
  have b3 : NeA rl (L' + 1 + 1 + 1) := neG (by omega)
  have b4 : NeA rl (L' + 1 + 1) := neG (by omega)
  have b5 : NeA rl (L' + 1) := neG (by omega)
  intro h3 tk3 hJ9
  refine exE6 hJ9 ?_
  clear hJ9
  rintro m1 t1 t2 t3 t4 c1 ⟨F, N⟩
  refine for_S (h₀ := s.heap) ?_ (by intro _; rfl)
  k_steps
  rename_i h2 tk2 t1' u1' v1' hrg F2 N2 hk2
  refine ForGo.mk _ [(bx, PySem.W.listOf [Value.ref bl, .int 2 tkb1].toArray cb1), (rl, PySem.W.listOf [].toArray 0)] [(tl, PySem.W.listOf [].toArray 0), (bl, PySem.W.listOf ws.toArray cbl), (L' + 1 + 1 + 1, o1), (L' + 1 + 1, o2), (L' + 1, o3)] [] n _ (fun i mm S => ∃ (mb : Str → Option Value) (at_ k : Int) (ta tk : Tok) (c c' : Nat) (rvs : List Value) (rs : List Row) (blk : List (Addr × Obj)),
      mm = (mput (Str.ofString "at") (some (.int at_ ta)) (mput (Str.ofString "rows") (some (.ref rl)) (mput (Str.ofString "lots") (some (.ref tl)) (mput (Str.ofString "box") (some (.ref bx)) (mput (Str.ofString "many") (some (.int n t2)) (mput (Str.ofString "moments") (some (.int m0 t3)) (mput (Str.ofString "delay") (some (.int (1125 * m0) t4)) mb))))))) ∧
      S = (bx, PySem.W.listOf [Value.ref bl, .int k tk].toArray c) :: (rl, PySem.W.listOf rvs.toArray c') :: blk ∧ Paired (RowB blk) rvs rs ∧ rs.length = i ∧ 0 ≤ k ∧ k ≤ 2 + 3 * i ∧ 0 ≤ at_ ∧ at_ ≤ 2 * i ∧
      (∀ r ∈ rs, 0 ≤ r.1 ∧ r.1 ≤ at_ ∧ 0 ≤ r.2.1 ∧ r.2.1 ≤ 1000) ∧ rs.Pairwise (fun a b => a.1 ≤ b.1) ∧ ∀ p ∈ blk, p.1 ≠ bx ∧ p.1 ≠ rl ∧ p.1 ≠ tl ∧ @LT.lt Nat _ (L' + 1 + 1 + 1) p.1) F2 N2 (SrcOk.range rfl hrg (small_one (by decide) (by decide) (by omega) (by omega)) (by rw [rangeSize_nat]; omega)) (fun _ h => (nomatch h)) ?_ ?_ ?_
  · exact exI10 m1 0 2 t1 tkb1 cb1 0 [] [] [] ⟨rfl, rfl, .nil, rfl, by omega, by omega, by omega, by omega, fun _ h => (nomatch h), .nil, fun _ h => (nomatch h)⟩
  ·
    rintro i v m₁ S₁ I oI h₁ tk₁ hi ⟨t, rfl⟩ hJ9 F₁ N₁ hSI hZI hIs U9 hU9
    refine exE10 hJ9 ?_
    clear hJ9
    rintro mb at_ k ta tk c c' rvs rs blk hJ9
    refine andE11 hJ9 ?_
    clear hJ9
    rintro rfl rfl hrs hlen hk0 hk1 ha0 ha1 hrr hpw hoff
    clear F2 N2
    have z1 : NeA bx I := neA (hSI _ (.head _))
    have z2 : NeA rl I := neA (hSI _ (.tail _ (.head _)))
    refine assign_any F₁ N₁ rfl rfl ?_
    intro h₂ F₂ N₂
    clear F₁ N₁
    have N₃ : News s.heap L' h₂ ((I, oI) :: (bx, PySem.W.listOf [Value.ref bl, .int k tk].toArray c) :: (rl, PySem.W.listOf rvs.toArray c') :: (bl, PySem.W.listOf ws.toArray cbl) :: (tl, PySem.W.listOf [].toArray 0) :: (L' + 1 + 1 + 1, o1) :: (L' + 1 + 1, o2) :: (L' + 1, o3) :: blk) :=
      (news_of N₂ (.head _) (news_of N₂ (.tail _ (.head _)) (news_of N₂ (.tail _ (.tail _ (.head _))) (news_of N₂ (.tail _ (.tail _ (.tail _ (List.mem_append_right _ (.tail _ (.head _)))))) (news_of N₂ (.tail _ (.tail _ (.tail _ (List.mem_append_right _ (.head _))))) (news_of N₂ (.tail _ (.tail _ (.tail _ (List.mem_append_right _ (.tail _ (.tail _ (.head _))))))) (news_of N₂ (.tail _ (.tail _ (.tail _ (List.mem_append_right _ (.tail _ (.tail _ (.tail _ (.head _)))))))) (news_of N₂ (.tail _ (.tail _ (.tail _ (List.mem_append_right _ (.tail _ (.tail _ (.tail _ (.tail _ (.head _))))))))) (news_sub N₂ fun p hp => (.tail _ (.tail _ (.tail _ (List.mem_append_left _ hp)))))))))))))
    clear N₂
    have bz1 : ∀ p ∈ blk, p.1 ≠ bx := fun p hp => (hoff p hp).1
    have bz2 : ∀ p ∈ blk, p.1 ≠ rl := fun p hp => (hoff p hp).2.1
    have hrl : rvs.length = i := by rw [hrs.length, hlen]
    have hrl2 : rvs.length ≤ 10000 := by omega
    have rowIn : ∀ (blk' : List (Addr × Obj)) (x : Value) (r : Row), (∀ p ∈ blk, p ∈ blk') → RowB blk' x r → Paired (RowB blk') (rvs ++ [x]) (rs ++ [r]) := fun blk' x r hb hx => Paired.snoc (Paired.mono (fun _ _ y => y.mono hb) hrs) hx
    have rowLen : ∀ r : Row, (rs ++ [r]).length = i + 1 := fun r => by rw [List.length_append, hlen]; rfl
    have rowR : ∀ (r : Row) (at' : Int), r.1 = at' → at_ ≤ at' → 0 ≤ r.2.1 → r.2.1 ≤ 1000 → ∀ q ∈ rs ++ [r], 0 ≤ q.1 ∧ q.1 ≤ at' ∧ 0 ≤ q.2.1 ∧ q.2.1 ≤ 1000 := fun r at' e hle h0 h1 q hq => by
      rcases List.mem_append.mp hq with hq | hq
      · have := hrr q hq; omega
      · rw [List.mem_singleton.mp hq]; omega
    have rowP : ∀ r : Row, at_ ≤ r.1 → (rs ++ [r]).Pairwise (fun a b => a.1 ≤ b.1) := fun r hle =>
      List.pairwise_append.mpr ⟨hpw, List.pairwise_singleton _ _, fun a ha b hb => by
        rw [List.mem_singleton.mp hb]
        have := hrr a ha; omega⟩
    k_steps
    · rename_i ra tra tka ca _ _ _ _ hra0 hra1 _ _ rb _ tkb cb' _ _ hrb0 hrb1 rc _ tkc cc _ _ hrc0 hrc1 Dk _ _ _ _ _ _ hkind Dp _ lp Dl _ ll Dt _ lt1 _ FE NE
      rw [List.push_toArray] at NE
      have FP := (Fr.put (k := Str.ofString "at") (Fr.put (k := Str.ofString "rows") (Fr.put (k := Str.ofString "lots") (Fr.put (k := Str.ofString "box") (Fr.put (k := Str.ofString "many") (Fr.put (k := Str.ofString "moments") (Fr.put (k := Str.ofString "delay") FE rfl) rfl) rfl) rfl) rfl) rfl) rfl)
      refine hU9 _ _ ?_
      refine' TurnEnd.mk ((bx, _) :: (rl, _) :: (Dt, _) :: (Dl, _) :: (Dp, _) :: blk) FP (news_of NE (.tail _ (.tail _ (.tail _ (.tail _ (.head _))))) (news_of NE (.tail _ (.tail _ (.tail _ (.tail _ (.tail _ (.head _)))))) (news_of NE (.tail _ (.tail _ (.tail _ (.tail _ (.tail _ (.tail _ (.head _))))))) (news_of NE (.head _) (news_of NE (.tail _ (.head _)) (news_of NE (.tail _ (.tail _ (.head _))) (News.join (news_sub NE fun p hp => (.tail _ (.tail _ (.tail _ (.tail _ (.tail _ (.tail _ (.tail _ (.tail _ (.tail _ (.tail _ (.tail _ (.tail _ hp))))))))))))) (news_of NE (.tail _ (.tail _ (.tail _ (.tail _ (.tail _ (.tail _ (.tail _ (.tail _ (.head _))))))))) (news_of NE (.tail _ (.tail _ (.tail _ (.tail _ (.tail _ (.tail _ (.tail _ (.head _)))))))) (news_of NE (.tail _ (.tail _ (.tail _ (.tail _ (.tail _ (.tail _ (.tail _ (.tail _ (.tail _ (.head _)))))))))) (news_of NE (.tail _ (.tail _ (.tail _ (.tail _ (.tail _ (.tail _ (.tail _ (.tail _ (.tail _ (.tail _ (.head _))))))))))) (news_of NE (.tail _ (.tail _ (.tail _ (.tail _ (.tail _ (.tail _ (.tail _ (.tail _ (.tail _ (.tail _ (.tail _ (.head _)))))))))))) News.nil)))))))))))) ?zS (exI10 _ (at_ + ra) _ _ _ _ _ (rvs ++ [.ref Dt]) (rs ++ [(at_ + ra, 40 + 10 * rb, true)]) ((Dt, _) :: (Dl, _) :: (Dp, _) :: blk) ⟨rfl, rfl, ?zp, ?zl, ?zk0, ?zk1, ?za0, ?za1, ?zr, ?zw, ?zo⟩)
      all_goals clear FE FP NE
      case zk0 => omega
      case zk1 => omega
      case za0 => omega
      case za1 => omega
      case zp => exact (rowIn _ _ _ (fun p hp => .tail _ (.tail _ (.tail _ hp))) (fun h hg => ⟨Dt, _, _, _, Dl, rfl, hg _ (.head _), Dp, _, hg _ (.tail _ (.head _)), _, _, hg _ (.tail _ (.tail _ (.head _)))⟩))
      case zl => exact rowLen _
      case zr => exact rowR _ (at_ + ra) rfl (by omega) (by dsimp only; omega) (by dsimp only; omega)
      case zw => exact rowP _ (by dsimp only; omega)
      case zo =>
        intro p hp
        rcases List.mem_cons.mp hp with rfl | hp
        · exact ⟨(neL (by omega) : NeA bx Dt).outs, (neL (by omega) : NeA rl Dt).outs, (neL (by omega) : NeA tl Dt).outs, (by show @LT.lt Nat _ (L' + 1 + 1 + 1) Dt; omega)⟩
        rcases List.mem_cons.mp hp with rfl | hp
        · exact ⟨(neL (by omega) : NeA bx Dl).outs, (neL (by omega) : NeA rl Dl).outs, (neL (by omega) : NeA tl Dl).outs, (by show @LT.lt Nat _ (L' + 1 + 1 + 1) Dl; omega)⟩
        rcases List.mem_cons.mp hp with rfl | hp
        · exact ⟨(neL (by omega) : NeA bx Dp).outs, (neL (by omega) : NeA rl Dp).outs, (neL (by omega) : NeA tl Dp).outs, (by show @LT.lt Nat _ (L' + 1 + 1 + 1) Dp; omega)⟩
        exact hoff p hp
      case zS =>
        intro p hp
        rcases List.mem_cons.mp hp with rfl | hp
        · exact z1.out
        rcases List.mem_cons.mp hp with rfl | hp
        · exact z2.out
        rcases List.mem_cons.mp hp with rfl | hp
        · exact (neL (by omega) : NeA I Dt).outs
        rcases List.mem_cons.mp hp with rfl | hp
        · exact (neL (by omega) : NeA I Dl).outs
        rcases List.mem_cons.mp hp with rfl | hp
        · exact (neL (by omega) : NeA I Dp).outs
        exact hSI p (.tail _ (.tail _ hp))
    · rename_i ra tra tka ca _ _ _ _ hra0 hra1 _ _ rb _ tkb cb' _ _ hrb0 hrb1 rc _ tkc cc _ _ hrc0 hrc1 Dk _ _ _ _ _ _ hkind Dz _ _ La _ _ Dp _ lp Dl _ ll Dt _ lt1 _ FE NE
      rw [List.push_toArray] at NE
      have FP := (Fr.put (k := Str.ofString "at") (Fr.put (k := Str.ofString "rows") (Fr.put (k := Str.ofString "lots") (Fr.put (k := Str.ofString "box") (Fr.put (k := Str.ofString "many") (Fr.put (k := Str.ofString "moments") (Fr.put (k := Str.ofString "delay") FE rfl) rfl) rfl) rfl) rfl) rfl) rfl)
      refine hU9 _ _ ?_
      refine' TurnEnd.mk ((bx, _) :: (rl, _) :: (Dt, _) :: (Dl, _) :: (Dp, _) :: blk) FP (news_of NE (.tail _ (.tail _ (.tail _ (.tail _ (.tail _ (.tail _ (.head _))))))) (news_of NE (.tail _ (.tail _ (.tail _ (.tail _ (.tail _ (.tail _ (.tail _ (.head _)))))))) (news_of NE (.tail _ (.tail _ (.tail _ (.tail _ (.tail _ (.tail _ (.tail _ (.tail _ (.head _))))))))) (news_of NE (.head _) (news_of NE (.tail _ (.head _)) (news_of NE (.tail _ (.tail _ (.head _))) (News.join (news_sub NE fun p hp => (.tail _ (.tail _ (.tail _ (.tail _ (.tail _ (.tail _ (.tail _ (.tail _ (.tail _ (.tail _ (.tail _ (.tail _ (.tail _ (.tail _ hp))))))))))))))) (news_of NE (.tail _ (.tail _ (.tail _ (.tail _ (.tail _ (.tail _ (.tail _ (.tail _ (.tail _ (.tail _ (.head _))))))))))) (news_of NE (.tail _ (.tail _ (.tail _ (.tail _ (.tail _ (.tail _ (.tail _ (.tail _ (.tail _ (.head _)))))))))) (news_of NE (.tail _ (.tail _ (.tail _ (.tail _ (.tail _ (.tail _ (.tail _ (.tail _ (.tail _ (.tail _ (.tail _ (.head _)))))))))))) (news_of NE (.tail _ (.tail _ (.tail _ (.tail _ (.tail _ (.tail _ (.tail _ (.tail _ (.tail _ (.tail _ (.tail _ (.tail _ (.head _))))))))))))) (news_of NE (.tail _ (.tail _ (.tail _ (.tail _ (.tail _ (.tail _ (.tail _ (.tail _ (.tail _ (.tail _ (.tail _ (.tail _ (.tail _ (.head _)))))))))))))) News.nil)))))))))))) ?zS (exI10 _ (at_ + ra) _ _ _ _ _ (rvs ++ [.ref Dt]) (rs ++ [(at_ + ra, 40 + 10 * rb, false)]) ((Dt, _) :: (Dl, _) :: (Dp, _) :: blk) ⟨rfl, rfl, ?zp, ?zl, ?zk0, ?zk1, ?za0, ?za1, ?zr, ?zw, ?zo⟩)
      all_goals clear FE FP NE
      case zk0 => omega
      case zk1 => omega
      case za0 => omega
      case za1 => omega
      case zp => exact (rowIn _ _ _ (fun p hp => .tail _ (.tail _ (.tail _ hp))) (fun h hg => ⟨Dt, _, _, _, Dl, rfl, hg _ (.head _), Dp, _, hg _ (.tail _ (.head _)), _, _, _, _, _, hg _ (.tail _ (.tail _ (.head _)))⟩))
      case zl => exact rowLen _
      case zr => exact rowR _ (at_ + ra) rfl (by omega) (by dsimp only; omega) (by dsimp only; omega)
      case zw => exact rowP _ (by dsimp only; omega)
      case zo =>
        intro p hp
        rcases List.mem_cons.mp hp with rfl | hp
        · exact ⟨(neL (by omega) : NeA bx Dt).outs, (neL (by omega) : NeA rl Dt).outs, (neL (by omega) : NeA tl Dt).outs, (by show @LT.lt Nat _ (L' + 1 + 1 + 1) Dt; omega)⟩
        rcases List.mem_cons.mp hp with rfl | hp
        · exact ⟨(neL (by omega) : NeA bx Dl).outs, (neL (by omega) : NeA rl Dl).outs, (neL (by omega) : NeA tl Dl).outs, (by show @LT.lt Nat _ (L' + 1 + 1 + 1) Dl; omega)⟩
        rcases List.mem_cons.mp hp with rfl | hp
        · exact ⟨(neL (by omega) : NeA bx Dp).outs, (neL (by omega) : NeA rl Dp).outs, (neL (by omega) : NeA tl Dp).outs, (by show @LT.lt Nat _ (L' + 1 + 1 + 1) Dp; omega)⟩
        exact hoff p hp
      case zS =>
        intro p hp
        rcases List.mem_cons.mp hp with rfl | hp
        · exact z1.out
        rcases List.mem_cons.mp hp with rfl | hp
        · exact z2.out
        rcases List.mem_cons.mp hp with rfl | hp
        · exact (neL (by omega) : NeA I Dt).outs
        rcases List.mem_cons.mp hp with rfl | hp
        · exact (neL (by omega) : NeA I Dl).outs
        rcases List.mem_cons.mp hp with rfl | hp
        · exact (neL (by omega) : NeA I Dp).outs
        exact hSI p (.tail _ (.tail _ hp))
  · rintro m₁ S₁ h₁ tk₁ hJ9 F₁ N₁
    refine exE10 hJ9 ?_
    clear hJ9
    rintro mb at_ k ta tk c c' rvs rs blk hJ9
    refine andE11 hJ9 ?_
    clear hJ9
    rintro rfl rfl hrs hlen hk0 hk1 ha0 ha1 hrr hpw hoff
    clear F2 N2
    have N₃ : News s.heap L' h₁ ((bx, PySem.W.listOf [Value.ref bl, .int k tk].toArray c) :: (rl, PySem.W.listOf rvs.toArray c') :: (bl, PySem.W.listOf ws.toArray cbl) :: (tl, PySem.W.listOf [].toArray 0) :: (L' + 1 + 1 + 1, o1) :: (L' + 1 + 1, o2) :: (L' + 1, o3) :: blk) :=
      (news_of N₁ (.head _) (news_of N₁ (.tail _ (.head _)) (news_of N₁ (.tail _ (.tail _ (List.mem_append_right _ (.tail _ (.head _))))) (news_of N₁ (.tail _ (.tail _ (List.mem_append_right _ (.head _)))) (news_of N₁ (.tail _ (.tail _ (List.mem_append_right _ (.tail _ (.tail _ (.head _)))))) (news_of N₁ (.tail _ (.tail _ (List.mem_append_right _ (.tail _ (.tail _ (.tail _ (.head _))))))) (news_of N₁ (.tail _ (.tail _ (List.mem_append_right _ (.tail _ (.tail _ (.tail _ (.tail _ (.head _)))))))) (news_sub N₁ fun p hp => (.tail _ (.tail _ (List.mem_append_left _ hp)))))))))))
    clear N₁
    have bz1 : ∀ p ∈ blk, p.1 ≠ bx := fun p hp => (hoff p hp).1
    k_steps
    rename_i r2 _ tkb2 cb2 _ _ hr4 hr5 D3 _ lh _ _ _ _ _ F3 N3
    obtain ⟨nc, hnc⟩ : ∃ nc : Nat, (nc : Int) = 2 + r2 := ⟨(2 + r2).toNat, by omega⟩
    obtain ⟨k2, hk2'⟩ : ∃ k2 : Int, k2 = k + 1 := ⟨_, rfl⟩
    refine stop_out (cut (fun h => ∃ (mb : Str → Option Value) (t1 t2 t3 t4 t5 t6 : Tok),
      Fr s.heap L' h (mput (Str.ofString "at") (some (.int at_ t1)) (mput (Str.ofString "rows") (some (.ref rl)) (mput (Str.ofString "lots") (some (.ref tl)) (mput (Str.ofString "box") (some (.ref bx)) (mput (Str.ofString "many") (some (.int n t2)) (mput (Str.ofString "moments") (some (.int m0 t3)) (mput (Str.ofString "delay") (some (.int (1125 * m0) t4)) (mput (Str.ofString "count") (some (.int nc t5)) (mput (Str.ofString "moment") (some (.int 3 t6)) mb))))))))) ∧
      News s.heap L' h ((bx, PySem.W.listOf [Value.ref bl, .int k2 tkb2].toArray cb2) :: (tl, PySem.W.listOf [].toArray 0) :: (rl, PySem.W.listOf rvs.toArray c') :: (bl, PySem.W.listOf ws.toArray cbl) :: (L' + 1 + 1 + 1, o1) :: (L' + 1 + 1, o2) :: (L' + 1, o3) :: blk))
      (exI7 _ _ _ _ _ _ _ ⟨by
        rw [hnc]
        exact (Fr.put (k := Str.ofString "at") (Fr.put (k := Str.ofString "rows") (Fr.put (k := Str.ofString "lots") (Fr.put (k := Str.ofString "box") (Fr.put (k := Str.ofString "many") (Fr.put (k := Str.ofString "moments") (Fr.put (k := Str.ofString "delay") (Fr.put (k := Str.ofString "count") (Fr.put (k := Str.ofString "moment") F3 rfl) rfl) rfl) rfl) rfl) rfl) rfl) rfl) rfl), by
        rw [hk2']
        exact (news_of N3 (.tail _ (.head _)) (news_of N3 (.tail _ (.tail _ (.tail _ (.tail _ (.head _))))) (news_of N3 (.tail _ (.tail _ (.head _))) (news_of N3 (.tail _ (.tail _ (.tail _ (.head _)))) (news_of N3 (.tail _ (.tail _ (.tail _ (.tail _ (.tail _ (.head _)))))) (news_of N3 (.tail _ (.tail _ (.tail _ (.tail _ (.tail _ (.tail _ (.head _))))))) (news_of N3 (.tail _ (.tail _ (.tail _ (.tail _ (.tail _ (.tail _ (.tail _ (.head _)))))))) (news_sub N3 fun p hp => (.tail _ (.tail _ (.tail _ (.tail _ (.tail _ (.tail _ (.tail _ (.tail _ hp))))))))))))))))⟩) ?_)
    clear F3 N3 hrg hk2
    intro h4 tk4 hJ9
    refine exE7 hJ9 ?_
    clear hJ9
    rintro mb2 t1 t2 t3 t4 t5 t6 ⟨F, N⟩
    refine for_S (h₀ := s.heap) ?_ (by intro _; rfl)
    k_steps
    rename_i h2 tk2 t1' u1' v1' hrg F2 N2 hk2
    refine ForGo.mk _ [(bx, PySem.W.listOf [Value.ref bl, .int k2 tkb2].toArray cb2), (tl, PySem.W.listOf [].toArray 0)] ((rl, PySem.W.listOf rvs.toArray c') :: (bl, PySem.W.listOf ws.toArray cbl) :: (L' + 1 + 1 + 1, o1) :: (L' + 1 + 1, o2) :: (L' + 1, o3) :: blk) [] nc _ (fun i mm S => ∃ (mb : Str → Option Value) (k : Int) (tk : Tok) (cq cr : Nat) (mo : Int) (tmo : Tok) (ds : List LotD),
        mm = (mput (Str.ofString "at") (some (.int at_ t1)) (mput (Str.ofString "rows") (some (.ref rl)) (mput (Str.ofString "lots") (some (.ref tl)) (mput (Str.ofString "box") (some (.ref bx)) (mput (Str.ofString "many") (some (.int n t2)) (mput (Str.ofString "moments") (some (.int m0 t3)) (mput (Str.ofString "delay") (some (.int (1125 * m0) t4)) (mput (Str.ofString "count") (some (.int nc t5)) (mput (Str.ofString "moment") (some (.int mo tmo)) mb))))))))) ∧
        S = (bx, PySem.W.listOf [Value.ref bl, .int k tk].toArray cq) :: (tl, PySem.W.listOf (dvs ds).toArray cr) :: (dts ds ++ dls ds) ∧ ds.length = i ∧ 0 ≤ k ∧ k ≤ 27 + i ∧ 3 ≤ mo ∧ mo ≤ 3 + 5 * i ∧ (∀ d ∈ ds, d.nvs = [] ∧ d.ns = []) ∧ LotsApt bx tl (L' + 1 + 1 + 1) ((rl, PySem.W.listOf rvs.toArray c') :: (bl, PySem.W.listOf ws.toArray cbl) :: (L' + 1 + 1 + 1, o1) :: (L' + 1 + 1, o2) :: (L' + 1, o3) :: blk) ds) F2 N2 (SrcOk.range rfl hrg (small_one (by decide) (by decide) (by omega) (by omega)) (by rw [rangeSize_nat]; omega)) (fun _ h => (nomatch h)) ?_ ?_ ?_
    · exact exI8 mb2 k2 tkb2 cb2 0 3 t6 [] ⟨rfl, rfl, rfl, by omega, by omega, by omega, by omega, fun _ h => (nomatch h), .nil⟩
    ·
      rintro i v m₁ S₁ I oI h₁ tk₁ hi ⟨t, rfl⟩ hJ9 F₁ N₁ hSI hZI hIs U9 hU9
      refine exE8 hJ9 ?_
      clear hJ9
      rintro mb k3 tk3 c3 cl mo tmo ds hJ9
      refine andE9 hJ9 ?_
      clear hJ9
      rintro rfl rfl hdl hk30 hk31 hmo0 hmo1 hde hap
      clear F2 N2
      have z1 : NeA bx I := neA (hSI _ (.head _))
      have z2 : NeA tl I := neA (hSI _ (.tail _ (.head _)))
      refine assign_any F₁ N₁ rfl rfl ?_
      intro h₂ F₂ N₂
      clear F₁ N₁
      obtain ⟨T, hT⟩ : ∃ T, T = blk ++ (dts ds ++ dls ds) := ⟨_, rfl⟩
      have N₃ : News s.heap L' h₂ ((I, oI) :: (bx, PySem.W.listOf [Value.ref bl, .int k3 tk3].toArray c3) :: (tl, PySem.W.listOf (dvs ds).toArray cl) :: (rl, PySem.W.listOf rvs.toArray c') :: (bl, PySem.W.listOf ws.toArray cbl) :: (L' + 1 + 1 + 1, o1) :: (L' + 1 + 1, o2) :: (L' + 1, o3) :: T) := by
        rw [hT]
        exact (news_of N₂ (.head _) (news_of N₂ (.tail _ (.head _)) (news_of N₂ (.tail _ (.tail _ (.head _))) (news_of N₂ (.tail _ (.tail _ (.tail _ (List.mem_append_right _ (.head _))))) (news_of N₂ (.tail _ (.tail _ (.tail _ (List.mem_append_right _ (.tail _ (.head _)))))) (news_of N₂ (.tail _ (.tail _ (.tail _ (List.mem_append_right _ (.tail _ (.tail _ (.head _))))))) (news_of N₂ (.tail _ (.tail _ (.tail _ (List.mem_append_right _ (.tail _ (.tail _ (.tail _ (.head _)))))))) (news_of N₂ (.tail _ (.tail _ (.tail _ (List.mem_append_right _ (.tail _ (.tail _ (.tail _ (.tail _ (.head _))))))))) (news_sub N₂ fun p hp => (List.mem_append.mp hp).elim (fun hp => .tail _ (.tail _ (.tail _ (List.mem_append_right _ (.tail _ (.tail _ (.tail _ (.tail _ (.tail _ hp))))))))) (fun hp => .tail _ (.tail _ (.tail _ (List.mem_append_left _ hp)))))))))))))
      clear N₂
      have bz1 : ∀ p ∈ T, p.1 ≠ bx := by
        rw [hT]; exact fun p hp => (List.mem_append.mp hp).elim (fun h => (hoff p h).1) fun h => (hap.bt p h).1
      have bz2 : ∀ p ∈ T, p.1 ≠ tl := by
        rw [hT]; exact fun p hp => (List.mem_append.mp hp).elim (fun h => (hoff p h).2.2.1) fun h => (hap.bt p h).2.1
      have hdv : (dvs ds).length ≤ 10000 := by rw [dvs_len]; omega
      k_steps
      rename_i ra _ tka ca _ _ _ _ hra0 hra1 _ _ Dn _ ln Dt _ lt1 _ FE NE
      rw [List.push_toArray] at NE
      have FP := (Fr.put (k := Str.ofString "at") (Fr.put (k := Str.ofString "rows") (Fr.put (k := Str.ofString "lots") (Fr.put (k := Str.ofString "box") (Fr.put (k := Str.ofString "many") (Fr.put (k := Str.ofString "moments") (Fr.put (k := Str.ofString "delay") (Fr.put (k := Str.ofString "count") (Fr.put (k := Str.ofString "moment") FE rfl) rfl) rfl) rfl) rfl) rfl) rfl) rfl) rfl)
      obtain ⟨d, hdN, hd1, hd2, hd3, hd4, hd5⟩ : ∃ d : LotD, News s.heap L' _ [d.tup, d.lst] ∧ d.t = Dt ∧ d.nl = Dn ∧ d.mom = mo + 1 + ra ∧ d.nvs = [] ∧ d.ns = [] :=
        ⟨⟨Dt, Dn, _, _, _, mo + 1 + ra, [], []⟩, (news_of NE (.head _) (news_of NE (.tail _ (.head _)) News.nil)), rfl, rfl, rfl, rfl, rfl⟩
      have ev : dvs ds ++ [.ref Dt] = dvs (ds ++ [d]) := by rw [dvs_snoc, hd1]
      rw [ev] at NE
      subst hT
      have NB : News s.heap L' _ (dts (ds ++ [d]) ++ dls (ds ++ [d])) := lots_snoc (news_sub NE fun p hp => .tail _ (.tail _ (.tail _ (.tail _ (.tail _ (.tail _ (.tail _ (.tail _ (.tail _ (.tail _ (List.mem_append_right _ hp))))))))))) hdN
      have NZ : News s.heap L' _ ((rl, PySem.W.listOf rvs.toArray c') :: (bl, PySem.W.listOf ws.toArray cbl) :: (L' + 1 + 1 + 1, o1) :: (L' + 1 + 1, o2) :: (L' + 1, o3) :: blk) := (news_of NE (.tail _ (.tail _ (.tail _ (.tail _ (.tail _ (.head _)))))) (news_of NE (.tail _ (.tail _ (.tail _ (.tail _ (.tail _ (.tail _ (.head _))))))) (news_of NE (.tail _ (.tail _ (.tail _ (.tail _ (.tail _ (.tail _ (.tail _ (.head _)))))))) (news_of NE (.tail _ (.tail _ (.tail _ (.tail _ (.tail _ (.tail _ (.tail _ (.tail _ (.head _))))))))) (news_of NE (.tail _ (.tail _ (.tail _ (.tail _ (.tail _ (.tail _ (.tail _ (.tail _ (.tail _ (.head _)))))))))) (news_sub NE fun p hp => .tail _ (.tail _ (.tail _ (.tail _ (.tail _ (.tail _ (.tail _ (.tail _ (.tail _ (.tail _ (List.mem_append_left _ hp))))))))))))))))
      obtain ⟨n1, n2, n3, n4, n5, n6, n7, n8, n9⟩ := ln
      have n10 := kst_ltOf n9
      refine hU9 _ _ ?_
      refine' TurnEnd.mk ((bx, _) :: (tl, _) :: (dts (ds ++ [d]) ++ dls (ds ++ [d]))) FP (news_of NE (.tail _ (.tail _ (.head _))) (news_of NE (.tail _ (.tail _ (.tail _ (.head _)))) (news_of NE (.tail _ (.tail _ (.tail _ (.tail _ (.head _))))) (News.join NB NZ)))) ?zS (exI8 _ (k3 + 1) _ _ _ (mo + 1 + ra) _ (ds ++ [d]) ⟨rfl, rfl, ?zl, ?zk0, ?zk1, ?za0, ?za1, ?zr, ?zo⟩)
      all_goals clear FE FP NE NB NZ
      case zl => rw [List.length_append, hdl]; rfl
      case zk0 => omega
      case zk1 => omega
      case za0 => omega
      case za1 => omega
      case zr =>
        intro e he
        rcases List.mem_append.mp he with he | he
        · exact hde e he
        · rw [List.mem_singleton.mp he]; exact ⟨hd4, hd5⟩
      case zo =>
        refine hap.snoc (by rw [hd2]; exact n6) (by rw [hd2]; exact n2) (by rw [hd2]; exact n3) ?_ ?_ (by rw [hd2, hd1]; exact lt1.1)
        · rw [hd2]
          exact lt_cons n4 (lt_cons n5 (lt_cons n6 (lt_cons n7 (lt_cons n8 fun p hp => n10 p (List.mem_append_left _ hp)))))
        · rw [hd2]
          exact fun p hp => n10 p (List.mem_append_right _ hp)
      case zS =>
        intro p hp
        rcases List.mem_cons.mp hp with rfl | hp
        · exact z1.out
        rcases List.mem_cons.mp hp with rfl | hp
        · exact z2.out
        rw [dts_snoc, dls_snoc] at hp
        have m1 : ∀ p ∈ dts ds ++ dls ds, p.1 ≠ I := fun p hp => hSI p (.tail _ (.tail _ hp))
        rcases List.mem_append.mp hp with hp | hp
        · rcases List.mem_append.mp hp with hp | hp
          · exact m1 p (List.mem_append_left _ hp)
          · rw [List.mem_singleton.mp hp]
            show d.t ≠ I
            rw [hd1]; exact (neL (by omega) : NeA I Dt).outs
        · rcases List.mem_append.mp hp with hp | hp
          · exact m1 p (List.mem_append_right _ hp)
          · rw [List.mem_singleton.mp hp]
            show d.nl ≠ I
            rw [hd2]; exact (neL (by omega) : NeA I Dn).outs
    · rintro m₁ S₁ h₁ tk₁ hJ9 F₁ N₁
      refine exE8 hJ9 ?_
      clear hJ9
      rintro mb k3 tk3 c3 cl mo tmo ds hJ9
      refine andE9 hJ9 ?_
      clear hJ9
      rintro rfl rfl hdl hk30 hk31 hmo0 hmo1 hde hap
      clear F2 N2 hrg hk2
      have N₃ : News s.heap L' h₁ ((bx, PySem.W.listOf [Value.ref bl, .int k3 tk3].toArray c3) :: (L' + 1, o3) :: ((dts ds ++ dls ds) ++ ((tl, PySem.W.listOf (dvs ds).toArray cl) :: (rl, PySem.W.listOf rvs.toArray c') :: (bl, PySem.W.listOf ws.toArray cbl) :: (L' + 1 + 1 + 1, o1) :: (L' + 1 + 1, o2) :: blk))) :=
        news_of N₁ (.head _) (news_of N₁ (.tail _ (.tail _ (List.mem_append_right _ (.tail _ (.tail _ (.tail _ (.tail _ (.head _)))))))) (News.join (news_sub N₁ fun p hp => .tail _ (.tail _ (List.mem_append_left _ hp))) (news_of N₁ (.tail _ (.head _)) (news_of N₁ (.tail _ (.tail _ (List.mem_append_right _ (.head _)))) (news_of N₁ (.tail _ (.tail _ (List.mem_append_right _ (.tail _ (.head _))))) (news_of N₁ (.tail _ (.tail _ (List.mem_append_right _ (.tail _ (.tail _ (.head _)))))) (news_of N₁ (.tail _ (.tail _ (List.mem_append_right _ (.tail _ (.tail _ (.tail _ (.head _))))))) (news_sub N₁ fun p hp => .tail _ (.tail _ (List.mem_append_right _ (.tail _ (.tail _ (.tail _ (.tail _ (.tail _ hp)))))))))))))))
      clear N₁
      k_steps
      refine stop_out ?_
      refine for_S (h₀ := s.heap) ?_ (by intro _; rfl)
      k_steps
      rename_i h2 tk2 t1' u1' v1' hrg F2 N2 hk2
      refine ForGo.mk _ ((bx, PySem.W.listOf [Value.ref bl, .int k3 tk3].toArray c3) :: (L' + 1, o3) :: (dts ds ++ dls ds)) ((tl, PySem.W.listOf (dvs ds).toArray cl) :: (rl, PySem.W.listOf rvs.toArray c') :: (bl, PySem.W.listOf ws.toArray cbl) :: (L' + 1 + 1 + 1, o1) :: (L' + 1 + 1, o2) :: blk) [] n _ (fun i mm S => ∃ (mb : Str → Option Value) (k : Int) (tk : Tok) (cq : Nat) (oc : Obj) (es : List LotD) (v0 : Option Value),
          mm = (mput (Str.ofString "at") (some (.int at_ t1)) (mput (Str.ofString "rows") (some (.ref rl)) (mput (Str.ofString "lots") (some (.ref tl)) (mput (Str.ofString "box") (some (.ref bx)) (mput (Str.ofString "many") (some (.int n t2)) (mput (Str.ofString "moments") (some (.int m0 t3)) (mput (Str.ofString "delay") (some (.int (1125 * m0) t4)) (mput (Str.ofString "count") (some (.int nc t5)) (mput (Str.ofString "moment") (some (.int mo tmo)) mb))))))))) ∧
          S = (bx, PySem.W.listOf [Value.ref bl, .int k tk].toArray cq) :: (L' + 1, oc) :: (dts es ++ dls es) ∧ oc.data = .cell v0 ∧ es.length = nc ∧ dvs es = dvs ds ∧ 0 ≤ k ∧ k ≤ 40 + i ∧ (∀ d ∈ es, LotOk rs i d) ∧ LotsApt bx tl (L' + 1 + 1 + 1) ((rl, PySem.W.listOf rvs.toArray c') :: (bl, PySem.W.listOf ws.toArray cbl) :: (L' + 1 + 1 + 1, o1) :: (L' + 1 + 1, o2) :: (L' + 1, o3) :: blk) es) F2 N2 (SrcOk.range rfl hrg (small_one (by decide) (by decide) (by omega) (by omega)) (by rw [rangeSize_nat]; omega)) (fun _ h => (nomatch h)) ?_ ?_ ?_
      · exact exI7 mb k3 tk3 c3 o3 ds _ ⟨rfl, rfl, e3, hdl, rfl, by omega, by omega, fun d hd => ⟨by rw [(hde d hd).1, (hde d hd).2]; exact .nil, by rw [(hde d hd).2]; exact Nat.zero_le _, by rw [(hde d hd).2]; exact fun _ h => (nomatch h)⟩, hap⟩
      ·
        clear F2 N2
        rintro i v m₁ S₁ I oI h₁ tk₁ hi ⟨t, rfl⟩ hJ9 F₁ N₁ hSI hZI hIs U9 hU9
        refine exE7 hJ9 ?_
        clear hJ9
        rintro mb k4 tk4 c4 oc es v0 hJ9
        refine andE9 hJ9 ?_
        clear hJ9
        rintro rfl rfl hoc hel hev hk40 hk41 hes hep
        have z1 : NeA bx I := neA (hSI _ (.head _))
        have z2 : NeA (L' + 1) I := neA (hSI _ (.tail _ (.head _)))
        obtain ⟨T, hT⟩ : ∃ T, T = blk ++ (dts es ++ dls es) := ⟨_, rfl⟩
        have N₃ : News s.heap L' h₁ ((I, oI) :: (bx, PySem.W.listOf [Value.ref bl, .int k4 tk4].toArray c4) :: (L' + 1, oc) :: (tl, PySem.W.listOf (dvs ds).toArray cl) :: (rl, PySem.W.listOf rvs.toArray c') :: (bl, PySem.W.listOf ws.toArray cbl) :: (L' + 1 + 1 + 1, o1) :: (L' + 1 + 1, o2) :: T) := by
          rw [hT]
          exact (news_of N₁ (.head _) (news_of N₁ (.tail _ (.head _)) (news_of N₁ (.tail _ (.tail _ (.head _))) (news_of N₁ (.tail _ (.tail _ (.tail _ (List.mem_append_right _ (.head _))))) (news_of N₁ (.tail _ (.tail _ (.tail _ (List.mem_append_right _ (.tail _ (.head _)))))) (news_of N₁ (.tail _ (.tail _ (.tail _ (List.mem_append_right _ (.tail _ (.tail _ (.head _))))))) (news_of N₁ (.tail _ (.tail _ (.tail _ (List.mem_append_right _ (.tail _ (.tail _ (.tail _ (.head _)))))))) (news_of N₁ (.tail _ (.tail _ (.tail _ (List.mem_append_right _ (.tail _ (.tail _ (.tail _ (.tail _ (.head _))))))))) (news_sub N₁ fun p hp => (List.mem_append.mp hp).elim (fun hp => .tail _ (.tail _ (.tail _ (List.mem_append_right _ (.tail _ (.tail _ (.tail _ (.tail _ (.tail _ hp))))))))) (fun hp => .tail _ (.tail _ (.tail _ (List.mem_append_left _ hp)))))))))))))
        clear N₁
        have bz1 : ∀ p ∈ T, p.1 ≠ bx := by
          rw [hT]; exact fun p hp => (List.mem_append.mp hp).elim (fun h => (hoff p h).1) fun h => (hep.bt p h).1
        have bz2 : ∀ p ∈ T, p.1 ≠ L' + 1 := by
          rw [hT]
          intro p hp
          have q : @LT.lt Nat _ (L' + 1 + 1 + 1) p.1 := (List.mem_append.mp hp).elim (fun h => (hoff p h).2.2.2) fun h => (hep.bt p h).2.2
          exact Nat.ne_of_gt (Nat.lt_trans (Nat.lt_succ_of_lt (Nat.lt_succ_self _)) q)
        refine' assign_cell F₁ N₃ rfl ?U hoc ?_
        case U => k_updF
        intro h₂ o4 F₂ N₂ hoc2
        try dsimp only at N₂
        clear F₁ N₃
        obtain ⟨r, hri⟩ : ∃ r, rs[i]? = some r := ⟨rs[i]'(by omega), List.getElem?_eq_getElem _⟩
        obtain ⟨rv, hrv, hRB⟩ := Paired.get hrs hri
        have hlit : rvs[((0 : Int) + (i : Int)).toNat]? = some rv := by rw [show ((0 : Int) + (i : Int)).toNat = i by omega]; exact hrv
        k_steps
        · rename_i ra tra tka ca _ _ hra0 hra1 _ FE NE hsp
          subst hT
          obtain ⟨tr, ntr, tr1, tr2, fl, rfl, htr, _⟩ := hRB _ fun p hp => NE.get (.tail _ (.tail _ (.tail _ (.tail _ (.tail _ (.tail _ (.tail _ (.tail _ (List.mem_append_left _ hp)))))))))
          obtain ⟨d, hd⟩ : ∃ d, es[ra.toNat]? = some d := ⟨es[ra.toNat]'(by omega), List.getElem?_eq_getElem _⟩
          have hdm : d ∈ es := List.mem_of_getElem? hd
          have hdv : (dvs ds)[ra.toNat]? = some (.ref d.t) := by rw [← hev]; unfold dvs; rw [List.getElem?_map, hd]; rfl
          have hNT : News s.heap L' _ [d.tup, d.lst] := news_of NE (.tail _ (.tail _ (.tail _ (.tail _ (.tail _ (.tail _ (.tail _ (.tail _ (List.mem_append_right _ (List.mem_append_left _ (List.mem_map_of_mem hdm))))))))))) (news_of NE (.tail _ (.tail _ (.tail _ (.tail _ (.tail _ (.tail _ (.tail _ (.tail _ (List.mem_append_right _ (List.mem_append_right _ (List.mem_map_of_mem hdm))))))))))) News.nil)
          have hT1 : IsTup _ tr [Value.int r.1 tr1, .int r.2.1 tr2, .ref fl].toArray := ⟨_, htr, rfl, _, rfl⟩
          have hT2 : IsTup _ d.t [Value.int d.mom d.t1, .ref d.nl].toArray := ⟨_, hNT.get (.head _), rfl, _, rfl⟩
          have NE2 : News s.heap L' _ (d.lst :: _) := news_of hNT (.tail _ (.head _)) NE
          clear hNT NE
          unfold LotD.lst at NE2
          k_steps
          · have hlt : r.1 < d.mom := by assumption
            have hnl := NE2 _ (.head _)
            have hbt := hep.bt d.lst (List.mem_append_right _ (List.mem_map_of_mem hdm))
            have hIn : d.nl ≠ I := hSI d.lst (.tail _ (.tail _ (List.mem_append_right _ (List.mem_map_of_mem hdm))))
            have hZn := fun p hp => hep.ap d hdm p (List.mem_append_right _ hp)
            have NX : News s.heap L' _ ((I, oI) :: (bx, _) :: (L' + 1, o4) :: (tl, PySem.W.listOf (dvs ds).toArray cl) :: (rl, PySem.W.listOf rvs.toArray c') :: (bl, PySem.W.listOf ws.toArray cbl) :: (L' + 1 + 1 + 1, o1) :: (L' + 1 + 1, o2) :: blk) := (news_of NE2 (.tail _ (.head _)) (news_of NE2 (.tail _ (.tail _ (.head _))) (news_of NE2 (.tail _ (.tail _ (.tail _ (.head _)))) (news_of NE2 (.tail _ (.tail _ (.tail _ (.tail _ (.head _))))) (news_of NE2 (.tail _ (.tail _ (.tail _ (.tail _ (.tail _ (.head _)))))) (news_of NE2 (.tail _ (.tail _ (.tail _ (.tail _ (.tail _ (.tail _ (.head _))))))) (news_of NE2 (.tail _ (.tail _ (.tail _ (.tail _ (.tail _ (.tail _ (.tail _ (.head _)))))))) (news_of NE2 (.tail _ (.tail _ (.tail _ (.tail _ (.tail _ (.tail _ (.tail _ (.tail _ (.head _))))))))) (news_sub NE2 fun p hp => (.tail _ (.tail _ (.tail _ (.tail _ (.tail _ (.tail _ (.tail _ (.tail _ (.tail _ (List.mem_append_left _ hp)))))))))))))))))))
            have NB : News s.heap L' _ (dts es ++ dls es) := news_sub NE2 fun p hp => (.tail _ (.tail _ (.tail _ (.tail _ (.tail _ (.tail _ (.tail _ (.tail _ (.tail _ (List.mem_append_right _ hp))))))))))
            refine append_at (D := d.nl) (its := d.nvs.toArray) (n := d.c) hnl.1 ?_ (hsz := by rw [List.size_toArray, (hes d hdm).1.length]; exact Nat.le_trans (hes d hdm).2.1 (Nat.le_trans (show i ≤ 1000 by omega) (by decide)))
            intro h9 hs9 ho9
            rw [List.push_toArray] at ho9
            have FP := (Fr.put (k := Str.ofString "at") (Fr.put (k := Str.ofString "rows") (Fr.put (k := Str.ofString "lots") (Fr.put (k := Str.ofString "box") (Fr.put (k := Str.ofString "many") (Fr.put (k := Str.ofString "moments") (Fr.put (k := Str.ofString "delay") (Fr.put (k := Str.ofString "count") (Fr.put (k := Str.ofString "moment") (FE.change hs9 hnl.2.1 hnl.2.2) rfl) rfl) rfl) rfl) rfl) rfl) rfl) rfl) rfl)
            have NX9 := news_change NX hs9 (dC hIn.symm (dC hbt.1.symm (dC (hZn _ (.tail _ (.tail _ (.tail _ (.tail _ (.head _)))))) (dC hbt.2.1.symm (dC (hZn _ (.head _)) (dC (hZn _ (.tail _ (.head _))) (dC (hZn _ (.tail _ (.tail _ (.head _)))) (dC (hZn _ (.tail _ (.tail _ (.tail _ (.head _))))) fun p hp => hZn p (.tail _ (.tail _ (.tail _ (.tail _ (.tail _ hp)))))))))))))
            have hset := lots_set (d' := { d with c := d.c + 1, nvs := d.nvs ++ [.int (0 + (i : Int)) t], ns := d.ns ++ [0 + (i : Int)] }) hd rfl rfl hep NB hs9 ho9
            have hadr := lots_addr (d' := { d with c := d.c + 1, nvs := d.nvs ++ [.int (0 + (i : Int)) t], ns := d.ns ++ [0 + (i : Int)] }) hd rfl rfl
            clear FE NE2 NX NB
            k_steps
            refine hU9 _ _ ?_
            refine' TurnEnd.mk ((bx, _) :: (L' + 1, _) :: (dts (es.set ra.toNat _) ++ dls (es.set ra.toNat _))) FP (news_of NX9 (.head _) (news_of NX9 (.tail _ (.head _)) (news_of NX9 (.tail _ (.tail _ (.head _))) (News.join hset.1 (news_sub NX9 fun p hp => .tail _ (.tail _ (.tail _ hp))))))) ?zS (exI7 _ (k4 + 1) _ _ o4 (es.set ra.toNat _) _ ⟨rfl, rfl, hoc2, ?zl, ?zv, ?zk0, ?zk1, ?zr, hset.2⟩)
            all_goals clear FP NX9
            case zl => rw [List.length_set]; exact hel
            case zv => exact Eq.trans (dvs_set (d' := { d with c := d.c + 1, nvs := d.nvs ++ [.int (0 + (i : Int)) t], ns := d.ns ++ [0 + (i : Int)] }) hd rfl) hev
            case zk0 => omega
            case zk1 => omega
            case zr =>
              intro e he
              rcases List.mem_or_eq_of_mem_set he with he | he
              · exact (hes e he).succ
              · rw [he]
                refine ⟨IntsAre.append (hes d hdm).1 (.cons _ _ .nil), ?_, ?_⟩
                · have := (hes d hdm).2.1
                  show (d.ns ++ [_]).length ≤ i + 1
                  rw [List.length_append, List.length_singleton]; omega
                · intro x hx
                  rcases List.mem_append.mp hx with hx | hx
                  · exact (hes d hdm).succ.2.2 x hx
                  · rw [List.mem_singleton.mp hx]
                    exact ⟨i, by omega, Nat.lt_succ_self _, r, hri, hlt⟩
            case zS =>
              intro p hp
              rcases List.mem_cons.mp hp with rfl | hp
              · exact z1.out
              rcases List.mem_cons.mp hp with rfl | hp
              · exact z2.out
              obtain ⟨p0, h0, h1⟩ := hadr p hp
              rw [← h1]
              exact hSI p0 (.tail _ (.tail _ h0))
          · have NN := NE2
            clear NE2
            have FP := (Fr.put (k := Str.ofString "at") (Fr.put (k := Str.ofString "rows") (Fr.put (k := Str.ofString "lots") (Fr.put (k := Str.ofString "box") (Fr.put (k := Str.ofString "many") (Fr.put (k := Str.ofString "moments") (Fr.put (k := Str.ofString "delay") (Fr.put (k := Str.ofString "count") (Fr.put (k := Str.ofString "moment") FE rfl) rfl) rfl) rfl) rfl) rfl) rfl) rfl) rfl)
            refine hU9 _ _ ?_
            refine' TurnEnd.mk ((bx, _) :: (L' + 1, _) :: (dts es ++ dls es)) FP (news_of NN (.tail _ (.head _)) (news_of NN (.tail _ (.tail _ (.head _))) (news_of NN (.tail _ (.tail _ (.tail _ (.head _)))) (News.join (news_sub NN fun p hp => (.tail _ (.tail _ (.tail _ (.tail _ (.tail _ (.tail _ (.tail _ (.tail _ (.tail _ (List.mem_append_right _ hp))))))))))) (news_of NN (.tail _ (.tail _ (.tail _ (.tail _ (.head _))))) (news_of NN (.tail _ (.tail _ (.tail _ (.tail _ (.tail _ (.head _)))))) (news_of NN (.tail _ (.tail _ (.tail _ (.tail _ (.tail _ (.tail _ (.head _))))))) (news_of NN (.tail _ (.tail _ (.tail _ (.tail _ (.tail _ (.tail _ (.tail _ (.head _)))))))) (news_of NN (.tail _ (.tail _ (.tail _ (.tail _ (.tail _ (.tail _ (.tail _ (.tail _ (.head _))))))))) (news_sub NN fun p hp => (.tail _ (.tail _ (.tail _ (.tail _ (.tail _ (.tail _ (.tail _ (.tail _ (.tail _ (List.mem_append_left _ hp)))))))))))))))))))) ?zS (exI7 _ (k4 + 1) _ _ o4 es _ ⟨rfl, rfl, hoc2, hel, hev, ?zk0, ?zk1, ?zr, hep⟩)
            all_goals clear FP
            case zk0 => omega
            case zk1 => omega
            case zr => exact fun e he => (hes e he).succ
            case zS =>
              intro p hp
              rcases List.mem_cons.mp hp with rfl | hp
              · exact z1.out
              rcases List.mem_cons.mp hp with rfl | hp
              · exact z2.out
              exact hSI p (.tail _ (.tail _ hp))
        · rename_i ra tra tka ca _ _ hra0 hra1 _ FE NE hsp
          · subst hT
            have NN := NE
            clear NE
            have FP := (Fr.put (k := Str.ofString "at") (Fr.put (k := Str.ofString "rows") (Fr.put (k := Str.ofString "lots") (Fr.put (k := Str.ofString "box") (Fr.put (k := Str.ofString "many") (Fr.put (k := Str.ofString "moments") (Fr.put (k := Str.ofString "delay") (Fr.put (k := Str.ofString "count") (Fr.put (k := Str.ofString "moment") FE rfl) rfl) rfl) rfl) rfl) rfl) rfl) rfl) rfl)
            refine hU9 _ _ ?_
            refine' TurnEnd.mk ((bx, _) :: (L' + 1, _) :: (dts es ++ dls es)) FP (news_of NN (.head _) (news_of NN (.tail _ (.head _)) (news_of NN (.tail _ (.tail _ (.head _))) (News.join (news_sub NN fun p hp => (.tail _ (.tail _ (.tail _ (.tail _ (.tail _ (.tail _ (.tail _ (.tail _ (List.mem_append_right _ hp)))))))))) (news_of NN (.tail _ (.tail _ (.tail _ (.head _)))) (news_of NN (.tail _ (.tail _ (.tail _ (.tail _ (.head _))))) (news_of NN (.tail _ (.tail _ (.tail _ (.tail _ (.tail _ (.head _)))))) (news_of NN (.tail _ (.tail _ (.tail _ (.tail _ (.tail _ (.tail _ (.head _))))))) (news_of NN (.tail _ (.tail _ (.tail _ (.tail _ (.tail _ (.tail _ (.tail _ (.head _)))))))) (news_sub NN fun p hp => (.tail _ (.tail _ (.tail _ (.tail _ (.tail _ (.tail _ (.tail _ (.tail _ (List.mem_append_left _ hp))))))))))))))))))) ?zS (exI7 _ (k4 + 1) _ _ o4 es _ ⟨rfl, rfl, hoc2, hel, hev, ?zk0, ?zk1, ?zr, hep⟩)
            all_goals clear FP
            case zk0 => omega
            case zk1 => omega
            case zr => exact fun e he => (hes e he).succ
            case zS =>
              intro p hp
              rcases List.mem_cons.mp hp with rfl | hp
              · exact z1.out
              rcases List.mem_cons.mp hp with rfl | hp
              · exact z2.out
              exact hSI p (.tail _ (.tail _ hp))
      · rintro m₁ S₁ h₁ tk₁ hJ9 F₁ N₁
        refine exE7 hJ9 ?_
        clear hJ9
        rintro mb k4 tk4 c4 oc es v0 hJ9
        refine andE9 hJ9 ?_
        clear hJ9
        rintro rfl rfl hoc hel hev hk40 hk41 hes hep
        clear F2 N2 hrg hk2
        obtain ⟨G, hG⟩ : ∃ G, G = (tl, PySem.W.listOf (dvs ds).toArray cl) :: (rl, PySem.W.listOf rvs.toArray c') :: (bl, PySem.W.listOf ws.toArray cbl) :: (bx, PySem.W.listOf [Value.ref bl, .int k4 tk4].toArray c4) :: (blk ++ (dts es ++ dls es)) := ⟨_, rfl⟩
        have NG : News s.heap L' h₁ ((L' + 1, oc) :: (L' + 1 + 1, o2) :: (L' + 1 + 1 + 1, o1) :: G) := by
          rw [hG]
          exact (news_of N₁ (.tail _ (.head _)) (news_of N₁ (.tail _ (.tail _ (List.mem_append_right _ (.tail _ (.tail _ (.tail _ (.tail _ (.head _)))))))) (news_of N₁ (.tail _ (.tail _ (List.mem_append_right _ (.tail _ (.tail _ (.tail _ (.head _))))))) (news_of N₁ (.tail _ (.tail _ (List.mem_append_right _ (.head _)))) (news_of N₁ (.tail _ (.tail _ (List.mem_append_right _ (.tail _ (.head _))))) (news_of N₁ (.tail _ (.tail _ (List.mem_append_right _ (.tail _ (.tail _ (.head _)))))) (news_of N₁ (.head _) (news_sub N₁ fun p hp => (List.mem_append.mp hp).elim (fun hp => .tail _ (.tail _ (List.mem_append_right _ (.tail _ (.tail _ (.tail _ (.tail _ (.tail _ hp)))))))) (fun hp => .tail _ (.tail _ (List.mem_append_left _ hp)))))))))))
        have htl : (tl, PySem.W.listOf (dvs es).toArray cl) ∈ G := by rw [hev, hG]; exact (.head _)
        have hrl : (rl, PySem.W.listOf rvs.toArray c') ∈ G := by rw [hG]; exact (.tail _ (.head _))
        have hbG : ∀ p ∈ blk, p ∈ G := by rw [hG]; exact fun p hp => .tail _ (.tail _ (.tail _ (.tail _ (List.mem_append_left _ hp))))
        have hdG : ∀ d ∈ es, d.tup ∈ G ∧ d.lst ∈ G := by
          rw [hG]; exact fun d hd => ⟨.tail _ (.tail _ (.tail _ (.tail _ (List.mem_append_right _ (List.mem_append_left _ (List.mem_map_of_mem hd)))))), .tail _ (.tail _ (.tail _ (.tail _ (List.mem_append_right _ (List.mem_append_right _ (List.mem_map_of_mem hd))))))⟩
        have hcG : ∀ p ∈ G, @LT.lt Nat _ (L' + 1 + 1 + 1) p.1 := by
          rw [hG]
          intro p hp
          rcases List.mem_cons.mp hp with rfl | hp
          · show @LT.lt Nat _ (L' + 1 + 1 + 1) tl; omega
          rcases List.mem_cons.mp hp with rfl | hp
          · show @LT.lt Nat _ (L' + 1 + 1 + 1) rl; omega
          rcases List.mem_cons.mp hp with rfl | hp
          · exact lts.1
          rcases List.mem_cons.mp hp with rfl | hp
          · show @LT.lt Nat _ (L' + 1 + 1 + 1) bx; omega
          exact (List.mem_append.mp hp).elim (fun h => (hoff p h).2.2.2) fun h => (hep.bt p h).2.2
        have hRG : Paired (RowB G) rvs rs := Paired.mono (fun _ _ y => y.mono hbG) hrs
        have hcnt : ∀ d ∈ es, LotOk rs n d := hes
        clear hG hep hbG hrs hes N₁ hoff
        k_steps
        walk_at "m_compA"
        k_steps
        refine CompGo.mk h₁ [] [tl] nc _ (fun i ys S => Paired (LotB G S) ys (lotsOf (es.take i))) (Nat.le_refl _) (Led.refl _) (SrcOk.lst (dvs es) nc (by rw [dvs_len, hel]) rfl (NG.isList (.tail _ (.tail _ (.tail _ htl))))) ?_ (Nat.le_trans (show nc ≤ 1000 by omega) (by decide)) .nil ?_ ?_
        · intro a ha
          rw [List.mem_singleton.mp ha]
          exact ⟨_, NG.get (.tail _ (.tail _ (.tail _ htl)))⟩
        ·
          rintro i v ys S₁ I oI D C2 h₂ tk₂ m₁ hi hv hJ hyl F₂ N₂ hoff2 hID hDC hIs U9 hU9 V9 hV9
          obtain ⟨d, hd⟩ : ∃ d, es[i]? = some d := ⟨es[i]'(by omega), List.getElem?_eq_getElem _⟩
          have hdm : d ∈ es := List.mem_of_getElem? hd
          have hvd : v = .ref d.t := by
            unfold dvs at hv
            rw [List.getElem?_map, hd] at hv
            exact (Option.some.inj hv).symm
          subst hvd
          have g1 := NG.get (.tail _ (.tail _ (.tail _ (hdG d hdm).1)))
          have g2 := NG.get (.tail _ (.tail _ (.tail _ (hdG d hdm).2)))
          refine assign2 rfl F₂ N₂ ⟨_, F₂.keep _ _ g1, rfl, _, rfl⟩ rfl rfl rfl ?_
          intro h₃ tk₃ F₃ N₃
          clear F₂ N₂ F₁
          refine wpAny_tests_one ?_
          k_steps
          rename_i l5 _ F5 N5 l15
          refine stop_out (list_ne_nil ⟨_, F5.keep _ _ g2, rfl, _, rfl⟩ (News.isList N5 (.head _)) (Rm.line (hA.deeper _)) ?_)
          have hJs := lotsOf_succ hd
          cases he : d.nvs.isEmpty with
          | true =>
            rw [he, if_pos rfl, List.append_nil] at hJs
            k_steps
            (first | refine hU9 _ _ ?_ | refine hV9 _ ?_)
            refine CompEnd'.mk S₁ F5 (news_of N5 (.tail _ (.head _)) (news_of N5 (.tail _ (.tail _ (.head _))) (news_sub N5 fun p hp => (.tail _ (.tail _ (.tail _ hp)))))) hoff2 ?_
            show Paired _ _ _
            rw [hJs]; exact hJ
          | false =>
            rw [he, if_neg (by decide)] at hJs
            k_steps
            rename_i _ Dt _ F6 N6 l6
            (first | refine hU9 _ _ ?_ | refine hV9 _ ?_)
            refine CompEnd'.mk ((Dt, _) :: S₁) F6 (news_of N6 (.tail _ (.tail _ (.head _))) (news_of N6 (.tail _ (.tail _ (.tail _ (.head _)))) (news_of N6 (.head _) (news_sub N6 fun p hp => (.tail _ (.tail _ (.tail _ (.tail _ hp)))))))) (fun p hp => ?_) ?_
            · rcases List.mem_cons.mp hp with rfl | hp
              · exact ⟨(neL (by omega) : NeA I Dt).outs, (neL (by omega) : NeA D Dt).outs⟩
              · exact hoff2 p hp
            · show Paired _ _ _
              rw [hJs]
              exact Paired.snoc (Paired.mono (fun _ _ y => y.mono fun p hp => .tail _ hp) hJ) fun h hg => ⟨Dt, _, _, d.nl, d.nvs, rfl, hg _ (.head _), ⟨_, hg d.lst (List.mem_append_right _ (hdG d hdm).2), rfl, _, rfl⟩, (hcnt d hdm).1⟩
        · rintro ys S₁ D h₂ tk₂ hJ hyl LD₂ hoff2 hDs
          rw [List.take_of_length_le (by omega)] at hJ
          have F₂ := F₁.keeps LD₂.sub
          have NB := led_news F₁ LD₂
          have NH := NG.grown LD₂.sub
          refine ⟨F₁.ns.lt, ⟨_, F₂.ns⟩, fun h' m hm hn hs => ?_⟩
          cases ns_unique hm F₂.ns
          have F₃ := F₂.set hn hs
          have N₃ := (News.join NB NH).set hs
          dsimp only
          clear NB NH F₂
          have hcn : ∀ p ∈ (D, LCg.lst ys) :: S₁, p.1 ≠ L' + 1 ∧ p.1 ≠ L' + 1 + 1 ∧ p.1 ≠ L' + 1 + 1 + 1 := fun p hp => by
            have hn := (LD₂.mem p hp).2
            refine ⟨fun q => ?_, fun q => ?_, fun q => ?_⟩
            · rw [q, NG.get (.head _)] at hn; cases hn
            · rw [q, NG.get (.tail _ (.head _))] at hn; cases hn
            · rw [q, NG.get (.tail _ (.tail _ (.head _)))] at hn; cases hn
          have i0 : ∀ p ∈ G, p ∈ (D, LCg.lst ys) :: (S₁ ++ G) := fun p hp => .tail _ (List.mem_append_right _ hp)
          have N5 : News s.heap L' h' ((L' + 1, oc) :: (L' + 1 + 1, o2) :: (L' + 1 + 1 + 1, o1) :: (D, LCg.lst ys) :: (S₁ ++ G)) := by
            refine news_of N₃ (List.mem_append_right _ (.head _)) (news_of N₃ (List.mem_append_right _ (.tail _ (.head _))) (news_of N₃ (List.mem_append_right _ (.tail _ (.tail _ (.head _)))) (news_sub N₃ fun p hp => ?_)))
            rcases List.mem_cons.mp hp with rfl | hp
            · exact List.mem_append_left _ (.head _)
            · exact (List.mem_append.mp hp).elim (fun h => List.mem_append_left _ (.tail _ h)) fun h => List.mem_append_right _ (.tail _ (.tail _ (.tail _ h)))
          refine law_d8 C hA (Fr.put (k := Str.ofString "at") (Fr.put (k := Str.ofString "rows") (Fr.put (k := Str.ofString "lots") (Fr.put (k := Str.ofString "moments") (Fr.put (k := Str.ofString "delay") (Fr.put (k := Str.ofString "moment") F₃ rfl) rfl) rfl) rfl) rfl) rfl) N5 hoc e2 e1 (fun p hp => ?_) (i0 _ hrl) (.head _) (Paired.mono (fun _ _ y => y.mono i0) hRG) (Paired.mono (fun _ _ y => LotG.mono y fun p hp => .tail _ hp) hJ)
            (plan_of hlen (by omega) hrr hpw hcnt (by omega) ha0 (by omega) (by omega) (by omega) (by omega) (by omega)) hR
          rcases List.mem_cons.mp hp with rfl | hp
          · exact hcn _ (.head _)
          rcases List.mem_append.mp hp with hp | hp
          · exact hcn _ (.tail _ hp)
          · have q := hcG p hp
            exact ⟨Nat.ne_of_gt (by omega), Nat.ne_of_gt (by omega), Nat.ne_of_gt (by omega)⟩
end
end Mine
namespace Mine
theorem said_ok : PySem.Challenge.rw_sj0119_01.wellSaid = true := by
  unfold OpenLaw.wellSaid
  repeat' first | with_reducible refine look_both ?_ ?_ | unfold OpenRow.wellSaid | unfold OpenRow.partSaid | unfold looksOpen
  all_goals decide +kernel
end Mine
set_option maxHeartbeats 8000000 in
theorem PySem.Challenge.cw_sj0119_01_holds : PySem.Challenge.rw_sj0119_01.Holds := by
  refine holds_law Mine.said_ok fun said => ?_
  refine holds_open (q := Mine.hd.view_39) (loose := []) (Xt := fun s => xlAt Mine.hd.view_39 [] s && recOk PySem.Challenge.rw_sj0119_01.row.records s) (XP := XL Mine.hd.view_39 []) (Yf := Hook.obs Mine.HK) (Ya := Hook.val Mine.HK) (YP := Hook.says Mine.HK) (N := 4722) Mine.left_head (Hook.of Mine.HK) (Hook.keeps Mine.HK) (fun s e => xl_of s (Bool.and_eq_true_iff.mp e).1) XL.keeps (by rfl) (by rfl) (by rfl) (fun s e => recFacts_of (Bool.and_eq_true_iff.mp e).2) (by rfl) (by first | assumption | decide +kernel) (by decide +kernel) ⟨rfl, rfl, rfl, rfl, rfl, by decide +kernel⟩ ?hw ?hc
  case hw => w_witness2
  case hc =>
    k_fill
    intro w s₀ s₁ mg mb G Y fa o pm cd doc dV kV ho hd' hcd hD hmg hg args vals as hpre hlay hrd hwl hlo
    have KX := kIn_of Y
    refine Ground.open G ?_
    intro T B D TE TW
    try (refine guard_noD D (by decide +kernel) ?_; clear D)
    clear B TE TW hD
    wrow_args hpre hlay hrd hwl hlo
    all_goals (
      first | refine callC_kw (enter_call ?_) | refine enter_call ?_ | refine callC_kw (enter_callW ?_) | refine enter_callW ?_ | w_how
      w_top on
      try refine codeAny_mono ?_ (fun _ _ g => GoodW.toG g))
    have e387 := (mg_of KX T.g (v := .ref 387) (by k_is)).symm.trans hmg
    cases e387
    refine Mine.law_spec ⟨KX, T⟩ ⟨rfl, by decide, by decide⟩ (by assumption) (by assumption) (by omega) ?_
    intro h' tk hk
    refine ⟨.inl ⟨_, .bool true, [], rfl, raisesW_false ?_, .bool true, ?_, unshared_nil⟩, hk, rfl, hg⟩
    · wrow_none_raised
    · wrow_post
