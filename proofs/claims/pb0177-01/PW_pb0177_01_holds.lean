import PyProof.Rows.All
import Wide.All
import OpenK.AllK
import Wide.FinOn
import PySem.Challenge.RW_pb0177_01
open PySem PySem.W PyProof.Rows
set_option Elab.async false
set_option maxRecDepth 100000
set_option maxHeartbeats 8000000
set_option compiler.extract_closed false
namespace Pb
def nop : Stmt := .Pass ⟨0, 0, 0, 0⟩
def noArgs : Arguments := ⟨[], [], none, [], [], none, []⟩
def noScope : Scope := { kind := .function, names := [], isGenerator := false, isCoroutine := false }
def nth : List Stmt → Nat → Stmt
  | [], _ => nop
  | a :: _, 0 => a
  | _ :: r, n + 1 => nth r n
def mth : Stmt → Nat → Stmt
  | .ClassDef _ _ _ b _ _ _ _ _ _ _, n => nth b n
  | _, _ => nop
def fpar : Stmt → Arguments
  | .FunctionDef _ a _ _ _ _ _ _ _ _ => a
  | _ => noArgs
def fbod : Stmt → List Stmt
  | .FunctionDef _ _ b _ _ _ _ _ _ _ => b
  | _ => []
def fsco : Stmt → Scope
  | .FunctionDef _ _ _ _ _ _ s _ _ _ => s
  | _ => noScope
abbrev pbody : List Stmt := PySem.Challenge.pw_pb0177_01.main.body
noncomputable def K (P : Params) : Frag := by
  refine (?f : (o21 : Obj) → o21 = ({ cls := Value.type "function", data := Data.func { name := Str.ofString "_wall", qualname := Str.ofString "_wall", params := fpar (nth pbody 0), body := FuncBody.stmts (fbod (nth pbody 0)), scope := fsco (nth pbody 0), globals := 3, closure := [], defaults := Value.none, kwdefaults := Value.none, pyModule := Value.str (Str.ofString "__main__") 164, code := Value.ref 20 } } : Obj) →
    (o38 : Obj) → o38 = ({ cls := Value.type "function", data := Data.func { name := Str.ofString "__init__", qualname := Str.ofString "ShapeError.__init__", params := fpar (mth (nth pbody 2) 0), body := FuncBody.stmts (fbod (mth (nth pbody 2) 0)), scope := fsco (mth (nth pbody 2) 0), globals := 3, closure := [(Str.ofString "__class__", 25)], defaults := Value.ref 30, kwdefaults := Value.none, pyModule := Value.str (Str.ofString "joinedhand.errors") 194, code := Value.ref 37, closureTuple := Value.ref 31 } } : Obj) →
    (o45 : Obj) → o45 = ({ cls := Value.type "function", data := Data.func { name := Str.ofString "told", qualname := Str.ofString "ShapeError.told", params := fpar (mth (nth pbody 2) 1), body := FuncBody.stmts (fbod (mth (nth pbody 2) 1)), scope := fsco (mth (nth pbody 2) 1), globals := 3, closure := [], defaults := Value.none, kwdefaults := Value.none, pyModule := Value.str (Str.ofString "joinedhand.errors") 194, code := Value.ref 44 } } : Obj) →
    (o82 : Obj) → o82 = ({ cls := Value.type "function", data := Data.func { name := Str.ofString "check_room", qualname := Str.ofString "check_room", params := fpar (nth pbody 6), body := FuncBody.stmts (fbod (nth pbody 6)), scope := fsco (nth pbody 6), globals := 3, closure := [], defaults := Value.none, kwdefaults := Value.none, pyModule := Value.str (Str.ofString "joinedhand.octets") 270, code := Value.ref 81 } } : Obj) →
    (o89 : Obj) → o89 = ({ cls := Value.type "function", data := Data.func { name := Str.ofString "number_at", qualname := Str.ofString "number_at", params := fpar (nth pbody 7), body := FuncBody.stmts (fbod (nth pbody 7)), scope := fsco (nth pbody 7), globals := 3, closure := [], defaults := Value.none, kwdefaults := Value.none, pyModule := Value.str (Str.ofString "joinedhand.octets") 270, code := Value.ref 88 } } : Obj) →
    (o96 : Obj) → o96 = ({ cls := Value.type "function", data := Data.func { name := Str.ofString "signed", qualname := Str.ofString "signed", params := fpar (nth pbody 8), body := FuncBody.stmts (fbod (nth pbody 8)), scope := fsco (nth pbody 8), globals := 3, closure := [], defaults := Value.none, kwdefaults := Value.none, pyModule := Value.str (Str.ofString "joinedhand.octets") 270, code := Value.ref 95 } } : Obj) →
    (o111 : Obj) → o111 = ({ cls := Value.type "function", data := Data.func { name := Str.ofString "__init__", qualname := Str.ofString "OctetsIn.__init__", params := fpar (mth (nth pbody 9) 0), body := FuncBody.stmts (fbod (mth (nth pbody 9) 0)), scope := fsco (mth (nth pbody 9) 0), globals := 3, closure := [], defaults := Value.ref 104, kwdefaults := Value.none, pyModule := Value.str (Str.ofString "joinedhand.octets") 270, code := Value.ref 110 } } : Obj) →
    (o118 : Obj) → o118 = ({ cls := Value.type "function", data := Data.func { name := Str.ofString "need", qualname := Str.ofString "OctetsIn.need", params := fpar (mth (nth pbody 9) 1), body := FuncBody.stmts (fbod (mth (nth pbody 9) 1)), scope := fsco (mth (nth pbody 9) 1), globals := 3, closure := [], defaults := Value.none, kwdefaults := Value.none, pyModule := Value.str (Str.ofString "joinedhand.octets") 270, code := Value.ref 117 } } : Obj) →
    (o125 : Obj) → o125 = ({ cls := Value.type "function", data := Data.func { name := Str.ofString "number", qualname := Str.ofString "OctetsIn.number", params := fpar (mth (nth pbody 9) 2), body := FuncBody.stmts (fbod (mth (nth pbody 9) 2)), scope := fsco (mth (nth pbody 9) 2), globals := 3, closure := [], defaults := Value.none, kwdefaults := Value.none, pyModule := Value.str (Str.ofString "joinedhand.octets") 270, code := Value.ref 124 } } : Obj) →
    (o132 : Obj) → o132 = ({ cls := Value.type "function", data := Data.func { name := Str.ofString "u8", qualname := Str.ofString "OctetsIn.u8", params := fpar (mth (nth pbody 9) 3), body := FuncBody.stmts (fbod (mth (nth pbody 9) 3)), scope := fsco (mth (nth pbody 9) 3), globals := 3, closure := [], defaults := Value.none, kwdefaults := Value.none, pyModule := Value.str (Str.ofString "joinedhand.octets") 270, code := Value.ref 131 } } : Obj) →
    (o139 : Obj) → o139 = ({ cls := Value.type "function", data := Data.func { name := Str.ofString "u16", qualname := Str.ofString "OctetsIn.u16", params := fpar (mth (nth pbody 9) 4), body := FuncBody.stmts (fbod (mth (nth pbody 9) 4)), scope := fsco (mth (nth pbody 9) 4), globals := 3, closure := [], defaults := Value.none, kwdefaults := Value.none, pyModule := Value.str (Str.ofString "joinedhand.octets") 270, code := Value.ref 138 } } : Obj) →
    (o146 : Obj) → o146 = ({ cls := Value.type "function", data := Data.func { name := Str.ofString "i16", qualname := Str.ofString "OctetsIn.i16", params := fpar (mth (nth pbody 9) 5), body := FuncBody.stmts (fbod (mth (nth pbody 9) 5)), scope := fsco (mth (nth pbody 9) 5), globals := 3, closure := [], defaults := Value.none, kwdefaults := Value.none, pyModule := Value.str (Str.ofString "joinedhand.octets") 270, code := Value.ref 145 } } : Obj) →
    (o153 : Obj) → o153 = ({ cls := Value.type "function", data := Data.func { name := Str.ofString "u24", qualname := Str.ofString "OctetsIn.u24", params := fpar (mth (nth pbody 9) 6), body := FuncBody.stmts (fbod (mth (nth pbody 9) 6)), scope := fsco (mth (nth pbody 9) 6), globals := 3, closure := [], defaults := Value.none, kwdefaults := Value.none, pyModule := Value.str (Str.ofString "joinedhand.octets") 270, code := Value.ref 152 } } : Obj) →
    (o160 : Obj) → o160 = ({ cls := Value.type "function", data := Data.func { name := Str.ofString "u32", qualname := Str.ofString "OctetsIn.u32", params := fpar (mth (nth pbody 9) 7), body := FuncBody.stmts (fbod (mth (nth pbody 9) 7)), scope := fsco (mth (nth pbody 9) 7), globals := 3, closure := [], defaults := Value.none, kwdefaults := Value.none, pyModule := Value.str (Str.ofString "joinedhand.octets") 270, code := Value.ref 159 } } : Obj) →
    (o165 : Obj) → o165 = ({ cls := Value.type "function", data := Data.func { name := Str.ofString "tag", qualname := Str.ofString "OctetsIn.tag", params := fpar (mth (nth pbody 9) 8), body := FuncBody.stmts (fbod (mth (nth pbody 9) 8)), scope := fsco (mth (nth pbody 9) 8), globals := 3, closure := [], defaults := Value.none, kwdefaults := Value.none, pyModule := Value.str (Str.ofString "joinedhand.octets") 270, code := Value.ref 164 } } : Obj) →
    (o172 : Obj) → o172 = ({ cls := Value.type "function", data := Data.func { name := Str.ofString "rows", qualname := Str.ofString "OctetsIn.rows", params := fpar (mth (nth pbody 9) 9), body := FuncBody.stmts (fbod (mth (nth pbody 9) 9)), scope := fsco (mth (nth pbody 9) 9), globals := 3, closure := [], defaults := Value.none, kwdefaults := Value.none, pyModule := Value.str (Str.ofString "joinedhand.octets") 270, code := Value.ref 171 } } : Obj) →
    (o179 : Obj) → o179 = ({ cls := Value.type "function", data := Data.func { name := Str.ofString "here", qualname := Str.ofString "OctetsIn.here", params := fpar (mth (nth pbody 9) 10), body := FuncBody.stmts (fbod (mth (nth pbody 9) 10)), scope := fsco (mth (nth pbody 9) 10), globals := 3, closure := [], defaults := Value.none, kwdefaults := Value.none, pyModule := Value.str (Str.ofString "joinedhand.octets") 270, code := Value.ref 178 } } : Obj) →
    (o200 : Obj) → o200 = ({ cls := Value.type "function", data := Data.func { name := Str.ofString "__init__", qualname := Str.ofString "Metrics.__init__", params := fpar (mth (nth pbody 16) 0), body := FuncBody.stmts (fbod (mth (nth pbody 16) 0)), scope := fsco (mth (nth pbody 16) 0), globals := 3, closure := [], defaults := Value.none, kwdefaults := Value.none, pyModule := Value.str (Str.ofString "joinedhand.metrics") 406, code := Value.ref 199 } } : Obj) →
    (o207 : Obj) → o207 = ({ cls := Value.type "function", data := Data.func { name := Str.ofString "glyph_count", qualname := Str.ofString "Metrics.glyph_count", params := fpar (mth (nth pbody 16) 1), body := FuncBody.stmts (fbod (mth (nth pbody 16) 1)), scope := fsco (mth (nth pbody 16) 1), globals := 3, closure := [], defaults := Value.none, kwdefaults := Value.none, pyModule := Value.str (Str.ofString "joinedhand.metrics") 406, code := Value.ref 206 } } : Obj) →
    (o214 : Obj) → o214 = ({ cls := Value.type "function", data := Data.func { name := Str.ofString "told", qualname := Str.ofString "Metrics.told", params := fpar (mth (nth pbody 16) 2), body := FuncBody.stmts (fbod (mth (nth pbody 16) 2)), scope := fsco (mth (nth pbody 16) 2), globals := 3, closure := [], defaults := Value.none, kwdefaults := Value.none, pyModule := Value.str (Str.ofString "joinedhand.metrics") 406, code := Value.ref 213 } } : Obj) →
    (o228 : Obj) → o228 = ({ cls := Value.type "function", data := Data.func { name := Str.ofString "table_at", qualname := Str.ofString "table_at", params := fpar (nth pbody 17), body := FuncBody.stmts (fbod (nth pbody 17)), scope := fsco (nth pbody 17), globals := 3, closure := [], defaults := Value.none, kwdefaults := Value.none, pyModule := Value.str (Str.ofString "joinedhand.metrics") 406, code := Value.ref 227 } } : Obj) →
    (o235 : Obj) → o235 = ({ cls := Value.type "function", data := Data.func { name := Str.ofString "need_version", qualname := Str.ofString "need_version", params := fpar (nth pbody 18), body := FuncBody.stmts (fbod (nth pbody 18)), scope := fsco (nth pbody 18), globals := 3, closure := [], defaults := Value.none, kwdefaults := Value.none, pyModule := Value.str (Str.ofString "joinedhand.metrics") 406, code := Value.ref 234 } } : Obj) →
    (o242 : Obj) → o242 = ({ cls := Value.type "function", data := Data.func { name := Str.ofString "read_units", qualname := Str.ofString "read_units", params := fpar (nth pbody 19), body := FuncBody.stmts (fbod (nth pbody 19)), scope := fsco (nth pbody 19), globals := 3, closure := [], defaults := Value.none, kwdefaults := Value.none, pyModule := Value.str (Str.ofString "joinedhand.metrics") 406, code := Value.ref 241 } } : Obj) →
    (o249 : Obj) → o249 = ({ cls := Value.type "function", data := Data.func { name := Str.ofString "read_lines", qualname := Str.ofString "read_lines", params := fpar (nth pbody 20), body := FuncBody.stmts (fbod (nth pbody 20)), scope := fsco (nth pbody 20), globals := 3, closure := [], defaults := Value.none, kwdefaults := Value.none, pyModule := Value.str (Str.ofString "joinedhand.metrics") 406, code := Value.ref 248 } } : Obj) →
    (o256 : Obj) → o256 = ({ cls := Value.type "function", data := Data.func { name := Str.ofString "read_count", qualname := Str.ofString "read_count", params := fpar (nth pbody 21), body := FuncBody.stmts (fbod (nth pbody 21)), scope := fsco (nth pbody 21), globals := 3, closure := [], defaults := Value.none, kwdefaults := Value.none, pyModule := Value.str (Str.ofString "joinedhand.metrics") 406, code := Value.ref 255 } } : Obj) →
    (o263 : Obj) → o263 = ({ cls := Value.type "function", data := Data.func { name := Str.ofString "read_widths", qualname := Str.ofString "read_widths", params := fpar (nth pbody 22), body := FuncBody.stmts (fbod (nth pbody 22)), scope := fsco (nth pbody 22), globals := 3, closure := [], defaults := Value.none, kwdefaults := Value.none, pyModule := Value.str (Str.ofString "joinedhand.metrics") 406, code := Value.ref 262 } } : Obj) →
    (o270 : Obj) → o270 = ({ cls := Value.type "function", data := Data.func { name := Str.ofString "read_metrics", qualname := Str.ofString "read_metrics", params := fpar (nth pbody 23), body := FuncBody.stmts (fbod (nth pbody 23)), scope := fsco (nth pbody 23), globals := 3, closure := [], defaults := Value.none, kwdefaults := Value.none, pyModule := Value.str (Str.ofString "joinedhand.metrics") 406, code := Value.ref 269 } } : Obj) →
    (o277 : Obj) → o277 = ({ cls := Value.type "function", data := Data.func { name := Str.ofString "_law_draw", qualname := Str.ofString "_law_draw", params := fpar (nth pbody 25), body := FuncBody.stmts (fbod (nth pbody 25)), scope := fsco (nth pbody 25), globals := 3, closure := [], defaults := Value.none, kwdefaults := Value.none, pyModule := Value.str (Str.ofString "law_pb0177_01") 543, code := Value.ref 276 } } : Obj) →
    (o282 : Obj) → o282 = ({ cls := Value.type "function", data := Data.func { name := Str.ofString "_law_octets", qualname := Str.ofString "_law_octets", params := fpar (nth pbody 26), body := FuncBody.stmts (fbod (nth pbody 26)), scope := fsco (nth pbody 26), globals := 3, closure := [], defaults := Value.none, kwdefaults := Value.none, pyModule := Value.str (Str.ofString "law_pb0177_01") 543, code := Value.ref 281 } } : Obj) →
    (o287 : Obj) → o287 = ({ cls := Value.type "function", data := Data.func { name := Str.ofString "_law_filler", qualname := Str.ofString "_law_filler", params := fpar (nth pbody 27), body := FuncBody.stmts (fbod (nth pbody 27)), scope := fsco (nth pbody 27), globals := 3, closure := [], defaults := Value.none, kwdefaults := Value.none, pyModule := Value.str (Str.ofString "law_pb0177_01") 543, code := Value.ref 286 } } : Obj) →
    (o294 : Obj) → o294 = ({ cls := Value.type "function", data := Data.func { name := Str.ofString "_law_signed", qualname := Str.ofString "_law_signed", params := fpar (nth pbody 28), body := FuncBody.stmts (fbod (nth pbody 28)), scope := fsco (nth pbody 28), globals := 3, closure := [], defaults := Value.none, kwdefaults := Value.none, pyModule := Value.str (Str.ofString "law_pb0177_01") 543, code := Value.ref 293 } } : Obj) →
    (o301 : Obj) → o301 = ({ cls := Value.type "function", data := Data.func { name := Str.ofString "_law_head", qualname := Str.ofString "_law_head", params := fpar (nth pbody 29), body := FuncBody.stmts (fbod (nth pbody 29)), scope := fsco (nth pbody 29), globals := 3, closure := [], defaults := Value.none, kwdefaults := Value.none, pyModule := Value.str (Str.ofString "law_pb0177_01") 543, code := Value.ref 300 } } : Obj) →
    (o308 : Obj) → o308 = ({ cls := Value.type "function", data := Data.func { name := Str.ofString "_law_hhea", qualname := Str.ofString "_law_hhea", params := fpar (nth pbody 30), body := FuncBody.stmts (fbod (nth pbody 30)), scope := fsco (nth pbody 30), globals := 3, closure := [], defaults := Value.none, kwdefaults := Value.none, pyModule := Value.str (Str.ofString "law_pb0177_01") 543, code := Value.ref 307 } } : Obj) →
    (o315 : Obj) → o315 = ({ cls := Value.type "function", data := Data.func { name := Str.ofString "_law_seen", qualname := Str.ofString "_law_seen", params := fpar (nth pbody 31), body := FuncBody.stmts (fbod (nth pbody 31)), scope := fsco (nth pbody 31), globals := 3, closure := [], defaults := Value.none, kwdefaults := Value.none, pyModule := Value.str (Str.ofString "law_pb0177_01") 543, code := Value.ref 314 } } : Obj) →
    (o320 : Obj) → o320 = ({ cls := Value.type "function", data := Data.func { name := Str.ofString "law", qualname := Str.ofString "law", params := fpar (nth pbody 32), body := FuncBody.stmts (fbod (nth pbody 32)), scope := fsco (nth pbody 32), globals := 3, closure := [], defaults := Value.none, kwdefaults := Value.none, pyModule := Value.str (Str.ofString "law_pb0177_01") 543, code := Value.ref 319 } } : Obj) → Frag) ?a21 ?h21 ?a38 ?h38 ?a45 ?h45 ?a82 ?h82 ?a89 ?h89 ?a96 ?h96 ?a111 ?h111 ?a118 ?h118 ?a125 ?h125 ?a132 ?h132 ?a139 ?h139 ?a146 ?h146 ?a153 ?h153 ?a160 ?h160 ?a165 ?h165 ?a172 ?h172 ?a179 ?h179 ?a200 ?h200 ?a207 ?h207 ?a214 ?h214 ?a228 ?h228 ?a235 ?h235 ?a242 ?h242 ?a249 ?h249 ?a256 ?h256 ?a263 ?h263 ?a270 ?h270 ?a277 ?h277 ?a282 ?h282 ?a287 ?h287 ?a294 ?h294 ?a301 ?h301 ?a308 ?h308 ?a315 ?h315 ?a320 ?h320
  case f => exact fun o21 _ o38 _ o45 _ o82 _ o89 _ o96 _ o111 _ o118 _ o125 _ o132 _ o139 _ o146 _ o153 _ o160 _ o165 _ o172 _ o179 _ o200 _ o207 _ o214 _ o228 _ o235 _ o242 _ o249 _ o256 _ o263 _ o270 _ o277 _ o282 _ o287 _ o294 _ o301 _ o308 _ o315 _ o320 _ => (nat_lit 2, { cls := Value.none, data := Data.dict #[{ hash := PyData.keyHash P (Str.ofString "type.__subclasses__.Exception.0"), key := Value.str (Str.ofString "type.__subclasses__.Exception.0") 234, val := Value.int 48 0 }, { hash := PyData.keyHash P (Str.ofString "type.__subclasses__.Exception.n"), key := Value.str (Str.ofString "type.__subclasses__.Exception.n") 235, val := Value.int 1 0 }] 2 }) ::
    (nat_lit 3, { cls := Value.type "dict", data := Data.dict #[{ hash := PyData.keyHash P (Str.ofString "__name__"), key := Value.str (Str.ofString "__name__") 165, val := Value.str (Str.ofString "law_pb0177_01") 543 }, { hash := PyData.keyHash P (Str.ofString "__doc__"), key := Value.str (Str.ofString "__doc__") 166, val := Value.none }, { hash := PyData.keyHash P (Str.ofString "__package__"), key := Value.str (Str.ofString "__package__") 167, val := Value.none }, { hash := PyData.keyHash P (Str.ofString "__loader__"), key := Value.str (Str.ofString "__loader__") 168, val := Value.builtin "__main__.__loader__#opaque" }, { hash := PyData.keyHash P (Str.ofString "__spec__"), key := Value.str (Str.ofString "__spec__") 169, val := Value.none }, { hash := PyData.keyHash P (Str.ofString "__annotations__"), key := Value.str (Str.ofString "__annotations__") 170, val := Value.ref 6 }, { hash := PyData.keyHash P (Str.ofString "__builtins__"), key := Value.str (Str.ofString "__builtins__") 171, val := Value.ref 4 }, { hash := PyData.keyHash P (Str.ofString "__file__"), key := Value.str (Str.ofString "__file__") 173, val := Value.str (Str.ofString "/claim/cut.py") 172 }, { hash := PyData.keyHash P (Str.ofString "__cached__"), key := Value.str (Str.ofString "__cached__") 174, val := Value.none }, { hash := PyData.keyHash P (Str.ofString "_wall"), key := Value.str (Str.ofString "_wall") 193, val := Value.ref 21 }, { hash := PyData.keyHash P (Str.ofString "ShapeError"), key := Value.str (Str.ofString "ShapeError") 237, val := Value.ref 48 }, { hash := PyData.keyHash P (Str.ofString "TableFault"), key := Value.str (Str.ofString "TableFault") 253, val := Value.ref 61 }, { hash := PyData.keyHash P (Str.ofString "FontFault"), key := Value.str (Str.ofString "FontFault") 269, val := Value.ref 73 }, { hash := PyData.keyHash P (Str.ofString "check_room"), key := Value.str (Str.ofString "check_room") 280, val := Value.ref 82 }, { hash := PyData.keyHash P (Str.ofString "number_at"), key := Value.str (Str.ofString "number_at") 291, val := Value.ref 89 }, { hash := PyData.keyHash P (Str.ofString "signed"), key := Value.str (Str.ofString "signed") 299, val := Value.ref 96 }, { hash := PyData.keyHash P (Str.ofString "OctetsIn"), key := Value.str (Str.ofString "OctetsIn") 405, val := Value.ref 182 }, { hash := PyData.keyHash P (Str.ofString "HEAD_MAGIC"), key := Value.str (Str.ofString "HEAD_MAGIC") 409, val := Value.int 1594834165 408 }, { hash := PyData.keyHash P (Str.ofString "LEAST_UNITS"), key := Value.str (Str.ofString "LEAST_UNITS") 411, val := Value.int 16 410 }, { hash := PyData.keyHash P (Str.ofString "MOST_UNITS"), key := Value.str (Str.ofString "MOST_UNITS") 413, val := Value.int 16384 412 }, { hash := PyData.keyHash P (Str.ofString "SHORT_MAXP"), key := Value.str (Str.ofString "SHORT_MAXP") 415, val := Value.int 20480 414 }, { hash := PyData.keyHash P (Str.ofString "LONG_MAXP"), key := Value.str (Str.ofString "LONG_MAXP") 417, val := Value.int 65536 416 }, { hash := PyData.keyHash P (Str.ofString "Metrics"), key := Value.str (Str.ofString "Metrics") 468, val := Value.ref 217 }, { hash := PyData.keyHash P (Str.ofString "table_at"), key := Value.str (Str.ofString "table_at") 476, val := Value.ref 228 }, { hash := PyData.keyHash P (Str.ofString "need_version"), key := Value.str (Str.ofString "need_version") 486, val := Value.ref 235 }, { hash := PyData.keyHash P (Str.ofString "read_units"), key := Value.str (Str.ofString "read_units") 495, val := Value.ref 242 }, { hash := PyData.keyHash P (Str.ofString "read_lines"), key := Value.str (Str.ofString "read_lines") 505, val := Value.ref 249 }, { hash := PyData.keyHash P (Str.ofString "read_count"), key := Value.str (Str.ofString "read_count") 515, val := Value.ref 256 }, { hash := PyData.keyHash P (Str.ofString "read_widths"), key := Value.str (Str.ofString "read_widths") 528, val := Value.ref 263 }, { hash := PyData.keyHash P (Str.ofString "read_metrics"), key := Value.str (Str.ofString "read_metrics") 542, val := Value.ref 270 }, { hash := PyData.keyHash P (Str.ofString "_law_draw"), key := Value.str (Str.ofString "_law_draw") 554, val := Value.ref 277 }, { hash := PyData.keyHash P (Str.ofString "_law_octets"), key := Value.str (Str.ofString "_law_octets") 560, val := Value.ref 282 }, { hash := PyData.keyHash P (Str.ofString "_law_filler"), key := Value.str (Str.ofString "_law_filler") 566, val := Value.ref 287 }, { hash := PyData.keyHash P (Str.ofString "_law_signed"), key := Value.str (Str.ofString "_law_signed") 573, val := Value.ref 294 }, { hash := PyData.keyHash P (Str.ofString "_law_head"), key := Value.str (Str.ofString "_law_head") 584, val := Value.ref 301 }, { hash := PyData.keyHash P (Str.ofString "_law_hhea"), key := Value.str (Str.ofString "_law_hhea") 597, val := Value.ref 308 }, { hash := PyData.keyHash P (Str.ofString "_law_seen"), key := Value.str (Str.ofString "_law_seen") 605, val := Value.ref 315 }, { hash := PyData.keyHash P (Str.ofString "law"), key := Value.str (Str.ofString "law") 611, val := Value.ref 320 }] 38 }) ::
    (nat_lit 15, { cls := Value.type "tuple", data := Data.seq #[] }) ::
    (nat_lit 17, { cls := Value.type "tuple", data := Data.seq #[Value.str (Str.ofString "k") 190] }) ::
    (nat_lit 18, { cls := Value.type "tuple", data := Data.seq #[] }) ::
    (nat_lit 20, { cls := Value.type "code", data := Data.fields #[Value.str (Str.ofString "_wall") 187, Value.str (Str.ofString "_wall") 188, Value.str (Str.ofString "/claim/cut.py") 189, Value.int 1 0, Value.int 1 0, Value.int 0 0, Value.int 0 0, Value.int 3 0, Value.ref 15, Value.bool true, Value.int 181 0, Value.ref 16, Value.none, Value.ref 17, Value.ref 18, Value.ref 19, Value.int 191 0, Value.int 1 0, Value.str (Str.ofString "/claim/cut.py") 192] }) ::
    (nat_lit 21, o21) ::
    (nat_lit 22, { cls := Value.type "tuple", data := Data.seq #[Value.type "Exception"] }) ::
    (nat_lit 25, { cls := Value.type "cell", data := Data.cell (some (Value.ref 48)) }) ::
    (nat_lit 30, { cls := Value.type "tuple", data := Data.seq #[Value.int (-1) 209] }) ::
    (nat_lit 31, { cls := Value.type "tuple", data := Data.seq #[Value.ref 25] }) ::
    (nat_lit 32, { cls := Value.type "tuple", data := Data.seq #[Value.str (Str.ofString "__class__") 213] }) ::
    (nat_lit 34, { cls := Value.type "tuple", data := Data.seq #[Value.str (Str.ofString "self") 214, Value.str (Str.ofString "what") 215, Value.str (Str.ofString "at") 216] }) ::
    (nat_lit 35, { cls := Value.type "tuple", data := Data.seq #[] }) ::
    (nat_lit 37, { cls := Value.type "code", data := Data.fields #[Value.str (Str.ofString "__init__") 210, Value.str (Str.ofString "ShapeError.__init__") 211, Value.str (Str.ofString "/claim/cut.py") 212, Value.int 7 0, Value.int 3 0, Value.int 0 0, Value.int 0 0, Value.int 3 0, Value.ref 32, Value.bool true, Value.int 181 0, Value.ref 33, Value.none, Value.ref 34, Value.ref 35, Value.ref 36, Value.int 217 0, Value.int 7 0, Value.str (Str.ofString "/claim/cut.py") 218] }) ::
    (nat_lit 38, o38) ::
    (nat_lit 39, { cls := Value.type "tuple", data := Data.seq #[] }) ::
    (nat_lit 41, { cls := Value.type "tuple", data := Data.seq #[Value.str (Str.ofString "self") 223] }) ::
    (nat_lit 42, { cls := Value.type "tuple", data := Data.seq #[] }) ::
    (nat_lit 44, { cls := Value.type "code", data := Data.fields #[Value.str (Str.ofString "told") 220, Value.str (Str.ofString "ShapeError.told") 221, Value.str (Str.ofString "/claim/cut.py") 222, Value.int 12 0, Value.int 1 0, Value.int 0 0, Value.int 0 0, Value.int 3 0, Value.ref 39, Value.bool true, Value.int 181 0, Value.ref 40, Value.none, Value.ref 41, Value.ref 42, Value.ref 43, Value.int 224 0, Value.int 12 0, Value.str (Str.ofString "/claim/cut.py") 225] }) ::
    (nat_lit 45, o45) ::
    (nat_lit 46, { cls := Value.type "tuple", data := Data.seq #[Value.str (Str.ofString "at") 227, Value.str (Str.ofString "what") 228] }) ::
    (nat_lit 47, { cls := Value.type "dict", data := Data.dict #[{ hash := PyData.keyHash P (Str.ofString "__module__"), key := Value.str (Str.ofString "__module__") 203, val := Value.str (Str.ofString "joinedhand.errors") 194 }, { hash := PyData.keyHash P (Str.ofString "__firstlineno__"), key := Value.str (Str.ofString "__firstlineno__") 207, val := Value.int 5 206 }, { hash := PyData.keyHash P (Str.ofString "__init__"), key := Value.str (Str.ofString "__init__") 219, val := Value.ref 38 }, { hash := PyData.keyHash P (Str.ofString "told"), key := Value.str (Str.ofString "told") 226, val := Value.ref 45 }, { hash := PyData.keyHash P (Str.ofString "__static_attributes__"), key := Value.str (Str.ofString "__static_attributes__") 229, val := Value.ref 46 }, { hash := PyData.keyHash P (Str.ofString "__weakref__"), key := Value.str (Str.ofString "__weakref__") 232, val := Value.ref 49 }, { hash := PyData.keyHash P (Str.ofString "__doc__"), key := Value.str (Str.ofString "__doc__") 233, val := Value.none }] 4 }) ::
    (nat_lit 48, { cls := Value.type "type", data := Data.cls { name := Str.ofString "ShapeError", bases := [Value.type "Exception"], mro := [Value.ref 48, Value.type "Exception", Value.type "BaseException", Value.type "object"], ns := 47, qualname := Str.ofString "ShapeError", subclasses := [Value.ref 61, Value.ref 73] }, slots := #[some (Value.ref 22), none, some (Value.str (Str.ofString "ShapeError") 196), some (Value.str (Str.ofString "ShapeError") 204), some (Value.builtin "Exception.__new__"), some (Value.bool true)] }) ::
    (nat_lit 49, { cls := Value.type "getset_descriptor", data := Data.fields #[Value.str (Str.ofString "__weakref__") 231, Value.ref 48, Value.builtin "ExceptionGroup.__weakref__", Value.none] }) ::
    (nat_lit 52, { cls := Value.type "tuple", data := Data.seq #[Value.ref 48] }) ::
    (nat_lit 59, { cls := Value.type "tuple", data := Data.seq #[] }) ::
    (nat_lit 60, { cls := Value.type "dict", data := Data.dict #[{ hash := PyData.keyHash P (Str.ofString "__module__"), key := Value.str (Str.ofString "__module__") 245, val := Value.str (Str.ofString "joinedhand.errors") 194 }, { hash := PyData.keyHash P (Str.ofString "__firstlineno__"), key := Value.str (Str.ofString "__firstlineno__") 249, val := Value.int 14 248 }, { hash := PyData.keyHash P (Str.ofString "__static_attributes__"), key := Value.str (Str.ofString "__static_attributes__") 250, val := Value.ref 59 }, { hash := PyData.keyHash P (Str.ofString "__doc__"), key := Value.str (Str.ofString "__doc__") 251, val := Value.none }] 2 }) ::
    (nat_lit 61, { cls := Value.type "type", data := Data.cls { name := Str.ofString "TableFault", bases := [Value.ref 48], mro := [Value.ref 61, Value.ref 48, Value.type "Exception", Value.type "BaseException", Value.type "object"], ns := 60, qualname := Str.ofString "TableFault" }, slots := #[some (Value.ref 52), none, some (Value.str (Str.ofString "TableFault") 238), some (Value.str (Str.ofString "TableFault") 246), some (Value.builtin "Exception.__new__"), some (Value.bool true)] }) ::
    (nat_lit 64, { cls := Value.type "tuple", data := Data.seq #[Value.ref 48] }) ::
    (nat_lit 71, { cls := Value.type "tuple", data := Data.seq #[] }) ::
    (nat_lit 72, { cls := Value.type "dict", data := Data.dict #[{ hash := PyData.keyHash P (Str.ofString "__module__"), key := Value.str (Str.ofString "__module__") 261, val := Value.str (Str.ofString "joinedhand.errors") 194 }, { hash := PyData.keyHash P (Str.ofString "__firstlineno__"), key := Value.str (Str.ofString "__firstlineno__") 265, val := Value.int 16 264 }, { hash := PyData.keyHash P (Str.ofString "__static_attributes__"), key := Value.str (Str.ofString "__static_attributes__") 266, val := Value.ref 71 }, { hash := PyData.keyHash P (Str.ofString "__doc__"), key := Value.str (Str.ofString "__doc__") 267, val := Value.none }] 2 }) ::
    (nat_lit 73, { cls := Value.type "type", data := Data.cls { name := Str.ofString "FontFault", bases := [Value.ref 48], mro := [Value.ref 73, Value.ref 48, Value.type "Exception", Value.type "BaseException", Value.type "object"], ns := 72, qualname := Str.ofString "FontFault" }, slots := #[some (Value.ref 64), none, some (Value.str (Str.ofString "FontFault") 254), some (Value.str (Str.ofString "FontFault") 262), some (Value.builtin "Exception.__new__"), some (Value.bool true)] }) ::
    (nat_lit 76, { cls := Value.type "tuple", data := Data.seq #[] }) ::
    (nat_lit 78, { cls := Value.type "tuple", data := Data.seq #[Value.str (Str.ofString "data") 275, Value.str (Str.ofString "at") 276, Value.str (Str.ofString "count") 277] }) ::
    (nat_lit 79, { cls := Value.type "tuple", data := Data.seq #[] }) ::
    (nat_lit 81, { cls := Value.type "code", data := Data.fields #[Value.str (Str.ofString "check_room") 272, Value.str (Str.ofString "check_room") 273, Value.str (Str.ofString "/claim/cut.py") 274, Value.int 19 0, Value.int 3 0, Value.int 0 0, Value.int 0 0, Value.int 3 0, Value.ref 76, Value.bool true, Value.int 181 0, Value.ref 77, Value.none, Value.ref 78, Value.ref 79, Value.ref 80, Value.int 278 0, Value.int 19 0, Value.str (Str.ofString "/claim/cut.py") 279] }) ::
    (nat_lit 82, o82) ::
    (nat_lit 83, { cls := Value.type "tuple", data := Data.seq #[] }) ::
    (nat_lit 85, { cls := Value.type "tuple", data := Data.seq #[Value.str (Str.ofString "data") 284, Value.str (Str.ofString "at") 285, Value.str (Str.ofString "count") 286, Value.str (Str.ofString "total") 287, Value.str (Str.ofString "code") 288] }) ::
    (nat_lit 86, { cls := Value.type "tuple", data := Data.seq #[] }) ::
    (nat_lit 88, { cls := Value.type "code", data := Data.fields #[Value.str (Str.ofString "number_at") 281, Value.str (Str.ofString "number_at") 282, Value.str (Str.ofString "/claim/cut.py") 283, Value.int 22 0, Value.int 3 0, Value.int 0 0, Value.int 0 0, Value.int 3 0, Value.ref 83, Value.bool true, Value.int 181 0, Value.ref 84, Value.none, Value.ref 85, Value.ref 86, Value.ref 87, Value.int 289 0, Value.int 22 0, Value.str (Str.ofString "/claim/cut.py") 290] }) ::
    (nat_lit 89, o89) ::
    (nat_lit 90, { cls := Value.type "tuple", data := Data.seq #[] }) ::
    (nat_lit 92, { cls := Value.type "tuple", data := Data.seq #[Value.str (Str.ofString "number") 295, Value.str (Str.ofString "bits") 296] }) ::
    (nat_lit 93, { cls := Value.type "tuple", data := Data.seq #[] }) ::
    (nat_lit 95, { cls := Value.type "code", data := Data.fields #[Value.str (Str.ofString "signed") 292, Value.str (Str.ofString "signed") 293, Value.str (Str.ofString "/claim/cut.py") 294, Value.int 28 0, Value.int 2 0, Value.int 0 0, Value.int 0 0, Value.int 3 0, Value.ref 90, Value.bool true, Value.int 181 0, Value.ref 91, Value.none, Value.ref 92, Value.ref 93, Value.ref 94, Value.int 297 0, Value.int 28 0, Value.str (Str.ofString "/claim/cut.py") 298] }) ::
    (nat_lit 96, o96) ::
    (nat_lit 104, { cls := Value.type "tuple", data := Data.seq #[Value.int 0 312] }) ::
    (nat_lit 105, { cls := Value.type "tuple", data := Data.seq #[] }) ::
    (nat_lit 107, { cls := Value.type "tuple", data := Data.seq #[Value.str (Str.ofString "self") 316, Value.str (Str.ofString "data") 317, Value.str (Str.ofString "at") 318] }) ::
    (nat_lit 108, { cls := Value.type "tuple", data := Data.seq #[] }) ::
    (nat_lit 110, { cls := Value.type "code", data := Data.fields #[Value.str (Str.ofString "__init__") 313, Value.str (Str.ofString "OctetsIn.__init__") 314, Value.str (Str.ofString "/claim/cut.py") 315, Value.int 34 0, Value.int 3 0, Value.int 0 0, Value.int 0 0, Value.int 3 0, Value.ref 105, Value.bool true, Value.int 181 0, Value.ref 106, Value.none, Value.ref 107, Value.ref 108, Value.ref 109, Value.int 319 0, Value.int 34 0, Value.str (Str.ofString "/claim/cut.py") 320] }) ::
    (nat_lit 111, o111) ::
    (nat_lit 112, { cls := Value.type "tuple", data := Data.seq #[] }) ::
    (nat_lit 114, { cls := Value.type "tuple", data := Data.seq #[Value.str (Str.ofString "self") 325, Value.str (Str.ofString "count") 326] }) ::
    (nat_lit 115, { cls := Value.type "tuple", data := Data.seq #[] }) ::
    (nat_lit 117, { cls := Value.type "code", data := Data.fields #[Value.str (Str.ofString "need") 322, Value.str (Str.ofString "OctetsIn.need") 323, Value.str (Str.ofString "/claim/cut.py") 324, Value.int 38 0, Value.int 2 0, Value.int 0 0, Value.int 0 0, Value.int 3 0, Value.ref 112, Value.bool true, Value.int 181 0, Value.ref 113, Value.none, Value.ref 114, Value.ref 115, Value.ref 116, Value.int 327 0, Value.int 38 0, Value.str (Str.ofString "/claim/cut.py") 328] }) ::
    (nat_lit 118, o118) ::
    (nat_lit 119, { cls := Value.type "tuple", data := Data.seq #[] }) ::
    (nat_lit 121, { cls := Value.type "tuple", data := Data.seq #[Value.str (Str.ofString "self") 333, Value.str (Str.ofString "count") 334, Value.str (Str.ofString "found") 335] }) ::
    (nat_lit 122, { cls := Value.type "tuple", data := Data.seq #[] }) ::
    (nat_lit 124, { cls := Value.type "code", data := Data.fields #[Value.str (Str.ofString "number") 330, Value.str (Str.ofString "OctetsIn.number") 331, Value.str (Str.ofString "/claim/cut.py") 332, Value.int 41 0, Value.int 2 0, Value.int 0 0, Value.int 0 0, Value.int 3 0, Value.ref 119, Value.bool true, Value.int 181 0, Value.ref 120, Value.none, Value.ref 121, Value.ref 122, Value.ref 123, Value.int 336 0, Value.int 41 0, Value.str (Str.ofString "/claim/cut.py") 337] }) ::
    (nat_lit 125, o125) ::
    (nat_lit 126, { cls := Value.type "tuple", data := Data.seq #[] }) ::
    (nat_lit 128, { cls := Value.type "tuple", data := Data.seq #[Value.str (Str.ofString "self") 342] }) ::
    (nat_lit 129, { cls := Value.type "tuple", data := Data.seq #[] }) ::
    (nat_lit 131, { cls := Value.type "code", data := Data.fields #[Value.str (Str.ofString "u8") 339, Value.str (Str.ofString "OctetsIn.u8") 340, Value.str (Str.ofString "/claim/cut.py") 341, Value.int 46 0, Value.int 1 0, Value.int 0 0, Value.int 0 0, Value.int 3 0, Value.ref 126, Value.bool true, Value.int 181 0, Value.ref 127, Value.none, Value.ref 128, Value.ref 129, Value.ref 130, Value.int 343 0, Value.int 46 0, Value.str (Str.ofString "/claim/cut.py") 344] }) ::
    (nat_lit 132, o132) ::
    (nat_lit 133, { cls := Value.type "tuple", data := Data.seq #[] }) ::
    (nat_lit 135, { cls := Value.type "tuple", data := Data.seq #[Value.str (Str.ofString "self") 349] }) ::
    (nat_lit 136, { cls := Value.type "tuple", data := Data.seq #[] }) ::
    (nat_lit 138, { cls := Value.type "code", data := Data.fields #[Value.str (Str.ofString "u16") 346, Value.str (Str.ofString "OctetsIn.u16") 347, Value.str (Str.ofString "/claim/cut.py") 348, Value.int 49 0, Value.int 1 0, Value.int 0 0, Value.int 0 0, Value.int 3 0, Value.ref 133, Value.bool true, Value.int 181 0, Value.ref 134, Value.none, Value.ref 135, Value.ref 136, Value.ref 137, Value.int 350 0, Value.int 49 0, Value.str (Str.ofString "/claim/cut.py") 351] }) ::
    (nat_lit 139, o139) ::
    (nat_lit 140, { cls := Value.type "tuple", data := Data.seq #[] }) ::
    (nat_lit 142, { cls := Value.type "tuple", data := Data.seq #[Value.str (Str.ofString "self") 356] }) ::
    (nat_lit 143, { cls := Value.type "tuple", data := Data.seq #[] }) ::
    (nat_lit 145, { cls := Value.type "code", data := Data.fields #[Value.str (Str.ofString "i16") 353, Value.str (Str.ofString "OctetsIn.i16") 354, Value.str (Str.ofString "/claim/cut.py") 355, Value.int 52 0, Value.int 1 0, Value.int 0 0, Value.int 0 0, Value.int 3 0, Value.ref 140, Value.bool true, Value.int 181 0, Value.ref 141, Value.none, Value.ref 142, Value.ref 143, Value.ref 144, Value.int 357 0, Value.int 52 0, Value.str (Str.ofString "/claim/cut.py") 358] }) ::
    (nat_lit 146, o146) ::
    (nat_lit 147, { cls := Value.type "tuple", data := Data.seq #[] }) ::
    (nat_lit 149, { cls := Value.type "tuple", data := Data.seq #[Value.str (Str.ofString "self") 363] }) ::
    (nat_lit 150, { cls := Value.type "tuple", data := Data.seq #[] }) ::
    (nat_lit 152, { cls := Value.type "code", data := Data.fields #[Value.str (Str.ofString "u24") 360, Value.str (Str.ofString "OctetsIn.u24") 361, Value.str (Str.ofString "/claim/cut.py") 362, Value.int 55 0, Value.int 1 0, Value.int 0 0, Value.int 0 0, Value.int 3 0, Value.ref 147, Value.bool true, Value.int 181 0, Value.ref 148, Value.none, Value.ref 149, Value.ref 150, Value.ref 151, Value.int 364 0, Value.int 55 0, Value.str (Str.ofString "/claim/cut.py") 365] }) ::
    (nat_lit 153, o153) ::
    (nat_lit 154, { cls := Value.type "tuple", data := Data.seq #[] }) ::
    (nat_lit 156, { cls := Value.type "tuple", data := Data.seq #[Value.str (Str.ofString "self") 370] }) ::
    (nat_lit 157, { cls := Value.type "tuple", data := Data.seq #[] }) ::
    (nat_lit 159, { cls := Value.type "code", data := Data.fields #[Value.str (Str.ofString "u32") 367, Value.str (Str.ofString "OctetsIn.u32") 368, Value.str (Str.ofString "/claim/cut.py") 369, Value.int 58 0, Value.int 1 0, Value.int 0 0, Value.int 0 0, Value.int 3 0, Value.ref 154, Value.bool true, Value.int 181 0, Value.ref 155, Value.none, Value.ref 156, Value.ref 157, Value.ref 158, Value.int 371 0, Value.int 58 0, Value.str (Str.ofString "/claim/cut.py") 372] }) ::
    (nat_lit 160, o160) ::
    (nat_lit 161, { cls := Value.type "tuple", data := Data.seq #[] }) ::
    (nat_lit 164, { cls := Value.type "code", data := Data.fields #[Value.str (Str.ofString "tag") 374, Value.str (Str.ofString "OctetsIn.tag") 375, Value.str (Str.ofString "/claim/cut.py") 376, Value.int 61 0, Value.int 1 0, Value.int 0 0, Value.int 0 0, Value.int 3 0, Value.ref 161, Value.bool true, Value.int 181 0, Value.ref 162, Value.none, Value.none, Value.none, Value.ref 163, Value.int 377 0, Value.int 61 0, Value.str (Str.ofString "/claim/cut.py") 378] }) ::
    (nat_lit 165, o165) ::
    (nat_lit 166, { cls := Value.type "tuple", data := Data.seq #[] }) ::
    (nat_lit 168, { cls := Value.type "tuple", data := Data.seq #[Value.str (Str.ofString "self") 383, Value.str (Str.ofString "count") 384] }) ::
    (nat_lit 169, { cls := Value.type "tuple", data := Data.seq #[] }) ::
    (nat_lit 171, { cls := Value.type "code", data := Data.fields #[Value.str (Str.ofString "rows") 380, Value.str (Str.ofString "OctetsIn.rows") 381, Value.str (Str.ofString "/claim/cut.py") 382, Value.int 67 0, Value.int 2 0, Value.int 0 0, Value.int 0 0, Value.int 3 0, Value.ref 166, Value.bool true, Value.int 181 0, Value.ref 167, Value.none, Value.ref 168, Value.ref 169, Value.ref 170, Value.int 385 0, Value.int 67 0, Value.str (Str.ofString "/claim/cut.py") 386] }) ::
    (nat_lit 172, o172) ::
    (nat_lit 173, { cls := Value.type "tuple", data := Data.seq #[] }) ::
    (nat_lit 175, { cls := Value.type "tuple", data := Data.seq #[Value.str (Str.ofString "self") 391, Value.str (Str.ofString "offset") 392] }) ::
    (nat_lit 176, { cls := Value.type "tuple", data := Data.seq #[] }) ::
    (nat_lit 178, { cls := Value.type "code", data := Data.fields #[Value.str (Str.ofString "here") 388, Value.str (Str.ofString "OctetsIn.here") 389, Value.str (Str.ofString "/claim/cut.py") 390, Value.int 70 0, Value.int 2 0, Value.int 0 0, Value.int 0 0, Value.int 3 0, Value.ref 173, Value.bool true, Value.int 181 0, Value.ref 174, Value.none, Value.ref 175, Value.ref 176, Value.ref 177, Value.int 393 0, Value.int 70 0, Value.str (Str.ofString "/claim/cut.py") 394] }) ::
    (nat_lit 179, o179) ::
    (nat_lit 180, { cls := Value.type "tuple", data := Data.seq #[Value.str (Str.ofString "at") 396, Value.str (Str.ofString "data") 397] }) ::
    (nat_lit 181, { cls := Value.type "dict", data := Data.dict #[{ hash := PyData.keyHash P (Str.ofString "__module__"), key := Value.str (Str.ofString "__module__") 307, val := Value.str (Str.ofString "joinedhand.octets") 270 }, { hash := PyData.keyHash P (Str.ofString "__firstlineno__"), key := Value.str (Str.ofString "__firstlineno__") 311, val := Value.int 32 310 }, { hash := PyData.keyHash P (Str.ofString "__init__"), key := Value.str (Str.ofString "__init__") 321, val := Value.ref 111 }, { hash := PyData.keyHash P (Str.ofString "need"), key := Value.str (Str.ofString "need") 329, val := Value.ref 118 }, { hash := PyData.keyHash P (Str.ofString "number"), key := Value.str (Str.ofString "number") 338, val := Value.ref 125 }, { hash := PyData.keyHash P (Str.ofString "u8"), key := Value.str (Str.ofString "u8") 345, val := Value.ref 132 }, { hash := PyData.keyHash P (Str.ofString "u16"), key := Value.str (Str.ofString "u16") 352, val := Value.ref 139 }, { hash := PyData.keyHash P (Str.ofString "i16"), key := Value.str (Str.ofString "i16") 359, val := Value.ref 146 }, { hash := PyData.keyHash P (Str.ofString "u24"), key := Value.str (Str.ofString "u24") 366, val := Value.ref 153 }, { hash := PyData.keyHash P (Str.ofString "u32"), key := Value.str (Str.ofString "u32") 373, val := Value.ref 160 }, { hash := PyData.keyHash P (Str.ofString "tag"), key := Value.str (Str.ofString "tag") 379, val := Value.ref 165 }, { hash := PyData.keyHash P (Str.ofString "rows"), key := Value.str (Str.ofString "rows") 387, val := Value.ref 172 }, { hash := PyData.keyHash P (Str.ofString "here"), key := Value.str (Str.ofString "here") 395, val := Value.ref 179 }, { hash := PyData.keyHash P (Str.ofString "__static_attributes__"), key := Value.str (Str.ofString "__static_attributes__") 398, val := Value.ref 180 }, { hash := PyData.keyHash P (Str.ofString "__dict__"), key := Value.str (Str.ofString "__dict__") 400, val := Value.ref 183 }, { hash := PyData.keyHash P (Str.ofString "__weakref__"), key := Value.str (Str.ofString "__weakref__") 402, val := Value.ref 184 }, { hash := PyData.keyHash P (Str.ofString "__doc__"), key := Value.str (Str.ofString "__doc__") 403, val := Value.none }] 4 }) ::
    (nat_lit 182, { cls := Value.type "type", data := Data.cls { name := Str.ofString "OctetsIn", bases := [Value.type "object"], mro := [Value.ref 182, Value.type "object"], ns := 181, qualname := Str.ofString "OctetsIn" }, slots := #[none, none, some (Value.str (Str.ofString "OctetsIn") 300), some (Value.str (Str.ofString "OctetsIn") 308), some (Value.builtin "object.__new__"), some (Value.bool true)] }) ::
    (nat_lit 183, { cls := Value.type "getset_descriptor", data := Data.fields #[Value.str (Str.ofString "__dict__") 399, Value.ref 182, Value.builtin "function.__dict__", Value.builtin "function.__dict__#set"] }) ::
    (nat_lit 184, { cls := Value.type "getset_descriptor", data := Data.fields #[Value.str (Str.ofString "__weakref__") 401, Value.ref 182, Value.builtin "ExceptionGroup.__weakref__", Value.none] }) ::
    (nat_lit 194, { cls := Value.type "tuple", data := Data.seq #[] }) ::
    (nat_lit 196, { cls := Value.type "tuple", data := Data.seq #[Value.str (Str.ofString "self") 433, Value.str (Str.ofString "units") 434, Value.str (Str.ofString "ascent") 435, Value.str (Str.ofString "descent") 436, Value.str (Str.ofString "advances") 437, Value.str (Str.ofString "bearings") 438] }) ::
    (nat_lit 197, { cls := Value.type "tuple", data := Data.seq #[] }) ::
    (nat_lit 199, { cls := Value.type "code", data := Data.fields #[Value.str (Str.ofString "__init__") 430, Value.str (Str.ofString "Metrics.__init__") 431, Value.str (Str.ofString "/claim/cut.py") 432, Value.int 80 0, Value.int 6 0, Value.int 0 0, Value.int 0 0, Value.int 3 0, Value.ref 194, Value.bool true, Value.int 181 0, Value.ref 195, Value.none, Value.ref 196, Value.ref 197, Value.ref 198, Value.int 439 0, Value.int 80 0, Value.str (Str.ofString "/claim/cut.py") 440] }) ::
    (nat_lit 200, o200) ::
    (nat_lit 201, { cls := Value.type "tuple", data := Data.seq #[] }) ::
    (nat_lit 203, { cls := Value.type "tuple", data := Data.seq #[Value.str (Str.ofString "self") 445] }) ::
    (nat_lit 204, { cls := Value.type "tuple", data := Data.seq #[] }) ::
    (nat_lit 206, { cls := Value.type "code", data := Data.fields #[Value.str (Str.ofString "glyph_count") 442, Value.str (Str.ofString "Metrics.glyph_count") 443, Value.str (Str.ofString "/claim/cut.py") 444, Value.int 87 0, Value.int 1 0, Value.int 0 0, Value.int 0 0, Value.int 3 0, Value.ref 201, Value.bool true, Value.int 181 0, Value.ref 202, Value.none, Value.ref 203, Value.ref 204, Value.ref 205, Value.int 446 0, Value.int 87 0, Value.str (Str.ofString "/claim/cut.py") 447] }) ::
    (nat_lit 207, o207) ::
    (nat_lit 208, { cls := Value.type "tuple", data := Data.seq #[] }) ::
    (nat_lit 210, { cls := Value.type "tuple", data := Data.seq #[Value.str (Str.ofString "self") 452] }) ::
    (nat_lit 211, { cls := Value.type "tuple", data := Data.seq #[] }) ::
    (nat_lit 213, { cls := Value.type "code", data := Data.fields #[Value.str (Str.ofString "told") 449, Value.str (Str.ofString "Metrics.told") 450, Value.str (Str.ofString "/claim/cut.py") 451, Value.int 90 0, Value.int 1 0, Value.int 0 0, Value.int 0 0, Value.int 3 0, Value.ref 208, Value.bool true, Value.int 181 0, Value.ref 209, Value.none, Value.ref 210, Value.ref 211, Value.ref 212, Value.int 453 0, Value.int 90 0, Value.str (Str.ofString "/claim/cut.py") 454] }) ::
    (nat_lit 214, o214) ::
    (nat_lit 215, { cls := Value.type "tuple", data := Data.seq #[Value.str (Str.ofString "advances") 456, Value.str (Str.ofString "ascent") 457, Value.str (Str.ofString "bearings") 458, Value.str (Str.ofString "descent") 459, Value.str (Str.ofString "units") 460] }) ::
    (nat_lit 216, { cls := Value.type "dict", data := Data.dict #[{ hash := PyData.keyHash P (Str.ofString "__module__"), key := Value.str (Str.ofString "__module__") 425, val := Value.str (Str.ofString "joinedhand.metrics") 406 }, { hash := PyData.keyHash P (Str.ofString "__firstlineno__"), key := Value.str (Str.ofString "__firstlineno__") 429, val := Value.int 78 428 }, { hash := PyData.keyHash P (Str.ofString "__init__"), key := Value.str (Str.ofString "__init__") 441, val := Value.ref 200 }, { hash := PyData.keyHash P (Str.ofString "glyph_count"), key := Value.str (Str.ofString "glyph_count") 448, val := Value.ref 207 }, { hash := PyData.keyHash P (Str.ofString "told"), key := Value.str (Str.ofString "told") 455, val := Value.ref 214 }, { hash := PyData.keyHash P (Str.ofString "__static_attributes__"), key := Value.str (Str.ofString "__static_attributes__") 461, val := Value.ref 215 }, { hash := PyData.keyHash P (Str.ofString "__dict__"), key := Value.str (Str.ofString "__dict__") 463, val := Value.ref 218 }, { hash := PyData.keyHash P (Str.ofString "__weakref__"), key := Value.str (Str.ofString "__weakref__") 465, val := Value.ref 219 }, { hash := PyData.keyHash P (Str.ofString "__doc__"), key := Value.str (Str.ofString "__doc__") 466, val := Value.none }] 4 }) ::
    (nat_lit 217, { cls := Value.type "type", data := Data.cls { name := Str.ofString "Metrics", bases := [Value.type "object"], mro := [Value.ref 217, Value.type "object"], ns := 216, qualname := Str.ofString "Metrics" }, slots := #[none, none, some (Value.str (Str.ofString "Metrics") 418), some (Value.str (Str.ofString "Metrics") 426), some (Value.builtin "object.__new__"), some (Value.bool true)] }) ::
    (nat_lit 218, { cls := Value.type "getset_descriptor", data := Data.fields #[Value.str (Str.ofString "__dict__") 462, Value.ref 217, Value.builtin "function.__dict__", Value.builtin "function.__dict__#set"] }) ::
    (nat_lit 219, { cls := Value.type "getset_descriptor", data := Data.fields #[Value.str (Str.ofString "__weakref__") 464, Value.ref 217, Value.builtin "ExceptionGroup.__weakref__", Value.none] }) ::
    (nat_lit 222, { cls := Value.type "tuple", data := Data.seq #[] }) ::
    (nat_lit 224, { cls := Value.type "tuple", data := Data.seq #[Value.str (Str.ofString "tables") 472, Value.str (Str.ofString "tag") 473] }) ::
    (nat_lit 225, { cls := Value.type "tuple", data := Data.seq #[] }) ::
    (nat_lit 227, { cls := Value.type "code", data := Data.fields #[Value.str (Str.ofString "table_at") 469, Value.str (Str.ofString "table_at") 470, Value.str (Str.ofString "/claim/cut.py") 471, Value.int 92 0, Value.int 2 0, Value.int 0 0, Value.int 0 0, Value.int 3 0, Value.ref 222, Value.bool true, Value.int 181 0, Value.ref 223, Value.none, Value.ref 224, Value.ref 225, Value.ref 226, Value.int 474 0, Value.int 92 0, Value.str (Str.ofString "/claim/cut.py") 475] }) ::
    (nat_lit 228, o228) ::
    (nat_lit 229, { cls := Value.type "tuple", data := Data.seq #[] }) ::
    (nat_lit 231, { cls := Value.type "tuple", data := Data.seq #[Value.str (Str.ofString "reader") 480, Value.str (Str.ofString "versions") 481, Value.str (Str.ofString "at") 482, Value.str (Str.ofString "version") 483] }) ::
    (nat_lit 232, { cls := Value.type "tuple", data := Data.seq #[] }) ::
    (nat_lit 234, { cls := Value.type "code", data := Data.fields #[Value.str (Str.ofString "need_version") 477, Value.str (Str.ofString "need_version") 478, Value.str (Str.ofString "/claim/cut.py") 479, Value.int 96 0, Value.int 2 0, Value.int 0 0, Value.int 0 0, Value.int 3 0, Value.ref 229, Value.bool true, Value.int 181 0, Value.ref 230, Value.none, Value.ref 231, Value.ref 232, Value.ref 233, Value.int 484 0, Value.int 96 0, Value.str (Str.ofString "/claim/cut.py") 485] }) ::
    (nat_lit 235, o235) ::
    (nat_lit 236, { cls := Value.type "tuple", data := Data.seq #[] }) ::
    (nat_lit 238, { cls := Value.type "tuple", data := Data.seq #[Value.str (Str.ofString "data") 490, Value.str (Str.ofString "reader") 491, Value.str (Str.ofString "units") 492] }) ::
    (nat_lit 239, { cls := Value.type "tuple", data := Data.seq #[] }) ::
    (nat_lit 241, { cls := Value.type "code", data := Data.fields #[Value.str (Str.ofString "read_units") 487, Value.str (Str.ofString "read_units") 488, Value.str (Str.ofString "/claim/cut.py") 489, Value.int 102 0, Value.int 1 0, Value.int 0 0, Value.int 0 0, Value.int 3 0, Value.ref 236, Value.bool true, Value.int 181 0, Value.ref 237, Value.none, Value.ref 238, Value.ref 239, Value.ref 240, Value.int 493 0, Value.int 102 0, Value.str (Str.ofString "/claim/cut.py") 494] }) ::
    (nat_lit 242, o242) ::
    (nat_lit 243, { cls := Value.type "tuple", data := Data.seq #[] }) ::
    (nat_lit 245, { cls := Value.type "tuple", data := Data.seq #[Value.str (Str.ofString "data") 499, Value.str (Str.ofString "reader") 500, Value.str (Str.ofString "ascent") 501, Value.str (Str.ofString "descent") 502] }) ::
    (nat_lit 246, { cls := Value.type "tuple", data := Data.seq #[] }) ::
    (nat_lit 248, { cls := Value.type "code", data := Data.fields #[Value.str (Str.ofString "read_lines") 496, Value.str (Str.ofString "read_lines") 497, Value.str (Str.ofString "/claim/cut.py") 498, Value.int 112 0, Value.int 1 0, Value.int 0 0, Value.int 0 0, Value.int 3 0, Value.ref 243, Value.bool true, Value.int 181 0, Value.ref 244, Value.none, Value.ref 245, Value.ref 246, Value.ref 247, Value.int 503 0, Value.int 112 0, Value.str (Str.ofString "/claim/cut.py") 504] }) ::
    (nat_lit 249, o249) ::
    (nat_lit 250, { cls := Value.type "tuple", data := Data.seq #[] }) ::
    (nat_lit 252, { cls := Value.type "tuple", data := Data.seq #[Value.str (Str.ofString "data") 509, Value.str (Str.ofString "reader") 510, Value.str (Str.ofString "version") 511, Value.str (Str.ofString "count") 512] }) ::
    (nat_lit 253, { cls := Value.type "tuple", data := Data.seq #[] }) ::
    (nat_lit 255, { cls := Value.type "code", data := Data.fields #[Value.str (Str.ofString "read_count") 506, Value.str (Str.ofString "read_count") 507, Value.str (Str.ofString "/claim/cut.py") 508, Value.int 121 0, Value.int 1 0, Value.int 0 0, Value.int 0 0, Value.int 3 0, Value.ref 250, Value.bool true, Value.int 181 0, Value.ref 251, Value.none, Value.ref 252, Value.ref 253, Value.ref 254, Value.int 513 0, Value.int 121 0, Value.str (Str.ofString "/claim/cut.py") 514] }) ::
    (nat_lit 256, o256) ::
    (nat_lit 257, { cls := Value.type "tuple", data := Data.seq #[] }) ::
    (nat_lit 259, { cls := Value.type "tuple", data := Data.seq #[Value.str (Str.ofString "data") 519, Value.str (Str.ofString "many") 520, Value.str (Str.ofString "count") 521, Value.str (Str.ofString "reader") 522, Value.str (Str.ofString "advances") 523, Value.str (Str.ofString "bearings") 524, Value.str (Str.ofString "glyph") 525] }) ::
    (nat_lit 260, { cls := Value.type "tuple", data := Data.seq #[] }) ::
    (nat_lit 262, { cls := Value.type "code", data := Data.fields #[Value.str (Str.ofString "read_widths") 516, Value.str (Str.ofString "read_widths") 517, Value.str (Str.ofString "/claim/cut.py") 518, Value.int 129 0, Value.int 3 0, Value.int 0 0, Value.int 0 0, Value.int 3 0, Value.ref 257, Value.bool true, Value.int 181 0, Value.ref 258, Value.none, Value.ref 259, Value.ref 260, Value.ref 261, Value.int 526 0, Value.int 129 0, Value.str (Str.ofString "/claim/cut.py") 527] }) ::
    (nat_lit 263, o263) ::
    (nat_lit 264, { cls := Value.type "tuple", data := Data.seq #[] }) ::
    (nat_lit 266, { cls := Value.type "tuple", data := Data.seq #[Value.str (Str.ofString "tables") 532, Value.str (Str.ofString "units") 533, Value.str (Str.ofString "ascent") 534, Value.str (Str.ofString "descent") 535, Value.str (Str.ofString "many") 536, Value.str (Str.ofString "count") 537, Value.str (Str.ofString "advances") 538, Value.str (Str.ofString "bearings") 539] }) ::
    (nat_lit 267, { cls := Value.type "tuple", data := Data.seq #[] }) ::
    (nat_lit 269, { cls := Value.type "code", data := Data.fields #[Value.str (Str.ofString "read_metrics") 529, Value.str (Str.ofString "read_metrics") 530, Value.str (Str.ofString "/claim/cut.py") 531, Value.int 139 0, Value.int 1 0, Value.int 0 0, Value.int 0 0, Value.int 3 0, Value.ref 264, Value.bool true, Value.int 181 0, Value.ref 265, Value.none, Value.ref 266, Value.ref 267, Value.ref 268, Value.int 540 0, Value.int 139 0, Value.str (Str.ofString "/claim/cut.py") 541] }) ::
    (nat_lit 270, o270) ::
    (nat_lit 271, { cls := Value.type "tuple", data := Data.seq #[] }) ::
    (nat_lit 273, { cls := Value.type "tuple", data := Data.seq #[Value.str (Str.ofString "tape") 548, Value.str (Str.ofString "many") 549, Value.str (Str.ofString "cells") 550, Value.str (Str.ofString "at") 551] }) ::
    (nat_lit 274, { cls := Value.type "tuple", data := Data.seq #[] }) ::
    (nat_lit 276, { cls := Value.type "code", data := Data.fields #[Value.str (Str.ofString "_law_draw") 545, Value.str (Str.ofString "_law_draw") 546, Value.str (Str.ofString "/claim/cut.py") 547, Value.int 148 0, Value.int 2 0, Value.int 0 0, Value.int 0 0, Value.int 3 0, Value.ref 271, Value.bool true, Value.int 181 0, Value.ref 272, Value.none, Value.ref 273, Value.ref 274, Value.ref 275, Value.int 552 0, Value.int 148 0, Value.str (Str.ofString "/claim/cut.py") 553] }) ::
    (nat_lit 277, o277) ::
    (nat_lit 278, { cls := Value.type "tuple", data := Data.seq #[] }) ::
    (nat_lit 281, { cls := Value.type "code", data := Data.fields #[Value.str (Str.ofString "_law_octets") 555, Value.str (Str.ofString "_law_octets") 556, Value.str (Str.ofString "/claim/cut.py") 557, Value.int 152 0, Value.int 2 0, Value.int 0 0, Value.int 0 0, Value.int 3 0, Value.ref 278, Value.bool true, Value.int 181 0, Value.ref 279, Value.none, Value.none, Value.none, Value.ref 280, Value.int 558 0, Value.int 152 0, Value.str (Str.ofString "/claim/cut.py") 559] }) ::
    (nat_lit 282, o282) ::
    (nat_lit 283, { cls := Value.type "tuple", data := Data.seq #[] }) ::
    (nat_lit 286, { cls := Value.type "code", data := Data.fields #[Value.str (Str.ofString "_law_filler") 561, Value.str (Str.ofString "_law_filler") 562, Value.str (Str.ofString "/claim/cut.py") 563, Value.int 154 0, Value.int 2 0, Value.int 0 0, Value.int 0 0, Value.int 3 0, Value.ref 283, Value.bool true, Value.int 181 0, Value.ref 284, Value.none, Value.none, Value.none, Value.ref 285, Value.int 564 0, Value.int 154 0, Value.str (Str.ofString "/claim/cut.py") 565] }) ::
    (nat_lit 287, o287) ::
    (nat_lit 288, { cls := Value.type "tuple", data := Data.seq #[] }) ::
    (nat_lit 290, { cls := Value.type "tuple", data := Data.seq #[Value.str (Str.ofString "number") 570] }) ::
    (nat_lit 291, { cls := Value.type "tuple", data := Data.seq #[] }) ::
    (nat_lit 293, { cls := Value.type "code", data := Data.fields #[Value.str (Str.ofString "_law_signed") 567, Value.str (Str.ofString "_law_signed") 568, Value.str (Str.ofString "/claim/cut.py") 569, Value.int 156 0, Value.int 1 0, Value.int 0 0, Value.int 0 0, Value.int 3 0, Value.ref 288, Value.bool true, Value.int 181 0, Value.ref 289, Value.none, Value.ref 290, Value.ref 291, Value.ref 292, Value.int 571 0, Value.int 156 0, Value.str (Str.ofString "/claim/cut.py") 572] }) ::
    (nat_lit 294, o294) ::
    (nat_lit 295, { cls := Value.type "tuple", data := Data.seq #[] }) ::
    (nat_lit 297, { cls := Value.type "tuple", data := Data.seq #[Value.str (Str.ofString "tape") 577, Value.str (Str.ofString "version") 578, Value.str (Str.ofString "magic") 579, Value.str (Str.ofString "em") 580, Value.str (Str.ofString "octets") 581] }) ::
    (nat_lit 298, { cls := Value.type "tuple", data := Data.seq #[] }) ::
    (nat_lit 300, { cls := Value.type "code", data := Data.fields #[Value.str (Str.ofString "_law_head") 574, Value.str (Str.ofString "_law_head") 575, Value.str (Str.ofString "/claim/cut.py") 576, Value.int 158 0, Value.int 1 0, Value.int 0 0, Value.int 0 0, Value.int 3 0, Value.ref 295, Value.bool true, Value.int 181 0, Value.ref 296, Value.none, Value.ref 297, Value.ref 298, Value.ref 299, Value.int 582 0, Value.int 158 0, Value.str (Str.ofString "/claim/cut.py") 583] }) ::
    (nat_lit 301, o301) ::
    (nat_lit 302, { cls := Value.type "tuple", data := Data.seq #[] }) ::
    (nat_lit 304, { cls := Value.type "tuple", data := Data.seq #[Value.str (Str.ofString "tape") 588, Value.str (Str.ofString "count") 589, Value.str (Str.ofString "up") 590, Value.str (Str.ofString "down") 591, Value.str (Str.ofString "form") 592, Value.str (Str.ofString "many") 593, Value.str (Str.ofString "octets") 594] }) ::
    (nat_lit 305, { cls := Value.type "tuple", data := Data.seq #[] }) ::
    (nat_lit 307, { cls := Value.type "code", data := Data.fields #[Value.str (Str.ofString "_law_hhea") 585, Value.str (Str.ofString "_law_hhea") 586, Value.str (Str.ofString "/claim/cut.py") 587, Value.int 163 0, Value.int 2 0, Value.int 0 0, Value.int 0 0, Value.int 3 0, Value.ref 302, Value.bool true, Value.int 181 0, Value.ref 303, Value.none, Value.ref 304, Value.ref 305, Value.ref 306, Value.int 595 0, Value.int 163 0, Value.str (Str.ofString "/claim/cut.py") 596] }) ::
    (nat_lit 308, o308) ::
    (nat_lit 309, { cls := Value.type "tuple", data := Data.seq #[] }) ::
    (nat_lit 311, { cls := Value.type "tuple", data := Data.seq #[Value.str (Str.ofString "tables") 601, Value.str (Str.ofString "fault") 602] }) ::
    (nat_lit 312, { cls := Value.type "tuple", data := Data.seq #[] }) ::
    (nat_lit 314, { cls := Value.type "code", data := Data.fields #[Value.str (Str.ofString "_law_seen") 598, Value.str (Str.ofString "_law_seen") 599, Value.str (Str.ofString "/claim/cut.py") 600, Value.int 168 0, Value.int 1 0, Value.int 0 0, Value.int 0 0, Value.int 3 0, Value.ref 309, Value.bool true, Value.int 181 0, Value.ref 310, Value.none, Value.ref 311, Value.ref 312, Value.ref 313, Value.int 603 0, Value.int 168 0, Value.str (Str.ofString "/claim/cut.py") 604] }) ::
    (nat_lit 315, o315) ::
    (nat_lit 316, { cls := Value.type "tuple", data := Data.seq #[] }) ::
    (nat_lit 319, { cls := Value.type "code", data := Data.fields #[Value.str (Str.ofString "law") 606, Value.str (Str.ofString "law") 607, Value.str (Str.ofString "/claim/cut.py") 608, Value.int 173 0, Value.int 1 0, Value.int 0 0, Value.int 0 0, Value.int 3 0, Value.ref 316, Value.bool true, Value.int 181 0, Value.ref 317, Value.none, Value.none, Value.none, Value.ref 318, Value.int 609 0, Value.int 173 0, Value.str (Str.ofString "/claim/cut.py") 610] }) ::
    (nat_lit 320, o320) :: []
  case h21 => (dsimp only [PySem.Challenge.pw_pb0177_01, nth, mth, fpar, fbod, fsco]; exact rfl)
  case h38 => (dsimp only [PySem.Challenge.pw_pb0177_01, nth, mth, fpar, fbod, fsco]; exact rfl)
  case h45 => (dsimp only [PySem.Challenge.pw_pb0177_01, nth, mth, fpar, fbod, fsco]; exact rfl)
  case h82 => (dsimp only [PySem.Challenge.pw_pb0177_01, nth, mth, fpar, fbod, fsco]; exact rfl)
  case h89 => (dsimp only [PySem.Challenge.pw_pb0177_01, nth, mth, fpar, fbod, fsco]; exact rfl)
  case h96 => (dsimp only [PySem.Challenge.pw_pb0177_01, nth, mth, fpar, fbod, fsco]; exact rfl)
  case h111 => (dsimp only [PySem.Challenge.pw_pb0177_01, nth, mth, fpar, fbod, fsco]; exact rfl)
  case h118 => (dsimp only [PySem.Challenge.pw_pb0177_01, nth, mth, fpar, fbod, fsco]; exact rfl)
  case h125 => (dsimp only [PySem.Challenge.pw_pb0177_01, nth, mth, fpar, fbod, fsco]; exact rfl)
  case h132 => (dsimp only [PySem.Challenge.pw_pb0177_01, nth, mth, fpar, fbod, fsco]; exact rfl)
  case h139 => (dsimp only [PySem.Challenge.pw_pb0177_01, nth, mth, fpar, fbod, fsco]; exact rfl)
  case h146 => (dsimp only [PySem.Challenge.pw_pb0177_01, nth, mth, fpar, fbod, fsco]; exact rfl)
  case h153 => (dsimp only [PySem.Challenge.pw_pb0177_01, nth, mth, fpar, fbod, fsco]; exact rfl)
  case h160 => (dsimp only [PySem.Challenge.pw_pb0177_01, nth, mth, fpar, fbod, fsco]; exact rfl)
  case h165 => (dsimp only [PySem.Challenge.pw_pb0177_01, nth, mth, fpar, fbod, fsco]; exact rfl)
  case h172 => (dsimp only [PySem.Challenge.pw_pb0177_01, nth, mth, fpar, fbod, fsco]; exact rfl)
  case h179 => (dsimp only [PySem.Challenge.pw_pb0177_01, nth, mth, fpar, fbod, fsco]; exact rfl)
  case h200 => (dsimp only [PySem.Challenge.pw_pb0177_01, nth, mth, fpar, fbod, fsco]; exact rfl)
  case h207 => (dsimp only [PySem.Challenge.pw_pb0177_01, nth, mth, fpar, fbod, fsco]; exact rfl)
  case h214 => (dsimp only [PySem.Challenge.pw_pb0177_01, nth, mth, fpar, fbod, fsco]; exact rfl)
  case h228 => (dsimp only [PySem.Challenge.pw_pb0177_01, nth, mth, fpar, fbod, fsco]; exact rfl)
  case h235 => (dsimp only [PySem.Challenge.pw_pb0177_01, nth, mth, fpar, fbod, fsco]; exact rfl)
  case h242 => (dsimp only [PySem.Challenge.pw_pb0177_01, nth, mth, fpar, fbod, fsco]; exact rfl)
  case h249 => (dsimp only [PySem.Challenge.pw_pb0177_01, nth, mth, fpar, fbod, fsco]; exact rfl)
  case h256 => (dsimp only [PySem.Challenge.pw_pb0177_01, nth, mth, fpar, fbod, fsco]; exact rfl)
  case h263 => (dsimp only [PySem.Challenge.pw_pb0177_01, nth, mth, fpar, fbod, fsco]; exact rfl)
  case h270 => (dsimp only [PySem.Challenge.pw_pb0177_01, nth, mth, fpar, fbod, fsco]; exact rfl)
  case h277 => (dsimp only [PySem.Challenge.pw_pb0177_01, nth, mth, fpar, fbod, fsco]; exact rfl)
  case h282 => (dsimp only [PySem.Challenge.pw_pb0177_01, nth, mth, fpar, fbod, fsco]; exact rfl)
  case h287 => (dsimp only [PySem.Challenge.pw_pb0177_01, nth, mth, fpar, fbod, fsco]; exact rfl)
  case h294 => (dsimp only [PySem.Challenge.pw_pb0177_01, nth, mth, fpar, fbod, fsco]; exact rfl)
  case h301 => (dsimp only [PySem.Challenge.pw_pb0177_01, nth, mth, fpar, fbod, fsco]; exact rfl)
  case h308 => (dsimp only [PySem.Challenge.pw_pb0177_01, nth, mth, fpar, fbod, fsco]; exact rfl)
  case h315 => (dsimp only [PySem.Challenge.pw_pb0177_01, nth, mth, fpar, fbod, fsco]; exact rfl)
  case h320 => (dsimp only [PySem.Challenge.pw_pb0177_01, nth, mth, fpar, fbod, fsco]; exact rfl)
noncomputable def vw : Program := by
  refine (?f : (a : Program) → a = { PySem.Challenge.pw_pb0177_01 with main := { PySem.Challenge.pw_pb0177_01.main with body := [nth pbody 0, nth pbody 2, nth pbody 3, nth pbody 4, nth pbody 6, nth pbody 7, nth pbody 8, nth pbody 9, nth pbody 11, nth pbody 12, nth pbody 13, nth pbody 14, nth pbody 15, nth pbody 16, nth pbody 17, nth pbody 18, nth pbody 19, nth pbody 20, nth pbody 21, nth pbody 22, nth pbody 23, nth pbody 25, nth pbody 26, nth pbody 27, nth pbody 28, nth pbody 29, nth pbody 30, nth pbody 31, nth pbody 32] } } → Program) ?a ?h
  case f => exact fun a _ => a
  case h =>
    dsimp only [pbody, PySem.Challenge.pw_pb0177_01, nth]
    exact rfl
open PySem.Spec PySem.Calls
abbrev lawRow : OpenRow := PySem.Challenge.rw_pb0177_01.row
noncomputable abbrev hook : Hook := kHook K [2, 3, 15, 17, 18, 20, 21, 22, 25, 30, 31, 32, 34, 35, 37, 38, 39, 41, 42, 44, 45, 46, 47, 48, 49, 52, 59, 60, 61, 64, 71, 72, 73, 76, 78, 79, 81, 82, 83, 85, 86, 88, 89, 90, 92, 93, 95, 96, 104, 105, 107, 108, 110, 111, 112, 114, 115, 117, 118, 119, 121, 122, 124, 125, 126, 128, 129, 131, 132, 133, 135, 136, 138, 139, 140, 142, 143, 145, 146, 147, 149, 150, 152, 153, 154, 156, 157, 159, 160, 161, 164, 165, 166, 168, 169, 171, 172, 173, 175, 176, 178, 179, 180, 181, 182, 183, 184, 194, 196, 197, 199, 200, 201, 203, 204, 206, 207, 208, 210, 211, 213, 214, 215, 216, 217, 218, 219, 222, 224, 225, 227, 228, 229, 231, 232, 234, 235, 236, 238, 239, 241, 242, 243, 245, 246, 248, 249, 250, 252, 253, 255, 256, 257, 259, 260, 262, 263, 264, 266, 267, 269, 270, 271, 273, 274, 276, 277, 278, 281, 282, 283, 286, 287, 288, 290, 291, 293, 294, 295, 297, 298, 300, 301, 302, 304, 305, 307, 308, 309, 311, 312, 314, 315, 316, 319, 320] (fun _ => by kernel_rfl)

noncomputable def tree0 (P : Params) : BT := (.node (boot_o_0 P) (.node (boot_o_1 P) (.node (boot_o_3 P) (.node (boot_o_7 P) .nil .nil) .nil) (.node (boot_o_5 P) (.node (boot_o_9 P) .nil .nil) .nil)) (.node (boot_o_2 P) (.node (boot_o_4 P) (.node (boot_o_8 P) .nil .nil) .nil) (.node (boot_o_6 P) (.node (boot_o_10 P) .nil .nil) .nil)))
theorem tree0_heap (P : Params) : absHeap (tree0 P) 11 {} = boot_heap P := by kernel_rfl
noncomputable def runR (den : Code → Sem Fin) (p : Program) (w : World) (n : Nat) : SharedT → Thread → Option SharedT :=
  @Nat.rec (fun _ => SharedT → Thread → Option SharedT) (fun _ _ => none) (fun _ ih s t => @Bool.rec (fun _ => Option SharedT) (@Bool.rec (fun _ => Option SharedT) none (@Option.rec _ (fun _ => Option SharedT) none (fun x => ih x.1 x.2) (stepT den p w s t)) (stepOk 11 (some (.ref 6)) t)) (some s) (through t)) n
theorem runR_of {tb : String → Option Builtin} {p : Program} {w : World} {s' : SharedT} (n : Nat) : ∀ s t, runR (denote tb) p w n s t = some s' → topRun tb p w 11 (some (.ref 6)) n s.abs t = some s'.abs := by
  induction n with
  | zero => exact fun _ _ h => nomatch h
  | succ n ih =>
    intro s t h
    have u : topRun tb p w 11 (some (.ref 6)) (n + 1) s.abs t = @Bool.rec (fun _ => Option Shared) (@Bool.rec (fun _ => Option Shared) none (@Step.rec (fun _ => Option Shared) (fun s' t' => topRun tb p w 11 (some (.ref 6)) n s' t') (fun _ _ => none) (step (denote tb) p w s.abs t)) (stepOk 11 (some (.ref 6)) t)) (some s.abs) (through t) := by kernel_rfl
    refine u.trans ?_
    clear u
    change @Bool.rec (fun _ => Option SharedT) (@Bool.rec (fun _ => Option SharedT) none (@Option.rec _ (fun _ => Option SharedT) none (fun x => runR (denote tb) p w n x.1 x.2) (stepT (denote tb) p w s t)) (stepOk 11 (some (.ref 6)) t)) (some s) (through t) = some s' at h
    revert h
    cases through t with
    | true => exact fun h => congrArg (Option.map SharedT.abs) h
    | false =>
      cases stepOk 11 (some (.ref 6)) t with
      | false => exact fun h => nomatch h
      | true =>
        have g := @stepT_spec (denote tb) p w s
        cases o : stepT (denote tb) p w s t with
        | none => exact fun h => nomatch h
        | some x => exact fun h => (congrArg (@Step.rec (fun _ => Option Shared) (fun s' t' => topRun tb p w 11 (some (.ref 6)) n s' t') (fun _ _ => none)) (g (s' := x.1) (t' := x.2) o)).trans (ih _ _ h)
theorem shared_eq {s : Shared} {h : Heap} {g : Array GenState} {d : Drawn} {k : Nat} (e : (s.heap, s.gens, s.drawn, s.toks) = (h, g, d, k)) : s = ⟨h, g, d, k, s.os⟩ := by cases e; rfl
theorem left_of {p q : Program} {loose : List Str} {Xt : Shared → Bool} {α : Type} {Yf : Shared → α} {Ya : World → α} {N : Nat} {g0 : Bool}
    (open_ : ∀ w, (fencedOpening treeTable p w N).map (fun s => (s.heap, s.gens, s.drawn, s.toks)) = some (boot_heap w.params, Array.mk [], boot_drawn, boot_toks))
    (run : ∀ (w : World) (os : OsState), (runR (denote treeTable) p w N ⟨tree0 w.params, 11, {}, Array.mk [], boot_drawn, boot_toks, os⟩ (topStub p)).map (fun s => (staticsOk (importedModules p.main.body) (boot_heap w.params) s.abs.heap && namesBound p s.abs.heap && gensDone s.abs && laidKept (boot_heap w.params) s.abs.heap, openSeen q loose (importedModules p.main.body) Xt g0 s.abs, Yf s.abs)) =
      some (true, openGood q loose, Ya w)) : LeftO p q loose Xt Yf Ya N g0 := fun w => by
  obtain ⟨s₀, e, e'⟩ := Option.map_eq_some_iff.mp (open_ w)
  replace e := e.trans (congrArg some (shared_eq e'))
  generalize s₀.os = os at e
  obtain ⟨s, r, l⟩ := Option.map_eq_some_iff.mp (run w os)
  obtain ⟨l1, l2⟩ := Prod.mk.inj l
  have r' := (congrArg (fun h => topRun treeTable p w 11 (some (.ref 6)) N (⟨h, Array.mk [], boot_drawn, boot_toks, os⟩ : Shared) (topStub p)) (tree0_heap w.params).symm).trans (runR_of _ _ _ r)
  have t : topFrom treeTable p w N ⟨boot_heap w.params, Array.mk [], boot_drawn, boot_toks, os⟩ = some s.abs := by
    have u : topFrom treeTable p w N ⟨boot_heap w.params, Array.mk [], boot_drawn, boot_toks, os⟩ = @Bool.rec (fun _ => Option Shared) none ((topRun treeTable p w (boot_heap w.params).objs.size ((boot_heap w.params).nsMap mainGlobals "__annotations__") N ⟨boot_heap w.params, Array.mk [], boot_drawn, boot_toks, os⟩ (topStub p)).bind fun s₁ => @Bool.rec (fun _ => Option Shared) none (some s₁) (staticsOk (importedModules p.main.body) (boot_heap w.params) s₁.heap && namesBound p s₁.heap && gensDone s₁ && laidKept (boot_heap w.params) s₁.heap)) ((boot_heap w.params).isNs mainGlobals && (Array.mk [] : Array GenState).size == 0) := by kernel_rfl
    refine u.trans ?_
    clear u
    refine (?f : ∀ (i : Bool) (m : Nat) (a : Option Value), i = true → m = 11 → a = some (.ref 6) → @Bool.rec (fun _ => Option Shared) none ((topRun treeTable p w m a N ⟨boot_heap w.params, Array.mk [], boot_drawn, boot_toks, os⟩ (topStub p)).bind fun s₁ => @Bool.rec (fun _ => Option Shared) none (some s₁) (staticsOk (importedModules p.main.body) (boot_heap w.params) s₁.heap && namesBound p s₁.heap && gensDone s₁ && laidKept (boot_heap w.params) s₁.heap)) i = some s.abs) ((boot_heap w.params).isNs mainGlobals && (Array.mk [] : Array GenState).size == 0) (boot_heap w.params).objs.size ((boot_heap w.params).nsMap mainGlobals "__annotations__") ?a ?b ?c
    case f =>
      intro i m a hi hm ha
      subst hi hm ha
      refine (congrArg (fun o => Option.bind o _) r').trans ?_
      exact congrArg (fun b => @Bool.rec (fun _ => Option Shared) none (some s.abs) b) l1
    case a => kernel_rfl
    case b => exact rfl
    case c => kernel_rfl
  exact (congrArg (fun o => (Option.bind o (topFrom treeTable p w N)).map (fun s => (openSeen q loose (importedModules p.main.body) Xt g0 s, Yf s))) e).trans ((congrArg (Option.map (fun s => (openSeen q loose (importedModules p.main.body) Xt g0 s, Yf s))) t).trans (congrArg some l2))
theorem openB (w : World) : (fencedOpening treeTable lawRow.toRowW.prog w 4544).map (fun s => (s.heap, s.gens, s.drawn, s.toks)) = some (boot_heap w.params, Array.mk [], boot_drawn, boot_toks) := boot_open rfl rfl (fun _ => rfl) w
theorem left : LeftO lawRow.toRowW.prog vw [Str.ofString "ShapeError"] (fun s => xlAt vw [] s && recOk (RowW.records lawRow.toRowW) s) (Hook.obs hook) (Hook.val hook) 4544 := by
  refine left_of openB fun w os => ?_
  rw [PySem.W.Fast.te11892475500146522536, PySem.W.Fast.te14364793385576792824, PySem.W.Fast.te4187177175401517315]
  kernel_rfl
theorem said : OpenLaw.wellSaid PySem.Challenge.rw_pb0177_01 = true := by
  rw [PySem.W.Fast.te9446332074065402090]
  kernel_rfl
theorem top {d : DefRec} (hdef : PySem.W.defOf vw lawRow.name = some (d, [])) (hp : lawRow.prog.theDef lawRow.name = some (d.params, d.body, d.scope)) (hk : kwWritten? d.params.kwonlyargs d.params.kw_defaults = some [])
    (call : WalkO vw [Str.ofString "ShapeError"] (XL vw []) (Hook.says hook) lawRow.toRowW d [] fun f vs => PySem.call f vs) : PySem.Challenge.rw_pb0177_01.Holds := by
  refine holds_law said fun _ => ?_
  refine holds_open (q := vw) (loose := [Str.ofString "ShapeError"]) (Xt := fun s => xlAt vw [] s && recOk (RowW.records lawRow.toRowW) s) (XP := XL vw []) (Yf := Hook.obs hook) (Ya := Hook.val hook) (YP := Hook.says hook) (N := 4544) left (Hook.of hook) (Hook.keeps hook) (fun s e => xl_of s (Bool.and_eq_true_iff.mp e).1) XL.keeps hdef hp hk (fun s e => recFacts_of (Bool.and_eq_true_iff.mp e).2) (by rfl) (by first | assumption | decide +kernel) (by decide +kernel) ⟨rfl, rfl, rfl, rfl, rfl, by decide +kernel⟩ ?hw call
  case hw => w_witness2
theorem topD : ∃ d : DefRec, PySem.W.defOf vw lawRow.name = some (d, []) ∧ lawRow.prog.theDef lawRow.name = some (d.params, d.body, d.scope) ∧ kwWritten? d.params.kwonlyargs d.params.kw_defaults = some [] := ⟨_, by rfl, by rfl, by rfl⟩
abbrev prog : Program := PySem.Challenge.pw_pb0177_01
def Tag (_ : OpenLaw) (P : Prop) : Prop := P
theorem fill_all : Tag PySem.Challenge.rw_pb0177_01 (K = K) := by
  k_fill
  exact rfl
section
def at_ (ks : List Int) (p : Int) : Int := ks.getD p.toNat 0
def be2 (ks : List Int) (p : Int) : Int := at_ ks p * 256 + at_ ks (p + 1)
def be4 (ks : List Int) (p : Int) : Int := be2 ks p * 65536 + be2 ks (p + 2)
theorem clipAt_mid {n : Nat} {p : Int} (h0 : 0 ≤ p) (h1 : p ≤ n) : clipAt n p = p.toNat := by
  unfold clipAt
  split <;> omega
theorem take_two : ∀ {ks : List Int} {i : Nat}, i + 2 ≤ ks.length → (ks.drop i).take 2 = [ks.getD i 0, ks.getD (i + 1) 0]
  | _ :: _ :: _, 0, _ => rfl
  | [], _, h => absurd h (by simp)
  | [_], 0, h => absurd h (by simp)
  | _ :: r, i + 1, h => by
    have := take_two (ks := r) (i := i) (by simp only [List.length_cons] at h; omega)
    simpa using this
theorem take_four : ∀ {ks : List Int} {i : Nat}, i + 4 ≤ ks.length → (ks.drop i).take 4 = [ks.getD i 0, ks.getD (i + 1) 0, ks.getD (i + 2) 0, ks.getD (i + 3) 0]
  | _ :: _ :: _ :: _ :: _, 0, _ => rfl
  | [], _, h => absurd h (by simp)
  | [_], 0, h => absurd h (by simp)
  | [_, _], 0, h => absurd h (by simp)
  | [_, _, _], 0, h => absurd h (by simp)
  | _ :: r, i + 1, h => by
    have := take_four (ks := r) (i := i) (by simp only [List.length_cons] at h; omega)
    simpa using this
theorem cut2 (ks : List Int) (p : Int) (h0 : 0 ≤ p) (h1 : p + 2 ≤ ks.length) :
    (ks.drop (clipAt ks.length p)).take (clipAt ks.length (p + 2) - clipAt ks.length p) = [at_ ks p, at_ ks (p + 1)] := by
  rw [clipAt_mid h0 (by omega), clipAt_mid (by omega) h1, show (p + 2).toNat - p.toNat = 2 by omega, take_two (by omega)]
  unfold at_
  rw [show (p + 1).toNat = p.toNat + 1 by omega]
theorem cut4 (ks : List Int) (p : Int) (h0 : 0 ≤ p) (h1 : p + 4 ≤ ks.length) :
    (ks.drop (clipAt ks.length p)).take (clipAt ks.length (p + 4) - clipAt ks.length p) = [at_ ks p, at_ ks (p + 1), at_ ks (p + 2), at_ ks (p + 3)] := by
  rw [clipAt_mid h0 (by omega), clipAt_mid (by omega) h1, show (p + 4).toNat - p.toNat = 4 by omega, take_four (by omega)]
  unfold at_
  rw [show (p + 1).toNat = p.toNat + 1 by omega, show (p + 2).toNat = p.toNat + 2 by omega, show (p + 3).toNat = p.toNat + 3 by omega]
theorem unr_end_var {h₀ : Heap} {L I : Addr} {it : Obj} {rest : (Str → Option Value) → List (Addr × Obj) → Prop} {s₁ : Shared} {h' : Heap} {tk : Nat} {m' : Str → Option Value} {news : List (Addr × Obj)} (F : Fr h₀ L h' m')
    (N : News h₀ L h' ((I, it) :: news)) (l : ∀ p ∈ news, p.1 < I) (r : rest m' news) : UnrEnd h₀ L s₁ I it rest { s₁ with heap := h', toks := tk } :=
  ⟨h', tk, m', news, rfl, F, N, fun p hp e => absurd (l p hp) (by rw [e]; exact Nat.lt_irrefl _), r⟩
theorem and_low {X c : Nat} (hc : c < 256) : (X * 256) &&& c = 0 := by
  refine Nat.eq_of_testBit_eq fun i => ?_
  rw [Nat.testBit_and, show (256 : Nat) = 2 ^ 8 from rfl, Nat.testBit_mul_two_pow, Nat.zero_testBit]
  by_cases h : 8 ≤ i
  · rw [Nat.testBit_lt_two_pow (Nat.lt_of_lt_of_le hc (Nat.pow_le_pow_right (n := 2) (by decide) h) : c < 2 ^ i), Bool.and_false]
  · rw [decide_eq_false h, Bool.false_and, Bool.false_and]
theorem or_byte {x c : Int} (hx : 0 ≤ x) (h0 : 0 ≤ c) (h1 : c < 256) : Builtin.bitOr (x * 256) c = x * 256 + c := by
  rw [bitOr_and]
  have e : Builtin.bitAnd (x * 256) c = 0 := by
    unfold Builtin.bitAnd
    rw [decide_eq_true (show 0 ≤ x * 256 by omega), decide_eq_true h0]
    show (((x * 256).toNat &&& c.toNat : Nat) : Int) = 0
    obtain ⟨X, rfl⟩ := Int.eq_ofNat_of_zero_le hx
    rw [show ((X : Int) * 256).toNat = X * 256 by omega, and_low (by omega)]
    rfl
  omega
section
variable {prog : Program} {w : World} {A : Around} {E Q : Value → Shared → Prop} {s : Shared} {x c n : Int} {t u : Tok}
theorem shl8 (h0 : 0 ≤ x) (h1 : x < 16777216) (h : Q (.int (x * 256) s.toks) { s with toks := s.toks + 1 }) : wpAny (model prog w) A (binaryOp .LShift (.int x t) (.int 8 u)) Q E s :=
  lshift_int_small (n := 8) (by decide) (by decide) (by omega) h
theorem orb (hx : 0 ≤ x) (h0 : 0 ≤ c) (h1 : c < 256) (h : Q (.int (x * 256 + c) s.toks) { s with toks := s.toks + 1 }) : wpAny (model prog w) A (binaryOp .BitOr (.int (x * 256) t) (.int c u)) Q E s :=
  or_int (by rw [or_byte hx h0 h1]; exact h)
end
theorem cast_q {Q : Value → Shared → Prop} {s : Shared} {x y : Int} {t : Tok} (h : Q (.int x t) s) (e : x = y) : Q (.int y t) s := e ▸ h
theorem updF_open {c : Addr} {o : Obj} {h₀ h : Heap} {L : Addr} {news : List (Addr × Obj)} {g : Obj → List (Addr × Obj)} (U : UpdF c o news g) (N : News h₀ L h news) :
    ∃ rest, News h₀ L h ((c, o) :: rest) ∧ (∀ p ∈ rest, p.1 ≠ c) ∧ (∀ p ∈ news, p.1 ≠ c → p ∈ rest) ∧ (∀ p ∈ rest, p ∈ news) ∧ ∀ h' o', News h₀ L h' ((c, o') :: rest) → News h₀ L h' (g o') := by
  obtain ⟨pre, post, rfl, hg, h1, h2⟩ := U.split
  refine ⟨pre ++ post, fun p hp => N p ?_, fun p hp => ?_, fun p hp hc => ?_, fun p hp => ?_, fun h' o' N' => ?_⟩
  · rcases List.mem_cons.mp hp with rfl | hp
    · exact List.mem_append_right _ (.head _)
    · rcases List.mem_append.mp hp with hp | hp
      · exact List.mem_append_left _ hp
      · exact List.mem_append_right _ (.tail _ hp)
  · rcases List.mem_append.mp hp with hp | hp
    · exact h1 p hp
    · exact h2 p hp
  · rcases List.mem_append.mp hp with hp | hp
    · exact List.mem_append_left _ hp
    · rcases List.mem_cons.mp hp with rfl | hp
      · exact absurd rfl hc
      · exact List.mem_append_right _ hp
  · rcases List.mem_append.mp hp with hp | hp
    · exact List.mem_append_left _ hp
    · exact List.mem_append_right _ (.tail _ hp)
  · rw [hg]
    intro p hp
    rcases List.mem_append.mp hp with hp | hp
    · exact N' p (.tail _ (List.mem_append_left _ hp))
    · rcases List.mem_cons.mp hp with rfl | hp
      · exact N' _ (.head _)
      · exact N' p (.tail _ (List.mem_append_right _ hp))
theorem news_add {h₀ h : Heap} {L : Addr} {a : Addr × Obj} {b : Addr × Obj} {rest : List (Addr × Obj)} (N : News h₀ L h (a :: rest)) (hb : b ∈ rest) : News h₀ L h (a :: b :: rest) := fun p hp => by
  rcases List.mem_cons.mp hp with rfl | hp
  · exact N _ (.head _)
  · rcases List.mem_cons.mp hp with rfl | hp
    · exact N _ (.tail _ hb)
    · exact N p (.tail _ hp)
theorem news_cut {h₀ h : Heap} {L : Addr} {a : Addr × Obj} {b : Addr × Obj} {rest : List (Addr × Obj)} (N : News h₀ L h (a :: b :: rest)) : News h₀ L h (a :: rest) := fun p hp => by
  rcases List.mem_cons.mp hp with rfl | hp
  · exact N _ (.head _)
  · exact N p (.tail _ (.tail _ hp))
section
variable {prog : Program} {w : World} {A : Around} {E Q : Value → Shared → Prop} {s : Shared} {x : Int} {t u : Tok}
theorem shr_hi (h0 : 32767 < x) (h1 : x < 65536) (h : Q (.int 1 s.toks) { s with toks := s.toks + 1 }) : wpAny (model prog w) A (binaryOp .RShift (.int x t) (.int 15 u)) Q E s :=
  rshift_int (n := 15) (by decide) (by
    have e : x.fdiv (2 ^ (15 : Int).toNat) = 1 := by
      rw [Int.fdiv_eq_ediv_of_nonneg _ (by decide)]
      show x / 32768 = 1
      omega
    rw [e]; exact h)
theorem shr_lo (h0 : 0 ≤ x) (h1 : ¬ 32767 < x) (h : Q (.int 0 s.toks) { s with toks := s.toks + 1 }) : wpAny (model prog w) A (binaryOp .RShift (.int x t) (.int 15 u)) Q E s :=
  rshift_int (n := 15) (by decide) (by
    have e : x.fdiv (2 ^ (15 : Int).toNat) = 0 := by
      rw [Int.fdiv_eq_ediv_of_nonneg _ (by decide)]
      show x / 32768 = 0
      omega
    rw [e]; exact h)
end
theorem allLtM {d : Addr} : ∀ {l : List (Addr × Obj)}, AllLt d l → ∀ p ∈ l, p.1 < d := fun h => ktn_ltOf h
theorem neAll {d : Addr} {l : List (Addr × Obj)} (h : AllLt d l) : ∀ p ∈ l, p.1 ≠ d := fun p hp => Nat.ne_of_lt (ktn_ltOf h p hp)
theorem neAll' {d : Addr} {l : List (Addr × Obj)} (h : ∀ p ∈ l, p.1 < d) : ∀ p ∈ l, p.1 ≠ d := fun p hp => Nat.ne_of_lt (h p hp)
theorem ltAll {c d : Addr} {l : List (Addr × Obj)} (h : ∀ p ∈ l, p.1 < c) (hc : c < d) : ∀ p ∈ l, p.1 < d := fun p hp => Nat.lt_trans (h p hp) hc
theorem news_sub {h₀ h : Heap} {L : Addr} {news news' : List (Addr × Obj)} (N : News h₀ L h news') (hs : ∀ p ∈ news, p ∈ news') : News h₀ L h news := fun p hp => N p (hs p hp)
theorem news4 {h₀ h : Heap} {L : Addr} {news news' : List (Addr × Obj)} {a b c : Addr × Obj} (N : News h₀ L h news') (h1 : a ∈ news') (h2 : b ∈ news') (h3 : c ∈ news') (hs : ∀ p ∈ news, p ∈ news') : News h₀ L h (a :: b :: c :: news) := fun p hp => by
  rcases List.mem_cons.mp hp with rfl | hp
  · exact N _ h1
  · rcases List.mem_cons.mp hp with rfl | hp
    · exact N _ h2
    · rcases List.mem_cons.mp hp with rfl | hp
      · exact N _ h3
      · exact N p (hs p hp)
theorem room0 {d b l : Nat} (h : d + b < l) : d < l := Nat.lt_of_le_of_lt (Nat.le_add_right d b) h
theorem room2 {d a b c l : Nat} (h : d + b < l) (e : Nat.ble (a + c) b = true) : d + a + c < l := by
  have := Nat.le_of_ble_eq_true e
  omega
end
local macro_rules | `(tactic| walk_at "hk") => `(tactic| first | exact rfl | assumption)
local macro_rules | `(tactic| walk_at "hr") => `(tactic| first | exact room2 (by assumption) rfl | omega | (dsimp only [ktrTop]; omega))
local macro_rules | `(tactic| walk_at "kend") => `(tactic| ((try k_sweep); (try dsimp only); (try k_fold)))

section
section
variable {w : World} {loose : List Str} {mean : ExcName → Option Value} {mg mb : Str → Option Value}
    {dp un : Nat} {gd : Option (List Code)} {cn : Str} {cs : Scope} {a : Addr} {ccd : Value} {cl : List (Str × Addr)} {outer : List Env} {A₀ : Around} {base h₀ : Heap} {L : Addr} {m : Str → Option Value} {s : Shared} {Q E : Value → Shared → Prop}
    {news : List (Addr × Obj)}
theorem room_ok {d : Array UInt8} {ks : List Int} {td ta tn : Tok} {p n : Int} (B : Below A₀ base outer h₀) (F : Fr h₀ L s.heap m) (X : (K w.params).In h₀) (N : News h₀ L s.heap news) (T : Top vw loose mean mg mb h₀) (hkd : cs.kind = .function) (hdp : dp + 1 < recursionLimit) (hun : un + 8 < cLine)
    (hks : KBw.bInts d = ks) (h0 : 0 ≤ p) (h1 : p + n ≤ ks.length) (hs : ks.length ≤ 1000)
    (ret : ∀ h' tk', Fr h₀ L h' m → News h₀ L h' news → Q .none { s with heap := h', toks := tk' }) :
    wpAny (model prog w) (ktrTop dp un gd cn cs L a ccd cl outer) (call (.ref 82) [.bytes d td, .int p ta, .int n tn]) Q E s := by
  (refine wpAny_call ?_; k_dflt cell_enter)
  k_steps
  exact ret _ _ (by assumption) (by assumption)
end
end
local macro_rules | `(tactic| walk_at "call ref") => `(tactic| (k_here; (with_reducible show wpAny _ _ (call (Value.ref 82) _) _ _ _); k_dflt (refine' room_ok (by k_asm) (by k_asm) (by k_asm) (by k_asm) (by k_asm) (by walk_at "hk") (by walk_at "hr") (by walk_at "hr") (by kba_ints) (by omega) (by omega) (by omega) ?_; k_whole); intro h' tk' F' N'; walk_at "kend"))

section
section
local macro_rules | `(tactic| walk_at "exec For Name Subscript cons nil") => `(tactic| (k_here; (rename Fr _ _ _ _ => lF'); (with_unfolding_all refine' For_invVF lF' ?k1 ?k2 ?_; (case k1 => exact rfl); (case k2 => exact rfl); k_whole)))
local macro_rules | `(tactic| walk_at "UnrEnd") => `(tactic| (k_dflt (refine' unr_end_var ?a ?b ?c ?_; (case a => assumption); (case b => assumption); (case c => assumption))))
local macro_rules | `(tactic| walk_at "binaryOp LShift int int") => `(tactic| (k_here; with_reducible refine shl8 ?_ ?_ ?_; iterate 2 (focus omega)))
local macro_rules | `(tactic| walk_at "binaryOp BitOr int int") => `(tactic| (k_here; with_reducible refine orb ?_ ?_ ?_ ?_; iterate 3 (focus omega)))
local macro_rules | `(tactic| walk_at "pyIter bytes") => `(tactic| (k_here; (with_reducible rename KBw.bInts (KBy.picked _ (some _) (some (_ + 2))) = _ => kbcZ); (replace kbcZ := kbcZ.trans (cut2 _ _ (by omega) (by omega))); k_bytesUnr))
local macro_rules | `(tactic| walk_at "pyIter bytes") => `(tactic| (k_here; (with_reducible rename KBw.bInts (KBy.picked _ (some _) (some (_ + 4))) = _ => kbcZ); (replace kbcZ := kbcZ.trans (cut4 _ _ (by omega) (by omega))); k_bytesUnr))
variable {w : World} {loose : List Str} {mean : ExcName → Option Value} {mg mb : Str → Option Value}
    {dp un : Nat} {gd : Option (List Code)} {cn : Str} {cs : Scope} {a : Addr} {ccd : Value} {cl : List (Str × Addr)} {outer : List Env} {A₀ : Around} {base h₀ : Heap} {L : Addr} {m : Str → Option Value} {s : Shared} {Q E : Value → Shared → Prop}
    {news : List (Addr × Obj)}
theorem num2_ok {d : Array UInt8} {ks : List Int} {td ta tn : Tok} {p : Int} (B : Below A₀ base outer h₀) (F : Fr h₀ L s.heap m) (X : (K w.params).In h₀) (N : News h₀ L s.heap news) (T : Top vw loose mean mg mb h₀) (hkd : cs.kind = .function) (hdp : dp + 2 < recursionLimit) (hun : un + 12 < cLine)
    (hks : KBw.bInts d = ks) (h0 : 0 ≤ p) (h1 : p + 2 ≤ ks.length) (hs : ks.length ≤ 1000)
    (ret : ∀ t h' tk', 0 ≤ be2 ks p → be2 ks p < 65536 → Fr h₀ L h' m → News h₀ L h' news → Q (.int (be2 ks p) t) { s with heap := h', toks := tk' }) :
    wpAny (model prog w) (ktrTop dp un gd cn cs L a ccd cl outer) (call (.ref 89) [.bytes d td, .int p ta, .int 2 tn]) Q E s := by
  (refine wpAny_call ?_; k_dflt cell_enter)
  k_steps
  exact cast_q (ret _ _ _ (by unfold be2; omega) (by unfold be2; omega) (by assumption) (by assumption)) (by unfold be2; omega)
theorem num4_ok {d : Array UInt8} {ks : List Int} {td ta tn : Tok} {p : Int} (B : Below A₀ base outer h₀) (F : Fr h₀ L s.heap m) (X : (K w.params).In h₀) (N : News h₀ L s.heap news) (T : Top vw loose mean mg mb h₀) (hkd : cs.kind = .function) (hdp : dp + 2 < recursionLimit) (hun : un + 12 < cLine)
    (hks : KBw.bInts d = ks) (h0 : 0 ≤ p) (h1 : p + 4 ≤ ks.length) (hs : ks.length ≤ 1000)
    (ret : ∀ t h' tk', Fr h₀ L h' m → News h₀ L h' news → Q (.int (be4 ks p) t) { s with heap := h', toks := tk' }) :
    wpAny (model prog w) (ktrTop dp un gd cn cs L a ccd cl outer) (call (.ref 89) [.bytes d td, .int p ta, .int 4 tn]) Q E s := by
  (refine wpAny_call ?_; k_dflt cell_enter)
  k_steps
  exact cast_q (ret _ _ _ (by assumption) (by assumption)) (by unfold be4 be2; rw [show p + 2 + 1 = p + 3 by omega]; omega)
end
end
local macro_rules | `(tactic| walk_at "call ref") => `(tactic| first | (k_here; (with_reducible show wpAny _ _ (call (Value.ref 89) _) _ _ _); k_dflt (refine' num4_ok (by k_asm) (by k_asm) (by k_asm) (by k_asm) (by k_asm) (by walk_at "hk") (by walk_at "hr") (by walk_at "hr") (by kba_ints) (by omega) (by omega) (by omega) ?_; k_whole); intro t' h' tk' F' N'; walk_at "kend") | (k_here; (with_reducible show wpAny _ _ (call (Value.ref 89) _) _ _ _); k_dflt (refine' num2_ok (by k_asm) (by k_asm) (by k_asm) (by k_asm) (by k_asm) (by walk_at "hk") (by walk_at "hr") (by walk_at "hr") (by kba_ints) (by omega) (by omega) (by omega) ?_; k_whole); intro t' h' tk' hlo' hhi' F' N'; walk_at "kend"))
section
abbrev rd (P : Params) (d : Array UInt8) (td : Tok) (p : Int) (tp k1 k2 : Tok) : Obj :=
  dictOf [⟨PyData.keyHash P (Str.ofString "data"), .str (Str.ofString "data") k1, .bytes d td⟩, ⟨PyData.keyHash P (Str.ofString "at"), .str (Str.ofString "at") k2, .int p tp⟩] 2
local macro_rules | `(tactic| k_all) => `(tactic| assumption)
section
variable {w : World} {loose : List Str} {mean : ExcName → Option Value} {mg mb : Str → Option Value}
    {dp un : Nat} {gd : Option (List Code)} {cn : Str} {cs : Scope} {a : Addr} {ccd : Value} {cl : List (Str × Addr)} {outer : List Env} {A₀ : Around} {base h₀ : Heap} {L : Addr} {m : Str → Option Value} {s : Shared} {Q E : Value → Shared → Prop}
    {news : List (Addr × Obj)}
theorem rdr_new {d : Array UInt8} {td : Tok} (B : Below A₀ base outer h₀) (F : Fr h₀ L s.heap m) (X : (K w.params).In h₀) (N : News h₀ L s.heap news) (T : Top vw loose mean mg mb h₀) (hkd : cs.kind = .function) (hdp : dp + 4 < recursionLimit) (hun : un + 30 < cLine)
    (ret : ∀ x dx k1 k2 tp h' tk', Fr h₀ L h' m → News h₀ L h' ((x, instObj 182 dx) :: (dx, rd w.params d td 0 tp k1 k2) :: news) → (∀ q ∈ news, q.1 < dx) → dx < x → Q (.ref x) { s with heap := h', toks := tk' }) :
    wpAny (model prog w) (ktrTop dp un gd cn cs L a ccd cl outer) (call (.ref 182) [.bytes d td]) Q E s := by
  (k_dflt (refine' call_cls ?k1 ?k2 ?k3 ?k4 ?k5 ?k6 ?_; (case k1 => k_asm); (case k2 => k_asm); (case k3 => k_asm); (case k4 => k_is); (case k5 => k_is); (case k6 => k_is); k_whole; intro x' d' h' F' N' l1 l2; (try k_lt2 l2); (try k_sweep)); k_dflt (refine' code_def ?k1 ?k2 ?k3 ?k4 ?k5 ?kA ?kF ?kK ?k6 ?k7 ?k8 ?k9 ?kB ?_ ?c2 ?c3 ?c4 ?c5; (case kA => exact rfl); (case kF => exact rfl); (case kK => first | exact rfl | assumption); (case k1 => k_asm); (case k2 => k_asm); (case k3 => k_asm); (case k4 => k_asm); (case k5 => k_asm); (case k6 => k_is); (case k7 => k_is); (case k8 => first | exact room0 (by assumption) | omega | (dsimp only [ktrTop]; omega) | (show dp + 1 < recursionLimit; omega)); (case k9 => first | exact BindsTo.of_eq rfl | exact binds_K (by k_in) rfl (by k_is) rfl rfl rfl | fail "enter: no rule for these arguments"); (case c5 => decide); (case kB => exact locs rfl); (case c2 => exact rfl); (case c3 => exact rfl); (case c4 => exact rfl); k_whole; intro g' L' h' FG' F' N' B' X' T'; (try dsimp only); (try k_lift B'); (try k_fold)))
  k_steps
  exact ret _ _ _ _ _ _ _ (by assumption) (by assumption) l1 l2
theorem rdr_at {d : Array UInt8} {td : Tok} {p : Int} {tp : Tok} (B : Below A₀ base outer h₀) (F : Fr h₀ L s.heap m) (X : (K w.params).In h₀) (N : News h₀ L s.heap news) (T : Top vw loose mean mg mb h₀) (hkd : cs.kind = .function) (hdp : dp + 4 < recursionLimit) (hun : un + 30 < cLine)
    (ret : ∀ x dx k1 k2 tp h' tk', Fr h₀ L h' m → News h₀ L h' ((x, instObj 182 dx) :: (dx, rd w.params d td p tp k1 k2) :: news) → (∀ q ∈ news, q.1 < dx) → dx < x → Q (.ref x) { s with heap := h', toks := tk' }) :
    wpAny (model prog w) (ktrTop dp un gd cn cs L a ccd cl outer) (call (.ref 182) [.bytes d td, .int p tp]) Q E s := by
  (k_dflt (refine' call_cls ?k1 ?k2 ?k3 ?k4 ?k5 ?k6 ?_; (case k1 => k_asm); (case k2 => k_asm); (case k3 => k_asm); (case k4 => k_is); (case k5 => k_is); (case k6 => k_is); k_whole; intro x' d' h' F' N' l1 l2; (try k_lt2 l2); (try k_sweep)); k_dflt (refine' code_def ?k1 ?k2 ?k3 ?k4 ?k5 ?kA ?kF ?kK ?k6 ?k7 ?k8 ?k9 ?kB ?_ ?c2 ?c3 ?c4 ?c5; (case kA => exact rfl); (case kF => exact rfl); (case kK => first | exact rfl | assumption); (case k1 => k_asm); (case k2 => k_asm); (case k3 => k_asm); (case k4 => k_asm); (case k5 => k_asm); (case k6 => k_is); (case k7 => k_is); (case k8 => first | exact room0 (by assumption) | omega | (dsimp only [ktrTop]; omega) | (show dp + 1 < recursionLimit; omega)); (case k9 => first | exact BindsTo.of_eq rfl | exact binds_K (by k_in) rfl (by k_is) rfl rfl rfl | fail "enter: no rule for these arguments"); (case c5 => decide); (case kB => exact locs rfl); (case c2 => exact rfl); (case c3 => exact rfl); (case c4 => exact rfl); k_whole; intro g' L' h' FG' F' N' B' X' T'; (try dsimp only); (try k_lift B'); (try k_fold)))
  k_steps
  exact ret _ _ _ _ _ _ _ (by assumption) (by assumption) l1 l2
theorem need_ok {d : Array UInt8} {ks : List Int} {x dx : Addr} {td tp k1 k2 tn : Tok} {p n : Int} (B : Below A₀ base outer h₀) (F : Fr h₀ L s.heap m) (X : (K w.params).In h₀) (N : News h₀ L s.heap news) (T : Top vw loose mean mg mb h₀) (hkd : cs.kind = .function) (hdp : dp + 2 < recursionLimit) (hun : un + 12 < cLine)
    (hx : (x, instObj 182 dx) ∈ news) (hdx : (dx, rd w.params d td p tp k1 k2) ∈ news) (hks : KBw.bInts d = ks) (h0 : 0 ≤ p) (h1 : p + n ≤ ks.length) (hs : ks.length ≤ 1000)
    (ret : ∀ h' tk', Fr h₀ L h' m → News h₀ L h' news → Q .none { s with heap := h', toks := tk' }) :
    wpAny (model prog w) (ktrTop dp un gd cn cs L a ccd cl outer) (call (.ref 118) [.ref x, .int n tn]) Q E s := by
  (refine wpAny_call ?_; k_dflt cell_enter)
  k_steps
  exact ret _ _ (by assumption) (by assumption)
theorem number2_ok {d : Array UInt8} {ks : List Int} {x dx : Addr} {td tp k1 k2 tn : Tok} {p : Int} {g : Obj → List (Addr × Obj)} (B : Below A₀ base outer h₀) (F : Fr h₀ L s.heap m) (X : (K w.params).In h₀) (N : News h₀ L s.heap news) (T : Top vw loose mean mg mb h₀) (hkd : cs.kind = .function) (hdp : dp + 3 < recursionLimit) (hun : un + 16 < cLine)
    (hx : (x, instObj 182 dx) ∈ news) (U : UpdF dx (rd w.params d td p tp k1 k2) news g) (hne : x ≠ dx) (hks : KBw.bInts d = ks) (h0 : 0 ≤ p) (h1 : p + 2 ≤ ks.length) (hs : ks.length ≤ 1000)
    (ret : ∀ t tp' h' tk', 0 ≤ be2 ks p → be2 ks p < 65536 → Fr h₀ L h' m → News h₀ L h' (g (rd w.params d td (p + 2) tp' k1 k2)) → Q (.int (be2 ks p) t) { s with heap := h', toks := tk' }) :
    wpAny (model prog w) (ktrTop dp un gd cn cs L a ccd cl outer) (call (.ref 125) [.ref x, .int 2 tn]) Q E s := by
  obtain ⟨rest, N, hr, hsub, -, hg⟩ := updF_open U N
  replace N := news_add N (hsub _ hx hne)
  clear hsub hx U
  (refine wpAny_call ?_; k_dflt cell_enter)
  k_steps
  exact ret _ _ _ _ (by assumption) (by assumption) (by assumption) (hg _ _ (news_cut (by assumption)))
theorem number4_ok {d : Array UInt8} {ks : List Int} {x dx : Addr} {td tp k1 k2 tn : Tok} {p : Int} {g : Obj → List (Addr × Obj)} (B : Below A₀ base outer h₀) (F : Fr h₀ L s.heap m) (X : (K w.params).In h₀) (N : News h₀ L s.heap news) (T : Top vw loose mean mg mb h₀) (hkd : cs.kind = .function) (hdp : dp + 3 < recursionLimit) (hun : un + 16 < cLine)
    (hx : (x, instObj 182 dx) ∈ news) (U : UpdF dx (rd w.params d td p tp k1 k2) news g) (hne : x ≠ dx) (hks : KBw.bInts d = ks) (h0 : 0 ≤ p) (h1 : p + 4 ≤ ks.length) (hs : ks.length ≤ 1000)
    (ret : ∀ t tp' h' tk', Fr h₀ L h' m → News h₀ L h' (g (rd w.params d td (p + 4) tp' k1 k2)) → Q (.int (be4 ks p) t) { s with heap := h', toks := tk' }) :
    wpAny (model prog w) (ktrTop dp un gd cn cs L a ccd cl outer) (call (.ref 125) [.ref x, .int 4 tn]) Q E s := by
  obtain ⟨rest, N, hr, hsub, -, hg⟩ := updF_open U N
  replace N := news_add N (hsub _ hx hne)
  clear hsub hx U
  (refine wpAny_call ?_; k_dflt cell_enter)
  k_steps
  exact ret _ _ _ _ (by assumption) (hg _ _ (news_cut (by assumption)))
end
end
local macro_rules | `(tactic| walk_at "call ref") => `(tactic| first | (k_here; (with_reducible show wpAny _ _ (call (Value.ref 125) _) _ _ _); k_dflt (refine' number4_ok (by k_asm) (by k_asm) (by k_asm) (by k_asm) (by k_asm) (by walk_at "hk") (by walk_at "hr") (by walk_at "hr") (by k_mem) (by k_updF) (by k_ne) (by kba_ints) (by omega) (by omega) (by omega) ?_; k_whole); intro t' tp' h' tk' F' N'; walk_at "kend") | (k_here; (with_reducible show wpAny _ _ (call (Value.ref 125) _) _ _ _); k_dflt (refine' number2_ok (by k_asm) (by k_asm) (by k_asm) (by k_asm) (by k_asm) (by walk_at "hk") (by walk_at "hr") (by walk_at "hr") (by k_mem) (by k_updF) (by k_ne) (by kba_ints) (by omega) (by omega) (by omega) ?_; k_whole); intro t' tp' h' tk' hlo' hhi' F' N'; walk_at "kend") | (k_here; (with_reducible show wpAny _ _ (call (Value.ref 118) _) _ _ _); k_dflt (refine' need_ok (by k_asm) (by k_asm) (by k_asm) (by k_asm) (by k_asm) (by walk_at "hk") (by walk_at "hr") (by walk_at "hr") (by k_mem) (by k_mem) (by kba_ints) (by omega) (by first | omega | decide) (by omega) ?_; k_whole); intro h' tk' F' N'; walk_at "kend") | (k_here; (with_reducible show wpAny _ _ (call (Value.ref 182) _) _ _ _); k_dflt (refine' rdr_at (by k_asm) (by k_asm) (by k_asm) (by k_asm) (by k_asm) (by walk_at "hk") (by walk_at "hr") (by walk_at "hr") ?_; k_whole); intro x' d' k1' k2' tp' h' tk' F' N' l1' l2'; (try k_lt l1'); (try k_lt2 l2'); walk_at "kend") | (k_here; (with_reducible show wpAny _ _ (call (Value.ref 182) _) _ _ _); k_dflt (refine' rdr_new (by k_asm) (by k_asm) (by k_asm) (by k_asm) (by k_asm) (by walk_at "hk") (by walk_at "hr") (by walk_at "hr") ?_; k_whole); intro x' d' k1' k2' tp' h' tk' F' N' l1' l2'; (try k_lt l1'); (try k_lt2 l2'); walk_at "kend"))
section
local macro_rules | `(tactic| k_all) => `(tactic| assumption)
def sg (n : Int) : Int := if 32767 < n then n - 65536 else n
local macro_rules | `(tactic| walk_at "binaryOp RShift int int") => `(tactic| (k_here; (k_dflt first | refine shr_hi (by omega) (by omega) ?_ | refine shr_lo (by omega) (by omega) ?_)))
section
variable {w : World} {loose : List Str} {mean : ExcName → Option Value} {mg mb : Str → Option Value}
    {dp un : Nat} {gd : Option (List Code)} {cn : Str} {cs : Scope} {a : Addr} {ccd : Value} {cl : List (Str × Addr)} {outer : List Env} {A₀ : Around} {base h₀ : Heap} {L : Addr} {m : Str → Option Value} {s : Shared} {Q E : Value → Shared → Prop}
    {news : List (Addr × Obj)}
theorem signed_ok {n : Int} {tn tb : Tok} (B : Below A₀ base outer h₀) (F : Fr h₀ L s.heap m) (X : (K w.params).In h₀) (N : News h₀ L s.heap news) (T : Top vw loose mean mg mb h₀) (hkd : cs.kind = .function) (hdp : dp + 1 < recursionLimit) (hun : un + 8 < cLine)
    (h0 : 0 ≤ n) (h1 : n < 65536)
    (ret : ∀ t h' tk', Fr h₀ L h' m → News h₀ L h' news → Q (.int (sg n) t) { s with heap := h', toks := tk' }) :
    wpAny (model prog w) (ktrTop dp un gd cn cs L a ccd cl outer) (call (.ref 96) [.int n tn, .int 16 tb]) Q E s := by
  by_cases hb : 32767 < n
  · (refine wpAny_call ?_; k_dflt cell_enter)
    k_steps
    exact cast_q (ret _ _ _ (by assumption) (by assumption)) (by unfold sg; rw [if_pos hb]; show n - 65536 = n - 1 * 65536; omega)
  · (refine wpAny_call ?_; k_dflt cell_enter)
    k_steps
    exact cast_q (ret _ _ _ (by assumption) (by assumption)) (by unfold sg; rw [if_neg hb])
local macro_rules | `(tactic| walk_at "call ref") => `(tactic| (k_here; (with_reducible show wpAny _ _ (call (Value.ref 96) _) _ _ _); k_dflt (refine' signed_ok (by k_asm) (by k_asm) (by k_asm) (by k_asm) (by k_asm) (by walk_at "hk") (by walk_at "hr") (by walk_at "hr") (by omega) (by omega) ?_; k_whole); intro t' h' tk' F' N'; walk_at "kend"))
theorem here_ok {d : Array UInt8} {x dx : Addr} {td tp k1 k2 tn : Tok} {p n : Int} (B : Below A₀ base outer h₀) (F : Fr h₀ L s.heap m) (X : (K w.params).In h₀) (N : News h₀ L s.heap news) (T : Top vw loose mean mg mb h₀) (hkd : cs.kind = .function) (hdp : dp + 5 < recursionLimit) (hun : un + 33 < cLine)
    (hx : (x, instObj 182 dx) ∈ news) (hdx : (dx, rd w.params d td p tp k1 k2) ∈ news)
    (ret : ∀ x dx k1 k2 tp h' tk', Fr h₀ L h' m → News h₀ L h' ((x, instObj 182 dx) :: (dx, rd w.params d td n tp k1 k2) :: news) → (∀ q ∈ news, q.1 < dx) → dx < x → Q (.ref x) { s with heap := h', toks := tk' }) :
    wpAny (model prog w) (ktrTop dp un gd cn cs L a ccd cl outer) (call (.ref 179) [.ref x, .int n tn]) Q E s := by
  (refine wpAny_call ?_; k_dflt cell_enter)
  k_steps
  exact ret _ _ _ _ _ _ _ (by assumption) (by assumption) (by first | assumption | exact allLtM (by assumption)) (by assumption)
theorem u16_ok {d : Array UInt8} {ks : List Int} {x dx : Addr} {td tp k1 k2 : Tok} {p : Int} {g : Obj → List (Addr × Obj)} (B : Below A₀ base outer h₀) (F : Fr h₀ L s.heap m) (X : (K w.params).In h₀) (N : News h₀ L s.heap news) (T : Top vw loose mean mg mb h₀) (hkd : cs.kind = .function) (hdp : dp + 4 < recursionLimit) (hun : un + 20 < cLine)
    (hx : (x, instObj 182 dx) ∈ news) (U : UpdF dx (rd w.params d td p tp k1 k2) news g) (hne : x ≠ dx) (hks : KBw.bInts d = ks) (h0 : 0 ≤ p) (h1 : p + 2 ≤ ks.length) (hs : ks.length ≤ 1000)
    (ret : ∀ t tp' h' tk', 0 ≤ be2 ks p → be2 ks p < 65536 → Fr h₀ L h' m → News h₀ L h' (g (rd w.params d td (p + 2) tp' k1 k2)) → Q (.int (be2 ks p) t) { s with heap := h', toks := tk' }) :
    wpAny (model prog w) (ktrTop dp un gd cn cs L a ccd cl outer) (call (.ref 139) [.ref x]) Q E s := by
  obtain ⟨rest, N, hr, hsub, -, hg⟩ := updF_open U N
  replace N := news_add N (hsub _ hx hne)
  clear hsub hx U
  (refine wpAny_call ?_; k_dflt cell_enter)
  k_steps
  exact ret _ _ _ _ (by assumption) (by assumption) (by assumption) (hg _ _ (news_cut (by assumption)))
theorem u32_ok {d : Array UInt8} {ks : List Int} {x dx : Addr} {td tp k1 k2 : Tok} {p : Int} {g : Obj → List (Addr × Obj)} (B : Below A₀ base outer h₀) (F : Fr h₀ L s.heap m) (X : (K w.params).In h₀) (N : News h₀ L s.heap news) (T : Top vw loose mean mg mb h₀) (hkd : cs.kind = .function) (hdp : dp + 4 < recursionLimit) (hun : un + 20 < cLine)
    (hx : (x, instObj 182 dx) ∈ news) (U : UpdF dx (rd w.params d td p tp k1 k2) news g) (hne : x ≠ dx) (hks : KBw.bInts d = ks) (h0 : 0 ≤ p) (h1 : p + 4 ≤ ks.length) (hs : ks.length ≤ 1000)
    (ret : ∀ t tp' h' tk', Fr h₀ L h' m → News h₀ L h' (g (rd w.params d td (p + 4) tp' k1 k2)) → Q (.int (be4 ks p) t) { s with heap := h', toks := tk' }) :
    wpAny (model prog w) (ktrTop dp un gd cn cs L a ccd cl outer) (call (.ref 160) [.ref x]) Q E s := by
  obtain ⟨rest, N, hr, hsub, -, hg⟩ := updF_open U N
  replace N := news_add N (hsub _ hx hne)
  clear hsub hx U
  (refine wpAny_call ?_; k_dflt cell_enter)
  k_steps
  exact ret _ _ _ _ (by assumption) (hg _ _ (news_cut (by assumption)))
theorem i16_ok {d : Array UInt8} {ks : List Int} {x dx : Addr} {td tp k1 k2 : Tok} {p : Int} {g : Obj → List (Addr × Obj)} (B : Below A₀ base outer h₀) (F : Fr h₀ L s.heap m) (X : (K w.params).In h₀) (N : News h₀ L s.heap news) (T : Top vw loose mean mg mb h₀) (hkd : cs.kind = .function) (hdp : dp + 4 < recursionLimit) (hun : un + 20 < cLine)
    (hx : (x, instObj 182 dx) ∈ news) (U : UpdF dx (rd w.params d td p tp k1 k2) news g) (hne : x ≠ dx) (hks : KBw.bInts d = ks) (h0 : 0 ≤ p) (h1 : p + 2 ≤ ks.length) (hs : ks.length ≤ 1000)
    (ret : ∀ t tp' h' tk', Fr h₀ L h' m → News h₀ L h' (g (rd w.params d td (p + 2) tp' k1 k2)) → Q (.int (sg (be2 ks p)) t) { s with heap := h', toks := tk' }) :
    wpAny (model prog w) (ktrTop dp un gd cn cs L a ccd cl outer) (call (.ref 146) [.ref x]) Q E s := by
  obtain ⟨rest, N, hr, hsub, -, hg⟩ := updF_open U N
  replace N := news_add N (hsub _ hx hne)
  clear hsub hx U
  (refine wpAny_call ?_; k_dflt cell_enter)
  k_steps
  exact ret _ _ _ _ (by assumption) (hg _ _ (news_cut (by assumption)))
end
end
local macro_rules | `(tactic| walk_at "call ref") => `(tactic| first | (k_here; (with_reducible show wpAny _ _ (call (Value.ref 146) _) _ _ _); k_dflt (refine' i16_ok (by k_asm) (by k_asm) (by k_asm) (by k_asm) (by k_asm) (by walk_at "hk") (by walk_at "hr") (by walk_at "hr") (by k_mem) (by k_updF) (by k_ne) (by kba_ints) (by omega) (by omega) (by omega) ?_; k_whole); intro t' tp' h' tk' F' N'; walk_at "kend") | (k_here; (with_reducible show wpAny _ _ (call (Value.ref 160) _) _ _ _); k_dflt (refine' u32_ok (by k_asm) (by k_asm) (by k_asm) (by k_asm) (by k_asm) (by walk_at "hk") (by walk_at "hr") (by walk_at "hr") (by k_mem) (by k_updF) (by k_ne) (by kba_ints) (by omega) (by omega) (by omega) ?_; k_whole); intro t' tp' h' tk' F' N'; walk_at "kend") | (k_here; (with_reducible show wpAny _ _ (call (Value.ref 139) _) _ _ _); k_dflt (refine' u16_ok (by k_asm) (by k_asm) (by k_asm) (by k_asm) (by k_asm) (by walk_at "hk") (by walk_at "hr") (by walk_at "hr") (by k_mem) (by k_updF) (by k_ne) (by kba_ints) (by omega) (by omega) (by omega) ?_; k_whole); intro t' tp' h' tk' hlo' hhi' F' N'; walk_at "kend") | (k_here; (with_reducible show wpAny _ _ (call (Value.ref 179) _) _ _ _); k_dflt (refine' here_ok (by k_asm) (by k_asm) (by k_asm) (by k_asm) (by k_asm) (by walk_at "hk") (by walk_at "hr") (by walk_at "hr") (by k_mem) (by k_mem) ?_; k_whole); intro x' d' k1' k2' tp' h' tk' F' N' l1' l2'; (try k_lt l1'); (try k_lt2 l2'); walk_at "kend"))
section
open PySem.Sem (wp)
section
variable {prog : Program} {w : World} {A : Around} {E : Value → Shared → Prop} {R : Result → Shared → Prop} {h : Heap} {g : Array GenState} {d : Drawn} {t : Nat} {os : OsState}
variable {nm q : Str} {C Nn : Addr} {bs bm : List Value} {hdct : Bool} {sn : List Str} {sub : List Value} {ab : Bool} {col : Option Bool} {dd : Option Addr} {k0 k1 k2 k3 k5 : Option Value}
abbrev exo (C t : Addr) : Obj := { cls := .ref C, data := .fields #[.ref t, .none, .none, .none, .bool false, .none] }
abbrev tupo (vs : List Value) : Obj := { cls := .type "tuple", data := .seq vs.toArray }
theorem exc_newcheck {M : Model} {rest : List Value} {Q : Unit → Shared → Prop} (hC : h.get? C = some (excClassObj nm q C Nn bs bm hdct sn sub ab col dd k0 k1 k2 k3 k5 "Exception.__new__"))
    (hE : (Value.ref C :: bm).contains (.type "Exception") = true) (hq : Q () ⟨h, g, d, t, os⟩) : wpAny M A (checkBuiltinCall "Exception.__new__" ⟨.ref C :: rest, []⟩) Q E ⟨h, g, d, t, os⟩ := by
  have Fn := PySem.F.excBase_Exception
  have hstar := Fn.noStar
  simp only [checkBuiltinCall, Fn.newKind, Fn.newSplit, Fn.newRow]
  repeat (first | refine wpAny_loadPart_at hC ?_ | (refine wpAny_isSubtype_exc hC ?_; rw [hE]) | refine wpAny_staticBase_exc hC ?_ | refine wpAny_madeBy_exc hC ?_ | simp only [bne_self_eq_false, Bool.false_eq_true, if_false] | wp_step)
  exact hq
theorem exc_new {rest : List Value} (hC : h.get? C = some (excClassObj nm q C Nn bs bm hdct sn sub ab col dd k0 k1 k2 k3 k5 "Exception.__new__"))
    (hE : (Value.ref C :: bm).contains (.type "Exception") = true) (hA : (Value.ref C :: bm).contains (.type "AttributeError") = false) (hN : (Value.ref C :: bm).contains (.type "NameError") = false)
    (hq : R (.ok (.ret (.ref (h.objs.size + 1)))) ⟨(h.push (tupo rest)).push (exo C h.objs.size), g, d, t, os⟩) (hrest : rest.length ≤ sizeLine) :
    codeAny (model prog w) A (.builtin "Exception.__new__" ⟨.ref C :: rest, []⟩) R ⟨h, g, d, t, os⟩ := by
  have Fn := PySem.F.excBase_Exception
  have hends := Fn.ends
  refine codeAny_builtinAt Fn.entry ?_
  unfold Builtin.«BaseException.__new__»
  refine _root_.PySem.wpAt_bind ?_
  show _root_.PySem.wpAt _ _ _ (stack >>= _) _ _ _
  refine _root_.PySem.wpAt_bind (_root_.PySem.wpAt_stack fun p below => _root_.PySem.wpAt_of_wpAny ?_)
  wp_walk
  refine _root_.PySem.wpAt_of_wpAny ?_
  rw [Fn.owner]
  repeat (first | with_reducible refine wpAny_madeHere_exc Fn.canon hC ?_ | with_reducible refine wpAny_loadPart_at hC ?_ | (with_reducible refine wpAny_isSubtype_exc hC ?_; first | rw [hE] | rw [hA] | rw [hN]) | wp_step)
  show R _ _
  rw [Heap.size_push]
  exact hq
theorem exc_call {K : Frag} {rest : List Value} {fI : Addr} (X : K.In h) (hC : h.get? C = some (excClassObj nm q C Nn bs bm hdct sn sub ab col dd k0 k1 k2 k3 k5 "Exception.__new__"))
    (hE : (Value.ref C :: bm).contains (.type "Exception") = true) (hA : (Value.ref C :: bm).contains (.type "AttributeError") = false) (hN : (Value.ref C :: bm).contains (.type "NameError") = false)
    (hcl : specialIn K (.ref C) "__call__" = some (some (.builtin "type.__call__"))) (hty : instIn K (.ref C) (.type "type") = some true)
    (hi : findIn K (.ref C) "__init__" = some (some (.ref fI))) (hf : typeIn K (.ref fI) = some (.type "function")) (hrest : rest.length ≤ sizeLine)
    (hq : codeAny (model prog w) (A.under (.builtin "type.__call__" ⟨.ref C :: rest, []⟩)) (.call (.ref fI) ⟨.ref (h.objs.size + 1) :: rest, []⟩) (InitBack (h.objs.size + 1) R) ⟨(h.push (tupo rest)).push (exo C h.objs.size), g, d, t, os⟩) :
    codeAny (model prog w) A (.call (.ref C) ⟨rest, []⟩) R ⟨h, g, d, t, os⟩ := by
  have call := looks_specialIn (M := model prog w) X hcl
  have typ := looks_instIn (M := model prog w) X hty
  refine codeAny_of_tree ?_
  show wpAny _ _ (callAny (.ref C) _) _ _ _
  refine nd_load hC ?_
  show wpAny _ _ (callAny.viaDunder (.ref C) _) _ _ _
  unfold callAny.viaDunder
  refine wpAny_bind (call.at ?_)
  dsimp only
  rw [tc_bind]
  refine wpAny_bind (wpAny_pure (wpAny_bind (wpAny_pure ?_)))
  refine wpAny_pure (a := Fin.again (.call (.builtin "type.__call__") ⟨.ref C :: rest, []⟩)) (And.intro rfl ?_)
  refine codeAny_call_builtin_at (Code.quiet_builtin _ (by decide +kernel)) entry_typeCall (check_slot tc_kind tc_split typ (tc_args _ _ _) ?_)
  unfold Builtin.«type.__call__»
  repeat (first | with_reducible refine wpAny_loadPart_at hC ?_ | with_reducible refine wpAny_madeBy_exc hC ?_ | wp_step)
  refine codeAny_call_builtin_code (Code.quiet_builtin _ PySem.F.excBase_Exception.quiet) (exc_newcheck hC hE ?_)
  refine exc_new hC hE hA hN ?_ hrest
  show wpAny _ _ _ _ _ _
  have k : ∀ b o, h.get? b = some o → ((h.push (tupo rest)).push (exo C h.objs.size)).get? b = some o := fun b o e => Heap.get?_push_of_some _ (Heap.get?_push_of_some _ e)
  have hx : ((h.push (tupo rest)).push (exo C h.objs.size)).get? (h.objs.size + 1) = some (exo C h.objs.size) := by heap_get
  have t1 : Looks (model prog w) ((h.push (tupo rest)).push (exo C h.objs.size)) (typeOf (.ref (h.objs.size + 1))) (.ref C) := (Looks.ld hx).andThen .now
  have hC₁ := k _ _ hC
  have i1 := (looks_findIn (M := model prog w) X hi).keeps k
  have b1 := (bind_fn (M := model prog w) X (.ref (h.objs.size + 1)) hf).keeps k
  have hcC : (Value.ref C :: bm).contains (.ref C) = true := by simp
  unfold isInstance callSpecial? specialOf
  repeat (first | with_reducible refine wpAny_call ?_ | (with_reducible refine wpAny_isSubtype_exc hC₁ ?_; rw [hcC]) | lk)
  refine codeAny_mono hq fun r s' z => ?_
  rcases r with e | (v | _ | _ | _) <;> first | exact z | exact z.elim | skip
  obtain ⟨rfl, z⟩ := z
  exact wpAny_pure (wpAny_pure z)
end
end

section
abbrev mwo (i : String) (x : Addr) : Obj := { cls := .type "method-wrapper", data := .fields #[.builtin i, .ref x] }
theorem wd_slot : Slot "wrapper_descriptor" "__get__" "wrapper_descriptor.__get__" := .of (owner := "wrapper_descriptor") (n := "__get__") (by rw [typeLookup_type, builtinLookup_eq_fast]; kernel_rfl) (by decide +kernel) (by decide +kernel) (by decide +kernel) (by first | exact .inl (by decide +kernel) | exact .inr (by decide +kernel)) (by rw [isSubtype_type]; kernel_rfl)
theorem wd_entry : entryFor table "wrapper_descriptor.__get__" = some Builtin.«wrapper_descriptor.__get__» := entryFor_of_tree (by kernel_rfl)
theorem wd_args (a b c : Value) : argsOk "wrapper_descriptor.__get__" ⟨[a, b, c], []⟩ := by unfold argsOk; kernel_rfl
theorem ei_type : typeOf (.builtin "Exception.__init__") = pure (.type "wrapper_descriptor") := by show builtinType _ = _; rw [builtinType_eq_fast]; kernel_rfl
section
variable {prog : Program} {w : World} {A : Around} {E : Value → Shared → Prop} {h : Heap} {g : Array GenState} {d : Drawn} {t : Nat} {os : OsState}
theorem wd_get {x C : Addr} {Q : Fin → Shared → Prop} (t1 : Looks (model prog w) h (typeOf (.ref x)) (.ref C)) (sub : Looks (model prog w) h (isSubtype (.ref C) (.type "Exception")) true)
    (hq : Q (.done (.ret (.ref h.objs.size))) ⟨h.push (mwo "Exception.__init__" x), g, d, t, os⟩) :
    wpAny (model prog w) A (Builtin.«wrapper_descriptor.__get__» ⟨[.builtin "Exception.__init__", .ref x, .ref C], []⟩) Q E ⟨h, g, d, t, os⟩ := by
  have hown : (".".intercalate ("Exception.__init__".cutAt '.').dropLast) = "Exception" := by decide +kernel
  unfold Builtin.«wrapper_descriptor.__get__»
  have sub' : Looks (model prog w) h (isSubtype (.ref C) (.type (".".intercalate ("Exception.__init__".cutAt '.').dropLast))) true := by rw [hown]; exact sub
  repeat (first | ((with_reducible show wpAny _ _ (isSubtype _ _) _ _ _); k_dflt (refine Looks.at sub' ?_)) | lk)
  exact hq
theorem super_ga {so D x C : Addr} {l₀ l : List Value} {K : Frag} {tk : Tok} {Q : Fin → Shared → Prop}
    (hso : h.get? so = some { cls := .type "super", dict := none, data := .fields #[.ref D, .ref x, .ref C], slots := #[] }) (hno : Looks (model prog w) h (opaqueClassAbove (.ref C)) none)
    (hC : Looks (model prog w) h (mroOf (.ref C)) l₀) (hl : (l₀.dropWhile (· != .ref D)).drop 1 = l) (X : K.In h)
    (hf : alongIn K "__init__" l = some (some (.builtin "Exception.__init__"))) (hxC : x ≠ C)
    (t1 : Looks (model prog w) h (typeOf (.ref x)) (.ref C)) (sub : Looks (model prog w) h (isSubtype (.ref C) (.type "Exception")) true)
    (hq : Q (.done (.ret (.ref h.objs.size))) ⟨h.push (mwo "Exception.__init__" x), g, d, t, os⟩) :
    wpAny (model prog w) A (Builtin.«super.__getattribute__» ⟨[.ref so, .str "__init__" tk], []⟩) Q E ⟨h, g, d, t, os⟩ := by
  have hne : (Value.ref x == Value.ref C) = false := by simp [hxC]
  have hT : (⟨h, g, d, t, os⟩ : Shared).TypeIs (.builtin "Exception.__init__") "wrapper_descriptor" := ei_type
  have hlk := wd_slot.lookup
  have hn : ((Str.ofString "__init__") == ("__class__" : Str)) = false := by decide +kernel
  have hdt : ({ cls := .type "super", dict := none, data := .fields #[.ref D, .ref x, .ref C], slots := #[] } : Obj).data = .fields #[.ref D, .ref x, .ref C] := rfl
  have f0 : (#[.ref D, .ref x, .ref C] : Array Value)[0]? = some (.ref D) := rfl
  have f1 : (#[.ref D, .ref x, .ref C] : Array Value)[1]? = some (.ref x) := rfl
  have f2 : (#[.ref D, .ref x, .ref C] : Array Value)[2]? = some (.ref C) := rfl
  unfold Builtin.«super.__getattribute__»
  repeat (first
    | (with_reducible refine wpAny_field hso hdt f0 ?_) | (with_reducible refine wpAny_field hso hdt f1 ?_) | (with_reducible refine wpAny_field hso hdt f2 ?_)
    | (with_reducible refine ks_wpAny_notOpaque hno ?_)
    | (with_reducible refine Looks.at hC ?_; rw [hl])
    | (refine ks_forIn_along X (fun _ _ => rfl) rfl ?_ hf)
    | (with_reducible refine wpAny_typeOf hT ?_)
    | (with_reducible refine wpAny_call_entry wd_slot hT wd_entry ?_ (wd_args _ _ _))
    | (with_reducible refine wd_get t1 sub ?_)
    | (with_reducible refine ⟨_, rfl, ?_⟩)
    | (simp only [hn, hne, Bool.or_false, Bool.false_eq_true, if_false])
    | wp_step
    | dsimp only)
  all_goals exact hq
theorem super_method {so D x C : Addr} {l₀ l : List Value} {K : Frag} {pl : Sem Bool} {Q : Value × List Value → Shared → Prop}
    (hso : h.get? so = some { cls := .type "super", dict := none, data := .fields #[.ref D, .ref x, .ref C], slots := #[] }) (hno : Looks (model prog w) h (opaqueClassAbove (.ref C)) none)
    (hC : Looks (model prog w) h (mroOf (.ref C)) l₀) (hl : (l₀.dropWhile (· != .ref D)).drop 1 = l) (X : K.In h)
    (hf : alongIn K "__init__" l = some (some (.builtin "Exception.__init__"))) (hxC : x ≠ C)
    (t1 : Looks (model prog w) h (typeOf (.ref x)) (.ref C)) (sub : Looks (model prog w) h (isSubtype (.ref C) (.type "Exception")) true)
    (hq : Q (.ref h.objs.size, []) ⟨h.push (mwo "Exception.__init__" x), g, d, t + 1, os⟩) :
    wpAny (model prog w) A (getMethod (.ref so) "__init__" pl) Q E ⟨h, g, d, t, os⟩ := by
  have hlk := PySem.F.ks_slot_super_ga.lookup
  have hcan := PySem.F.ks_canon_super_ga
  have hT : ∀ t', (⟨h, g, d, t', os⟩ : Shared).TypeIs (.ref so) "super" := fun _ => ⟨_, hso, rfl⟩
  unfold getMethod
  refine wpAny_bind (wpAny_specialOf (hT _) hlk ?_)
  show wpAny _ _ (if (Manifest.canonical "super.__getattribute__" != "object.__getattribute__") = true then _ else _) _ _ _
  rw [if_pos hcan]
  unfold getAttr getAttrBy
  refine wpAny_bind (wpAny_bind (wpAny_mkText (wpAny_holding (wpAny_bind (wpAny_typeOf (hT _) (wpAny_bind (wpAny_of_eq hlk ?_)))))))
  show wpAny _ _ (getAttrByItsOwn (.ref so) (.str "__init__" t) (.type "super") (.builtin "super.__getattribute__") true false) _ _ _
  unfold getAttrByItsOwn hookBefore callGetattribute boundAndCalled
  refine wpAny_bind (wpAny_of_eq (show (if onTheHeap (.type "super") then typeLookup (.type "super") "__getattr__" else pure none) = pure none from rfl) ?_)
  refine wpAny_bind (wpAny_attempt (wpAny_holding ?_))
  show wpAny _ _ (bindSpecial (.builtin "super.__getattribute__") (.ref so) >>= _) _ _ _
  refine wpAny_bind (wpAny_of_eq (PySem.F.ks_slot_super_ga.bind _) ?_)
  refine wpAny_mono (Q := fun v s' => v = .ref h.objs.size ∧ s' = ⟨h.push (mwo "Exception.__init__" x), g, d, t + 1, os⟩) (E := fun _ _ => False)
    (wpAny_call_entry PySem.F.ks_slot_super_ga (hT _) PySem.F.ks_entry_super_ga (super_ga hso hno hC hl X hf hxC t1 sub ⟨_, rfl, rfl, rfl⟩) (PySem.F.ks_gaArgs_super _ _)) (fun v s' hv => ?_) fun _ _ z => z.elim
  obtain ⟨rfl, rfl⟩ := hv
  exact wpAny_pure (wpAny_pure hq)
end
section
variable {prog : Program} {w : World} {A : Around} {E : Value → Shared → Prop} {s : Shared} {h₀ : Heap} {L : Addr} {m : Str → Option Value} {news : List (Addr × Obj)} {K : Frag} {x C D so q : Addr} {ox : Obj} {odx : Option Obj}
theorem mw_push {o : Obj} (hfr : o.isFreed = false) (F : Fr h₀ L s.heap m) (N : News h₀ L s.heap news) : Fr h₀ L (s.heap.push o) m ∧ News h₀ L (s.heap.push o) ((s.heap.objs.size, o) :: news) ∧ ∀ p ∈ news, p.1 < s.heap.objs.size :=
  ⟨F.push o, N.push F o (hfree := hfr), fun p hp => Heap.lt_size (N p hp).1⟩
theorem super_K {l : List Value} {cd : ClassData} {pl : Sem Bool} {Q : Value × List Value → Shared → Prop} (F : Fr h₀ L s.heap m) (X₀ : K.In h₀) (N : News h₀ L s.heap news) (hso : (so, ks_superObj D x C) ∈ news) (I : InstAt s.heap x ox C odx)
    (ho : nsIn K cStatics "thirdparty.any" = some none) (hc : clsIn K C = some cd) (hl : (cd.mro.dropWhile (· != .ref D)).drop 1 = l) (hf : alongIn K "__init__" l = some (some (.builtin "Exception.__init__"))) (hsub : mroIn K C (.type "Exception") = some true)
    (h : ∀ q h', Fr h₀ L h' m → News h₀ L h' ((q, mwo "Exception.__init__" x) :: news) → (∀ p ∈ news, p.1 < q) → Q (.ref q, []) { s with heap := h', toks := s.toks + 1 }) : wpAny (model prog w) A (getMethod (.ref so) "__init__" pl) Q E s := by
  have X : K.In s.heap := X₀.keeps F.keep
  obtain ⟨F', N', l'⟩ := mw_push (o := mwo "Exception.__init__" x) rfl F N
  obtain ⟨hh, g, d, t, os⟩ := s
  exact super_method (N _ hso).1 (looks_opaque X ho) ((looks_clsIn X hc).andThen .now) hl X hf (ks_ne X I hc) I.type (looks_mroIn X hsub) (h _ _ F' N' l')
end
section
variable {prog : Program} {w : World} {A : Around} {E : Value → Shared → Prop} {h : Heap} {gs : Array GenState} {d : Drawn} {tk : Nat} {os : OsState} {K : Frag} {x C q t : Addr}
variable {nm qn : Str} {Nn : Addr} {bs bm : List Value} {hdct : Bool} {sn : List Str} {sub : List Value} {ab : Bool} {col : Option Bool} {dd : Option Addr} {k0 k1 k2 k3 k5 : Option Value} {newId : String}
theorem mw_run {v : Value} {Q : Value → Shared → Prop} (X : K.In h) (hq : h.get? q = some (mwo "Exception.__init__" x)) (hx : h.get? x = some (exo C t)) (hC : h.get? C = some (excClassObj nm qn C Nn bs bm hdct sn sub ab col dd k0 k1 k2 k3 k5 newId)) (hsub : mroIn K C (.type "Exception") = some true)
    (k : Q .none ⟨(h.push (tupo [v])).update x (Obj.mapFields (·.setIfInBounds 0 (.ref h.objs.size))), gs, d, tk, os⟩) :
    wpAny (model prog w) A (call (.ref q) [v]) Q E ⟨h, gs, d, tk, os⟩ := by
  have Fn := PySem.F.excBase_Exception
  have sb := looks_mroIn (M := model prog w) X hsub
  have t1 : Looks (model prog w) h (typeOf (.ref x)) (.ref C) := (Looks.ld hx).andThen .now
  refine wpAny_call (codeAny_of_tree ?_)
  show wpAny _ _ (callAny (.ref q) _) _ _ _
  refine nd_load hq ?_
  repeat lk
  refine ⟨Code.quiet_builtin _ (by decide +kernel), codeAny_builtin Fn.initEntry ?_⟩
  have hx1 : (h.push (tupo [v])).get? x = some (exo C t) := Heap.get?_push_of_some _ hx
  have hd : (exo C t).data = .fields #[.ref t, .none, .none, .none, .bool false, .none] := rfl
  have f0 : (#[.ref t, .none, .none, .none, .bool false, .none] : Array Value)[0]? = some (.ref t) := rfl
  unfold Builtin.«BaseException.__init__»
  repeat (first | (with_reducible refine wpAny_field hx1 hd f0 ?_) | (with_reducible refine wpAny_setField hx1 hd (by decide) ?_) | wp_step)
  exact k
theorem refuse_exc (self : Value) : refuseLoop self "__setattr__" [.ref 61, .ref 48, .type "Exception", .type "BaseException", .type "object"] = pure () := by
  rw [refuseLoop_ref, refuseLoop_ref]
  kernel_rfl
end
abbrev excX (C t : Addr) (od : Option Addr) : Obj := { cls := .ref C, dict := od, data := .fields #[.ref t, .none, .none, .none, .bool false, .none] }
section
open Builtin Builtin.ObjectAttr
variable {prog : Program} {w : World} {A : Around} {E : Value → Shared → Prop} {s : Shared} {h₀ : Heap} {L : Addr} {m : Str → Option Value} {news news' : List (Addr × Obj)} {K : Frag} {x C t dx : Addr} {name : Str} {v : Value} {es es' : List DictEntry} {n n' : Nat}
theorem store_led {tk : Tok} {Q : PySem.Fin → Shared → Prop} (F : Fr h₀ L s.heap m) (N : News h₀ L s.heap news) (U : Upd dx (dictOf es n) (dictOf es' n') news news') (hl : (getL name es).isSome = true)
    (e : (putL name (PyData.keyHash w.params name) (.str name s.toks) v es, putN name es n) = (es', n')) (hz : es'.length ≤ 1000)
    (h : ∀ h', Fr h₀ L h' m → News h₀ L h' news' → Q (.done (.ret .none)) { s with heap := h', toks := s.toks + 1 }) :
    wpAny (model prog w) A (storeInDict dx (.str name tk) name v) Q E s := by
  obtain ⟨pre, post, rfl, rfl, h1, h2⟩ := U.split
  obtain ⟨e1, e2⟩ := Prod.mk.inj e
  have ep : Obj.putName name (PyData.keyHash w.params name) (.str name s.toks) v (dictOf es n) = dictOf es' n' := by rw [putName_dict, e1, e2]
  obtain ⟨U1, U2⟩ := news_upd (f := Obj.putName name (PyData.keyHash w.params name) (.str name s.toks) v) F N h1 h2 ep rfl
  have D := (N (dx, dictOf es n) (by simp)).1
  have D' := (U2 (dx, dictOf es' n') (by simp)).1
  unfold storeInDict newKeyGuard
  refine wpAny_bind (wpAny_pure (wpAny_bind ?_))
  unfold nsSet
  refine wpAny_bind (wpAny_bind (wpAny_askSetting (wpAny_pure (wpAny_bind (wpAny_mkText (wpAny_bind (wpAny_loadPart D ?_)))))))
  dsimp only
  have c : (!es.toArray.any (·.key.isStr name) && es.toArray.any (·.refKey)) = false := by
    unfold getL at hl
    rw [← Array.any_toList, ← Array.any_toList]
    split at hl
    · rename_i en he
      rw [List.any_eq_true.mpr ⟨en, List.mem_of_find?_eq_some he, List.find?_some he⟩]; rfl
    · split at hl
      · cases hl
      · rename_i z; rw [Bool.not_eq_true] at z; rw [z, Bool.and_false]
  rw [aRefKeyMayBeTheName_at, c]
  refine wpAny_updatePart D ?_
  refine wpAny_bind (wpAny_lookBehind D' (pastItsLine_dict (by rw [List.size_toArray, sizeLine_eq]; omega)) ?_)
  exact wpAny_pure (h _ U1 U2)
theorem exc_osa {tk : Tok} {od : Option Addr} {odx : Option Obj} {R : Result → Shared → Prop} {cd : ClassData} (X : K.In s.heap) (I : InstAt s.heap x (excX C t od) C odx) (hc : clsIn K C = some cd)
    (hm : cd.mro = [.ref 61, .ref 48, .type "Exception", .type "BaseException", .type "object"]) (hn : findIn K (.ref C) name = some none)
    (h : wpAny (model prog w) A.in1 (storeInOwnDict (.ref x) (.ref C) (.str name tk) name v false)
      (fun fin s' => match fin with | .done f => R (.ok f) s' | .again c' => c'.quiet = true ∧ codeAny (model prog w) A c' R s') (fun e s' => R (.error e) s') s) :
    codeAny (model prog w) A (.call (.builtin "object.__setattr__") ⟨[.ref x, .str name tk, v], []⟩) R s := by
  have SF := PySem.F.store_object
  have sub : Looks (model prog w) s.heap (isInstance (.ref x) (.type "object")) true := I.type.andThen (looks_mroIn X (by unfold mroIn; rw [hc, Option.bind_some, if_neg (by rw [hm]; decide), hm]; rfl))
  refine codeAny_call_builtin SF.slot.plain SF.entry (@check_slot (model prog w) _ _ s "object.__setattr__" "object" "__setattr__" (.ref x) [.str name tk, v] [] _ SF.kind SF.split sub (SF.args (.ref x) (.str name tk) v) ?_)
  have hm' : Looks (model prog w) s.heap (mroOf (.ref C)) cd.mro := (looks_clsIn X hc).andThen .now
  rw [osa_eq, refuse_eq]
  refine wpAny_bind (wpAny_bind (I.type.here (wpAny_bind (hm'.here ?_))))
  rw [hm, refuse_exc]
  exact wpAny_pure (wpAny_bind (I.type.here (wpAny_bind ((looks_findIn X hn).here (wpAny_bind (wpAny_pure h))))))
theorem exc_set_more {Q : Unit → Shared → Prop} {cd : ClassData} (F : Fr h₀ L s.heap m) (X₀ : K.In h₀) (N : News h₀ L s.heap news) (hx : (x, excX C t (some dx)) ∈ news) (hd : (dx, dictOf es n) ∈ news) (hc : clsIn K C = some cd)
    (hm : cd.mro = [.ref 61, .ref 48, .type "Exception", .type "BaseException", .type "object"]) (hh : cd.hasDict = true) (hs : findIn K (.ref C) "__setattr__" = some (some (.builtin "object.__setattr__"))) (hn : findIn K (.ref C) name = some none) (hl : (getL name es).isSome = true)
    (e : (putL name (PyData.keyHash w.params name) (.str name (s.toks + 1)) v es, putN name es n) = (es', n')) (U : Upd dx (dictOf es n) (dictOf es' n') news news') (hz : es'.length ≤ 1000)
    (h : ∀ h', Fr h₀ L h' m → News h₀ L h' news' → Q () { s with heap := h', toks := s.toks + 2 }) :
    wpAny (model prog w) A (setAttr (.ref x) name v) Q E s := by
  have X := X₀.keeps F.keep
  have I : InstAt s.heap x (excX C t (some dx)) C (some (dictOf es n)) := ⟨(N _ hx).1, rfl, rfl, (N _ hd).1⟩
  refine set_plain X I hs (exc_osa (s := { s with toks := s.toks + 1 }) X I hc hm hn ?_)
  unfold storeInOwnDict
  refine wpAny_bind (wpAny_pure ?_)
  show wpAny _ _ (ownDictForStores (.ref x) >>= _) _ _ _
  unfold ownDictForStores instanceDict
  refine wpAny_bind (wpAny_bind (wpAny_loadPart I.at_ (wpAny_bind (Looks.here (s := { s with toks := s.toks + 1 }) (looks_clsIn X hc) ?_))))
  rw [hh]
  exact wpAny_pure (store_led (s := { s with toks := s.toks + 1 }) F N U hl e hz h)
theorem exc_set_first {Q : Unit → Shared → Prop} {cd : ClassData} {g : Obj → List (Addr × Obj)} (F : Fr h₀ L s.heap m) (X₀ : K.In h₀) (N : News h₀ L s.heap news) (Ux : UpdF x (excX C t none) news g) (hx : (x, excX C t none) ∈ news) (hc : clsIn K C = some cd)
    (hm : cd.mro = [.ref 61, .ref 48, .type "Exception", .type "BaseException", .type "object"]) (hh : cd.hasDict = true) (hs : findIn K (.ref C) "__setattr__" = some (some (.builtin "object.__setattr__"))) (hn : findIn K (.ref C) name = some none)
    (h : ∀ dx k h', Fr h₀ L h' m → News h₀ L h' ((dx, dictOf [⟨PyData.keyHash w.params name, .str name k, v⟩] 1) :: g (excX C t (some dx))) → (∀ p ∈ news, p.1 < dx) → Q () { s with heap := h', toks := s.toks + 2 }) :
    wpAny (model prog w) A (setAttr (.ref x) name v) Q E s := by
  have X := X₀.keeps F.keep
  have I : InstAt s.heap x (excX C t none) C none := ⟨(N _ hx).1, rfl, rfl, trivial⟩
  refine set_plain X I hs (exc_osa (s := { s with toks := s.toks + 1 }) X I hc hm hn ?_)
  unfold storeInOwnDict
  refine wpAny_bind (wpAny_pure ?_)
  show wpAny _ _ (ownDictForStores (.ref x) >>= _) _ _ _
  unfold ownDictForStores instanceDict
  refine wpAny_bind (wpAny_bind (wpAny_loadPart I.at_ (wpAny_bind (Looks.here (s := { s with toks := s.toks + 1 }) (looks_clsIn X hc) ?_))))
  rw [hh]
  obtain ⟨pre, post, rfl, hg, h1, h2⟩ := Ux.split
  obtain ⟨F1, N1, l1⟩ := mw_push (o := dictOf [] 0) rfl F N
  obtain ⟨F2, N2⟩ := news_upd (f := fun o => { o with dict := some s.heap.objs.size }) (o' := excX C t (some s.heap.objs.size)) (pre := (s.heap.objs.size, dictOf [] 0) :: pre) F1 N1
    (fun p hp => by
      rcases List.mem_cons.mp hp with rfl | hp
      · exact Nat.ne_of_gt (l1 (x, excX C t none) (by simp))
      · exact h1 p hp) h2 rfl rfl
  refine wpAny_bind (wpAny_alloc (wpAny_bind (wpAny_update (N1 (x, excX C t none) (by simp)).1 (wpAny_pure ?_))))
  refine store_led (s := { s with heap := _, toks := s.toks + 1 }) (es' := [⟨PyData.keyHash w.params name, .str name (s.toks + 1), v⟩]) (n' := 1) F2 N2 (.head (fun p hp => ?_)) rfl rfl (Nat.le_of_ble_eq_true rfl) (fun h' F' N' => ?_)
  · rcases List.mem_append.mp hp with hp | hp
    · exact Nat.ne_of_lt (l1 p (List.mem_append_left _ hp))
    · rcases List.mem_cons.mp hp with rfl | hp
      · exact Nat.ne_of_lt (l1 (x, excX C t none) (by simp))
      · exact Nat.ne_of_lt (l1 p (List.mem_append_right _ (.tail _ hp)))
  · exact h _ _ h' F' (by rw [hg]; exact N') l1
end
section
variable {prog : Program} {w : World} {A : Around} {E : Value → Shared → Prop} {s : Shared} {h₀ : Heap} {L : Addr} {m : Str → Option Value} {news : List (Addr × Obj)} {K : Frag} {x C t q : Addr} {v : Value}
variable {nm qn : Str} {Nn : Addr} {bs bm : List Value} {hdct : Bool} {sn : List Str} {sub : List Value} {ab : Bool} {col : Option Bool} {dd : Option Addr} {k0 k1 k2 k3 k5 : Option Value} {newId : String}
theorem mw_K {Q : Value → Shared → Prop} {g : Obj → List (Addr × Obj)} (F : Fr h₀ L s.heap m) (X₀ : K.In h₀) (N : News h₀ L s.heap news) (hq : (q, mwo "Exception.__init__" x) ∈ news) (Ux : UpdF x (excX C t none) news g) (hx : (x, excX C t none) ∈ news)
    (hC : K.lookup C = some (excClassObj nm qn C Nn bs bm hdct sn sub ab col dd k0 k1 k2 k3 k5 newId)) (hsub : mroIn K C (.type "Exception") = some true)
    (h : ∀ t' h', Fr h₀ L h' m → News h₀ L h' ((t', tupo [v]) :: g (excX C t' none)) → (∀ p ∈ news, p.1 < t') → Q .none { s with heap := h' }) :
    wpAny (model prog w) A (call (.ref q) [v]) Q E s := by
  have X := X₀.keeps F.keep
  obtain ⟨pre, post, rfl, hg, h1, h2⟩ := Ux.split
  obtain ⟨F1, N1, l1⟩ := mw_push (o := tupo [v]) rfl F N
  obtain ⟨F2, N2⟩ := news_upd (f := Obj.mapFields (·.setIfInBounds 0 (.ref s.heap.objs.size))) (o' := excX C s.heap.objs.size none) (pre := (s.heap.objs.size, tupo [v]) :: pre) F1 N1
    (fun p hp => by
      rcases List.mem_cons.mp hp with rfl | hp
      · exact Nat.ne_of_gt (l1 (x, excX C t none) (by simp))
      · exact h1 p hp) h2 rfl rfl
  obtain ⟨hh, gs, d, tk, os⟩ := s
  exact mw_run X (N _ hq).1 (N _ hx).1 (X _ _ hC) hsub (h _ _ F2 (by rw [hg]; exact N2) l1)
theorem callWith_W {env : Env} {pos : Pos} {first : List Value} {e : Expr} {rest : List Expr} {i : String} {self : Addr} {M : Model} {Q : Value → Shared → Prop} (_N : News h₀ L s.heap news) (_hq : (q, mwo i self) ∈ news)
    (h : wpAny M A (spliced (backTo pos (starEach (e :: rest) env))) (fun vs s₁ => s₁.heap.get? q = some (mwo i self) ∧ wpAny M A (call (.ref q) (first ++ vs)) Q E s₁) E s)
    (he : starEach (e :: rest) env = (false, eval e env) :: starEach rest env := by rfl) (hplain : (backTo pos (starEach rest env)).any (·.1) = false := by rfl) :
    wpAny M A (callWith pos (.ref q) first (backTo pos (starEach (e :: rest) env)) []) Q E s := by
  rw [he] at h ⊢
  exact callWith_of (P := fun h => h.get? q = some (mwo i self)) (by show ((false || (backTo pos (starEach rest env)).any (·.1)) || false) = false; rw [hplain]; rfl)
    (fun h hq => ⟨.machine, .inr (.inl rfl), (Looks.ld (part := none) hq).andThen .now⟩) (evalArgs_plain h)
end
end

section
local macro_rules | `(tactic| k_all) => `(tactic| first | assumption | exact neAll (by assumption) | exact neAll' (by assumption) | exact neAll (And.right (And.right (And.right (by assumption)))) | exact neAll (And.right (And.right (And.right (And.right (by assumption))))) | exact neAll (And.right (And.right (And.right (And.right (And.right (by assumption)))))))
theorem instAt_exc {h₀ h : Heap} {L x C t : Addr} {news : List (Addr × Obj)} (N : News h₀ L h news) (h1 : (x, excX C t none) ∈ news) : InstAt h x (excX C t none) C none := ⟨(N _ h1).1, rfl, rfl, trivial⟩
local macro_rules | `(tactic| k_inst) => `(tactic| exact instAt_exc (by k_asm) (by k_mem))
local macro_rules | `(tactic| walk_at "getMethod ref") => `(tactic| (k_here; (with_reducible show wpAny _ _ (getMethod _ (Str.ofString "__init__") _) _ _ _); k_dflt (refine' super_K ?k1 ?k2 ?k3 ?k4 ?k5 ?k6 ?k7 ?k8 ?k9 ?k10 ?_; (case k1 => k_asm); (case k2 => k_asm); (case k3 => k_asm); (case k4 => k_mem); (case k5 => k_inst); (case k6 => k_is); (case k7 => k_is); (case k8 => rfl); (case k9 => kernel_rfl); (case k10 => k_is); intro q' h' F' N' l1; (try k_lt l1); (try k_sweep); (try dsimp only))))
local macro_rules | `(tactic| walk_at "callWith ref") => `(tactic| (k_here; k_dflt (refine' callWith_W (i := "Exception.__init__") ?k1 ?k2 ?_; (case k1 => k_asm); (case k2 => k_mem); k_whole)))
local macro_rules | `(tactic| walk_at "And") => `(tactic| ((with_reducible show Heap.get? _ _ = some (mwo _ _) ∧ _); refine' ⟨?k1, ?k2⟩; (case k1 => k_dflt (refine' News.get ?N ?m; (case N => k_asm); (case m => k_mem))); (try dsimp only [List.nil_append, List.cons_append])))
local macro_rules | `(tactic| walk_at "call ref") => `(tactic| (k_here; k_dflt (refine' mw_K ?k1 ?k2 ?k3 ?k4 ?k5 ?k6 ?k7 ?k8 ?_; (case k1 => k_asm); (case k2 => k_asm); (case k3 => k_asm); (case k4 => k_mem); (case k5 => k_updF); (case k6 => k_mem); (case k7 => k_is); (case k8 => k_is); k_whole; intro t' h' F' N' l1; (try k_lt l1); (try k_sweep); (try dsimp only))))
local macro_rules | `(tactic| walk_at "setAttr ref") => `(tactic| (k_here; k_dflt (first
  | (refine' exc_set_first ?k1 ?k2 ?k3 ?k4 ?k5 ?k6 ?k7 ?k8 ?k9 ?k10 ?_; (case k1 => k_asm); (case k2 => k_asm); (case k3 => k_asm); (case k4 => k_updF); (case k5 => k_mem); (case k6 => k_is); (case k7 => rfl); (case k8 => rfl); (case k9 => k_is); (case k10 => k_is); k_whole; intro dx' kk' h' F' N' l1; (try k_lt l1); (try k_sweep); (try dsimp only))
  | (refine' exc_set_more ?k1 ?k2 ?k3 ?k4 ?k5 ?k6 ?k7 ?k8 ?k9 ?k10 ?k11 ?k12 ?k13 ?k14 ?_; (case k1 => k_asm); (case k2 => k_asm); (case k3 => k_asm); (case k4 => k_mem); (case k5 => k_mem); (case k6 => k_is); (case k7 => rfl); (case k8 => rfl); (case k9 => k_is); (case k10 => k_is); (case k11 => k_get); (case k12 => k_put); (case k13 => k_upd); (case k14 => exact Nat.le_of_ble_eq_true rfl); k_whole; intro h' F' N'; (try k_sweep); (try dsimp only)))))
abbrev flt (P : Params) (what : Str) (tw : Tok) (n : Int) (ta k1 k2 : Tok) : Obj :=
  dictOf [⟨PyData.keyHash P (Str.ofString "what"), .str (Str.ofString "what") k1, .str what tw⟩, ⟨PyData.keyHash P (Str.ofString "at"), .str (Str.ofString "at") k2, .int n ta⟩] 2
section
variable {w : World} {loose : List Str} {mean : ExcName → Option Value} {mg mb : Str → Option Value}
    {dp un : Nat} {gd : Option (List Code)} {cn : Str} {cs : Scope} {a : Addr} {ccd : Value} {cl : List (Str × Addr)} {outer : List Env} {A₀ : Around} {base h₀ : Heap} {L : Addr} {m : Str → Option Value} {s : Shared} {Q E : Value → Shared → Prop}
    {news : List (Addr × Obj)}
theorem fault_init {R : Result → Shared → Prop} {e t : Addr} {what : Str} {tw ta : Tok} {n : Int} {at_ : List Value} (B : Below A₀ base outer h₀) (F : Fr h₀ L s.heap m) (X : (K w.params).In h₀) (N : News h₀ L s.heap ((e, excX 61 t none) :: (t, tupo at_) :: news)) (T : Top vw loose mean mg mb h₀) (hkd : cs.kind = .function) (hdp : dp + 4 < recursionLimit) (hun : un + 30 < cLine)
    (hl : ∀ p ∈ news, p.1 < t) (hl2 : t < e)
    (ret : ∀ t' dx k1 k2 h' tk', Fr h₀ L h' m → News h₀ L h' ((e, excX 61 t' (some dx)) :: (dx, flt w.params what tw n ta k1 k2) :: (t', tupo [.str what tw]) :: news) → @LT.lt Nat _ e dx → R (.ok (.ret (.ref e))) { s with heap := h', toks := tk' }) :
    codeAny (model prog w) ((ktrTop dp un gd cn cs L a ccd cl outer).under (.builtin "type.__call__" ⟨[.ref 61, .str what tw, .int n ta], []⟩)) (.call (.ref 38) ⟨[.ref e, .str what tw, .int n ta], []⟩) (InitBack e R) s := by
  have hne := neAll' (ltAll hl hl2)
  replace hl2 := ltN hl2
  k_dflt (refine' ks_code_super ?k1 ?k2 ?k3 ?k4 ?k5 ?kA ?kF ?kK ?k6 ?k7 ?k8 ?k9 ?kB ?_ ?c1 ?c2 ?c3 ?c4; (case kA => exact rfl); (case kF => exact rfl); (case kK => assumption); (case k1 => k_asm); (case k2 => k_asm); (case k3 => k_asm); (case k4 => k_asm); (case k5 => k_asm); (case k6 => k_is); (case k7 => k_is); (case k8 => show dp + 1 < recursionLimit; omega); (case k9 => first | exact BindsTo.of_eq rfl | exact binds_K (by k_in) rfl (by k_is) rfl rfl rfl); (case kB => exact locs rfl); (case c1 => decide); (case c2 => exact rfl); (case c3 => exact rfl); (case c4 => exact rfl); intro g' L' h' FG' F' N' B' X' T' l1; (try dsimp only); (try k_lift B'))
  k_steps
  refine' ret _ _ _ _ _ _ (by assumption) (news4 (by assumption) ?a ?b ?c ?d) ?f
  case a => k_mem
  case b => k_mem
  case c => k_mem
  case d => exact fun p hp => .tail _ (.tail _ (.tail _ (.tail _ (.tail _ (.tail _ hp)))))
  case f => omega
theorem fault_make {what : Str} {tw ta : Tok} {n : Int} (B : Below A₀ base outer h₀) (F : Fr h₀ L s.heap m) (X : (K w.params).In h₀) (N : News h₀ L s.heap news) (T : Top vw loose mean mg mb h₀) (hkd : cs.kind = .function) (hdp : dp + 4 < recursionLimit) (hun : un + 30 < cLine)
    (ret : ∀ e t dx k1 k2 h' tk', Fr h₀ L h' m → News h₀ L h' ((e, excX 61 t (some dx)) :: (dx, flt w.params what tw n ta k1 k2) :: (t, tupo [.str what tw]) :: news) → (∀ p ∈ news, p.1 < e) → @LT.lt Nat _ e dx → Q (.ref e) { s with heap := h', toks := tk' }) :
    wpAny (model prog w) (ktrTop dp un gd cn cs L a ccd cl outer) (call (.ref 61) [.str what tw, .int n ta]) Q E s := by
  have Xs := X.keeps F.keep
  obtain ⟨F1, N1, l1⟩ := mw_push (o := tupo [.str what tw, .int n ta]) rfl F N
  obtain ⟨F2, N2, l2⟩ := mw_push (s := { s with heap := s.heap.push (tupo [.str what tw, .int n ta]) }) (o := exo 61 s.heap.objs.size) rfl F1 N1
  dsimp only at F2 N2 l2
  rw [Heap.size_push] at N2
  obtain ⟨hh, gs, d, tk, os⟩ := s
  refine wpAny_call ?_
  k_dflt (refine' exc_call Xs ?k1 ?k2 ?k3 ?k4 ?k5 ?k6 ?k7 ?k8 ?k9 ?_; (case k1 => exact Xs _ _ (by k_is)); (case k2 => kernel_rfl); (case k3 => kernel_rfl); (case k4 => kernel_rfl); (case k5 => k_is); (case k6 => k_is); (case k7 => k_is); (case k8 => k_is); (case k9 => show 2 ≤ sizeLine; decide))
  refine fault_init B F2 X N2 T hkd hdp hun (fun p hp => l1 p hp) (Nat.lt_succ_self _) fun t' dx k1 k2 h' tk' F' N' hlt => ret _ _ _ _ _ _ _ F' N' (ltAll (fun p hp => l1 p hp) (Nat.lt_succ_self _)) hlt
end
end
local macro_rules | `(tactic| walk_at "call ref") => `(tactic| (k_here; (with_reducible show wpAny _ _ (call (Value.ref 61) _) _ _ _); k_dflt (refine' fault_make (by k_asm) (by k_asm) (by k_asm) (by k_asm) (by k_asm) (by walk_at "hk") (by walk_at "hr") (by walk_at "hr") ?_; k_whole); intro e' t' d' k1' k2' h' tk' F' N' l1' l2'; have l0' := l1'; (try k_lt l1'); walk_at "kend"))

section
section
variable {M : Model} {A : Around} {E : Value → Shared → Prop} {env : Env} {s : Shared} {K : Frag}
theorem raise_stmt {x : Sem Value} {C : Addr} {cd : ClassData} {Q : Flow → Shared → Prop} (hc : clsIn K C = some cd) (hm : mroIn K C (.type "BaseException") = some true) (ht : typeIn K (.ref C) = some (.type "type")) (hh : A.handled = none)
    (h : wpAny M A x (fun v s₁ => K.In s₁.heap ∧ ∃ e t od, v = .ref e ∧ s₁.heap.get? e = some (excX C t od) ∧ E (.ref e) s₁) E s) :
    wpAny M A (raiseStmt env (some x) none) Q E s := by
  unfold raiseStmt
  refine wpAny_bind (wpAny_mono h (fun v s₁ h₁ => ?_) fun _ _ x => x)
  obtain ⟨X, e, t, od, rfl, he, hE⟩ := h₁
  obtain ⟨hp, g, d, tk, os⟩ := s₁
  have t1 : Looks M hp (typeOf (.ref e)) (.ref C) := (Looks.ld he).andThen .now
  have t2 := looks_mroIn (M := M) X hm
  have t3 := looks_typeIn (M := M) X ht
  have hd : (excX C t od).data = .fields #[.ref t, .none, .none, .none, .bool false, .none] := rfl
  have f1 : (#[.ref t, .none, .none, .none, .bool false, .none] : Array Value)[1]? = some .none := rfl
  dsimp only at he
  repeat (first | (with_reducible refine Looks.at (by assumption) ?_) | with_reducible refine wpAny_loadPart_at he ?_ | (with_reducible refine wpAny_field he hd f1 ?_) | wp_step)
  exact wpAny_raiseNew_none hh hE
theorem raise_exec {h₀ : Heap} {x : Expr} {pos : Pos} {C : Addr} {cd : ClassData} {Q : Flow → Shared → Prop} (_X : K.In h₀) (hc : clsIn K C = some cd) (hm : mroIn K C (.type "BaseException") = some true) (ht : typeIn K (.ref C) = some (.type "type")) (hh : A.handled = none)
    (h : wpAny M A (eval x env) (fun v s₁ => K.In s₁.heap ∧ ∃ e t od, v = .ref e ∧ s₁.heap.get? e = some (excX C t od) ∧ E (.ref e) s₁) E s) :
    wpAny M A (exec (.Raise (some x) none pos) env) Q E s := by
  rw [arm_exec_Raise]
  refine wpAny_bind (wpAny_standAt ?_)
  show wpAny _ _ (raiseStmt env (some (eval x env >>= fun v => standAt pos >>= fun _ => pure v)) none) _ _ _
  exact raise_stmt hc hm ht hh (wpAny_bind (wpAny_mono h (fun v s₁ h₁ => wpAny_bind (wpAny_standAt (wpAny_pure h₁))) fun _ _ x => x))
end
end

section
structure Fly (base : Heap) (l : List Env) (e dx : Addr) (fl : Value) (h : Heap) : Prop where
  stays : base.StaysIn h
  fresh : base.get? e = none
  frames : h.FunFrames base l
  tr : ∃ oe vs T oT ts, h.get? e = some oe ∧ oe.cls = .ref 61 ∧ oe.dict = some dx ∧ oe.data = .fields vs ∧ vs[1]? = some (.ref T) ∧ base.get? T = none ∧ T ≠ e ∧ h.get? T = some oT ∧ oT.data = .fields ts ∧ ts[3]? = some fl
section
variable {M : Model} {A : Around} {E : Value → Shared → Prop} {s : Shared} {base : Heap} {env : Env} {outer l : List Env} {L e dx : Addr} {Q : Unit → Shared → Prop}
theorem fly_entry {oe : Obj} {vs : Array Value} {head : Value} {hadNext : Bool} (hfr : A.frames = some (env :: outer)) (hl : s.heap.FunFrames base (env :: outer)) (hf : env.frame = some L)
    (he : s.heap.get? e = some oe) (hc : oe.cls = .ref 61) (hdx : oe.dict = some dx) (hkb : base.StaysIn s.heap) (hen : base.get? e = none) (hd : oe.data = .fields vs) (hsz : 1 < vs.size)
    (k : ∀ h', Fly base (env :: outer) e dx (rawInt L) h' → s.heap.UpToSlots h' → Q () { s with heap := h' }) :
    wpAny M A (do let a ← frameOf env; let pl ← entryPlaceOf L hadNext; let b ← EntryCells.newEntry head a .none (rawInt L) .none pl; setField (.ref e) 1 b) Q E s := by
  have off : ∀ b o, s.heap.get? b = some o → (∀ ws, o.data ≠ .fields ws) → b ≠ e := fun b o hb hnf q => by
    rw [q, he] at hb
    cases hb
    exact hnf vs hd
  have hene : e ∉ (env :: outer).filterMap (·.frame) := fun hm => by
    obtain ⟨_, o, ho, hnf⟩ := hl.mem hm
    exact off e o ho hnf rfl
  refine wpAny_bind (wpAny_frameOf_fun hfr hl hf fun h₁ hs₁ => wpAny_bind (wpAny_entryPlaceOf fun pl hpl => ?_))
  have he₁ : h₁.get? e = some oe := (hs₁.2.1 e hene).trans he
  have kb₁ : base.StaysIn h₁ := fun b o hbo => (hs₁.2.1 b fun hm => by rw [(hl.mem hm).1] at hbo; cases hbo).trans (hkb b o hbo)
  unfold EntryCells.newEntry newFields
  refine wpAny_bind (wpAny_newObj_type ?_ (hpl.sizeOk5 _ _ _ _ _))
  generalize hO : ({ cls := .type "traceback", dict := none, data := .fields ([head, .ref L, .none, rawInt L, .none] ++ (if pl.isEmpty then List.replicate 6 Value.none else pl)).toArray } : Obj) = O
  have hTe : h₁.objs.size ≠ e := Nat.ne_of_gt (Heap.lt_size he₁)
  have he₂ := Heap.get?_push_of_some (h := h₁) O he₁
  refine wpAny_setField he₂ hd hsz (k _ ?_ ?_)
  · have hd₃ := Obj.data_mapFields hd (·.setIfInBounds 1 (Value.ref h₁.objs.size))
    have keep : ∀ b o, b ≠ e → h₁.get? b = some o → ((h₁.push O).update e (Obj.mapFields (·.setIfInBounds 1 (Value.ref h₁.objs.size)))).get? b = some o := fun b o hbe hb => by
      rw [Heap.get?_update_other _ _ (Ne.symm hbe)]
      exact Heap.get?_push_of_some _ hb
    refine ⟨fun b o hbo => keep b o (fun q => by rw [q, hen] at hbo; cases hbo) (kb₁ b o hbo), hen, hl.of_keeps fun b o hb hnf => ?_, ?_⟩
    · obtain ⟨sl, hs⟩ := hs₁.2.2 b o hb
      exact ⟨_, keep b _ (off b o hb hnf) hs, rfl⟩
    · refine ⟨_, _, h₁.objs.size, O, _, Heap.get?_update_self _ he₂ (Obj.isFreed_of_fields hd₃), (Obj.cls_mapFields _ _).trans hc, ?_, hd₃, by simp [hsz], kb₁.fresh, hTe, ?_, by rw [← hO], ?_⟩
      · rw [← hdx]
        obtain ⟨oc, od, odt, osl⟩ := oe
        cases odt <;> rfl
      · rw [Heap.get?_update_other _ _ (Ne.symm hTe)]
        exact Heap.get?_push_size h₁ (by rw [← hO]; rfl)
      · rcases hpl with rfl | ⟨_, _, _, _, _, _, _, rfl⟩ <;> simp
  · intro b o hb hnf
    obtain ⟨sl, hs⟩ := hs₁.2.2 b o hb
    refine ⟨sl, ?_⟩
    rw [Heap.get?_update_other _ _ (Ne.symm (off b o hb hnf))]
    exact Heap.get?_push_of_some _ hs
theorem fly_down {fl : Value} (hh : Fly base l e dx fl s.heap) (k : ∀ h', Fly base l e dx .none h' → s.heap.UpToSlots h' → Q () { s with heap := h' }) : wpAny M A (setFlight (.ref e) none) Q E s := by
  obtain ⟨hkb, hen, hl, oe, vs, T, oT, ts, he, hc, hdx, hd, h1, hnT, hTe, hT, hdT, h3⟩ := hh
  have hsz3 : 3 < ts.size := (Array.getElem?_eq_some_iff.mp h3).1
  have other : ∀ b, b ≠ T → (s.heap.update T (Obj.mapFields (·.setIfInBounds 3 ((none : Option Addr).elim Value.none fun f => rawInt f)))).get? b = s.heap.get? b :=
    fun b hb => Heap.get?_update_other _ _ (Ne.symm hb)
  have off : ∀ b o, s.heap.get? b = some o → (∀ ws, o.data ≠ .fields ws) → b ≠ T := fun b o hb hnf q => by
    rw [q, hT] at hb
    cases hb
    exact hnf ts hdT
  unfold setFlight
  refine wpAny_bind (wpAny_field he hd h1 ?_)
  rw [if_pos (show (Value.ref T != Value.none) = true from by simp)]
  refine wpAny_setField hT hdT hsz3 (k _ ⟨fun b o hbo => (other b fun q => by rw [q, hnT] at hbo; cases hbo).trans (hkb b o hbo), hen, hl.of_keeps fun b o hb hnf => ⟨o, (other b (off b o hb hnf)).trans hb, rfl⟩, ?_⟩ fun b o hb hnf => ⟨o.slots, (other b (off b o hb hnf)).trans hb⟩)
  exact ⟨oe, vs, T, _, _, (other e (Ne.symm hTe)).trans he, hc, hdx, hd, h1, hnT, hTe, Heap.get?_update_self _ hT (Obj.isFreed_of_fields (Obj.data_mapFields hdT _)), Obj.data_mapFields hdT _, by simp [hsz3]⟩
theorem fly_note (hfr : A.frames = some (env :: outer)) (hf : env.frame = some L) (hh : Fly base (env :: outer) e dx .none s.heap)
    (k : ∀ h', Fly base (env :: outer) e dx (rawInt L) h' → s.heap.UpToSlots h' → Q () { s with heap := h' }) : wpAny M A (noteFrame (.ref e) env) Q E s := by
  obtain ⟨hkb, hen, hl, oe, vs, T, oT, ts, he, hc, hdx, hd, h1, hnT, hTe, hT, hdT, h3⟩ := hh
  have other : ∀ b, b ≠ T → (s.heap.update T (Obj.mapFields (·.setIfInBounds 3 Value.none))).get? b = s.heap.get? b := fun b hb => Heap.get?_update_other _ _ (Ne.symm hb)
  have off : ∀ b o, s.heap.get? b = some o → (∀ ws, o.data ≠ .fields ws) → b ≠ T := fun b o hb hnf q => by
    rw [q, hT] at hb
    cases hb
    exact hnf ts hdT
  unfold noteFrame
  simp only [hf]
  refine wpAny_bind (wpAny_field he hd h1 ?_)
  rw [if_pos (show (Value.ref T != Value.none) = true from by simp)]
  refine wpAny_bind (wpAny_field hT hdT h3 ?_)
  rw [if_neg (show ¬ ((Value.none == rawInt L) = true) from by simp [rawInt])]
  refine wpAny_bind (wpAny_setField hT hdT (Array.getElem?_eq_some_iff.mp h3).1 ?_)
  exact fly_entry hfr (hl.of_keeps fun b o hb hnf => ⟨o, (other b (off b o hb hnf)).trans hb, rfl⟩) hf ((other e (Ne.symm hTe)).trans he) hc hdx
    (fun b o hbo => (other b fun q => by rw [q, hnT] at hbo; cases hbo).trans (hkb b o hbo)) hen hd (Array.getElem?_eq_some_iff.mp h1).1
    fun h' x1 x4 => k h' x1 fun b o hb hnf => x4 b o ((other b (off b o hb hnf)).trans hb) hnf
theorem fly_first {oe : Obj} {vs : Array Value} (hfr : A.frames = some (env :: outer)) (hl : s.heap.FunFrames base (env :: outer)) (hf : env.frame = some L)
    (he : s.heap.get? e = some oe) (hc : oe.cls = .ref 61) (hdx : oe.dict = some dx) (hkb : base.StaysIn s.heap) (hen : base.get? e = none) (hd : oe.data = .fields vs) (h1 : vs[1]? = some .none)
    (k : ∀ h', Fly base outer e dx .none h' → s.heap.UpToSlots h' → Q () { s with heap := h' }) : wpAny M A (leaving env (.ref e)) Q E s := by
  unfold leaving noteFrame
  simp only [hf]
  refine wpAny_bind (wpAny_bind (wpAny_field he hd h1 ?_))
  rw [if_neg (by decide)]
  refine fly_entry hfr hl hf he hc hdx hkb hen hd (Array.getElem?_eq_some_iff.mp h1).1 fun h' F U => ?_
  exact fly_down (s := { s with heap := h' }) F fun h'' F' U' => k h'' ⟨F'.1, F'.2, F'.3.2.2, F'.4⟩ (U.trans U')
theorem fly_next (hfr : A.frames = some (env :: outer)) (hf : env.frame = some L) (hh : Fly base (env :: outer) e dx .none s.heap)
    (k : ∀ h', Fly base outer e dx .none h' → s.heap.UpToSlots h' → Q () { s with heap := h' }) : wpAny M A (leaving env (.ref e)) Q E s := by
  unfold leaving
  refine wpAny_bind (fly_note hfr hf hh fun h' F U => ?_)
  exact fly_down (s := { s with heap := h' }) F fun h'' F' U' => k h'' ⟨F'.1, F'.2, F'.3.2.2, F'.4⟩ (U.trans U')
end
end

section
def FltR (P : Params) (base G : Heap) (l : List Env) (e : Addr) (n : Int) (news : List (Addr × Obj)) (h : Heap) : Prop :=
  ∃ B dx what tw ta k1 k2, base.StaysIn B ∧ (∀ b o, G.get? b = some o → b ∉ l.filterMap (·.frame) → B.get? b = some o) ∧ (∀ q ∈ news, B.get? q.1 = some q.2 ∧ G.get? q.1 = none ∧ base.get? q.1 = none) ∧
    B.get? dx = some (flt P what tw n ta k1 k2) ∧ G.get? dx = none ∧ G.get? e = none ∧ Fly B l e dx .none h
theorem FltR.sub {P : Params} {base G : Heap} {l : List Env} {e : Addr} {n : Int} {news news' : List (Addr × Obj)} {h : Heap} (R : FltR P base G l e n news h) (hs : ∀ p ∈ news', p ∈ news) : FltR P base G l e n news' h := by
  obtain ⟨B, dx, what, tw, ta, k1, k2, a1, a2, a3, a4, a5, a6, a7⟩ := R
  exact ⟨B, dx, what, tw, ta, k1, k2, a1, a2, fun q hq => a3 q (hs q hq), a4, a5, a6, a7⟩
section
variable {M : Model} {A : Around} {E : Value → Shared → Prop} {s : Shared} {base g G : Heap} {env : Env} {outer : List Env} {L e dx t : Addr} {m : Str → Option Value} {news : List (Addr × Obj)} {P : Params} {what : Str} {n : Int} {tw ta k1 k2 : Tok} {tt : Addr × Obj} {Q : Unit → Shared → Prop}
theorem flt_first (K : Below A base outer g) (F : Fr g L s.heap m) (N : News g L s.heap ((e, excX 61 t (some dx)) :: (dx, flt P what tw n ta k1 k2) :: tt :: news)) (hlt : ∀ p ∈ news, p.1 < e) (hed : @LT.lt Nat _ e dx)
    (hf : env.frame = some L) (hk : env.scope.kind = .function)
    (hQ : ∀ h', FltR P base g outer e n news h' → g.UpToSlots h' → Q () { s with heap := h' }) : wpAny M (A.deeper env) (leaving env (.ref e)) Q E s := by
  have K' := pushX K F hf hk
  have Ne := N _ (.head _)
  have Nd := N _ (.tail _ (.head _))
  have hfn : ∀ b ∈ (env :: outer).filterMap (·.frame), ∃ o, s.heap.get? b = some o ∧ ∀ vs, o.data ≠ .fields vs := fun b hb => (K'.frames.mem hb).2
  have nf : ∀ b o, b ≠ L → g.get? b = none → s.heap.get? b = some o → b ∉ (env :: outer).filterMap (·.frame) := fun b o hbL hb ho hm => by
    obtain ⟨env', he, hf'⟩ := List.mem_filterMap.mp hm
    rcases List.mem_cons.mp he with rfl | he
    · rw [hf] at hf'
      exact hbL (Option.some.inj hf').symm
    · obtain ⟨_, o', ho', _⟩ := K.frames.mem (List.mem_filterMap.mpr ⟨env', he, hf'⟩)
      rw [hb] at ho'
      cases ho'
  have hid : ∀ b o, s.heap.get? b = some o → b ≠ e → b ∉ (env :: outer).filterMap (·.frame) → (hideAll s.heap (e :: (env :: outer).filterMap (·.frame))).get? b = some o := fun b o ho hbe hb => hideAll_get _ ho fun q => by
    rcases List.mem_cons.mp q with q | q
    · exact hbe q
    · exact hb q
  have ge : ∀ b o, g.get? b = some o → b ≠ e := fun b o hb q => by rw [q, Ne.2.2] at hb; cases hb
  have gL : ∀ b o, g.get? b = some o → b ≠ L := fun b o hb q => by
    rw [q] at hb
    exact absurd (Nat.lt_of_lt_of_le (Heap.lt_size hb) F.above) (Nat.lt_irrefl _)
  have st : base.StaysIn (hideAll s.heap (e :: (env :: outer).filterMap (·.frame))) := fun b o q => hid b o (K'.stays b o q) (ge b o (K.stays b o q)) fun hm => by
    rw [(K'.frames.mem hm).1] at q; cases q
  refine fly_first (oe := excX 61 t (some dx)) (L := L) K'.stack ?_ hf Ne.1 rfl rfl (fun b o q => of_hideAll _ q) (hideAll_none _ (.head _)) rfl rfl fun h' Y U => hQ h' ⟨_, dx, what, tw, ta, k1, k2, st, fun b o q nm => ?_, fun q hq => ?_, ?_, Nd.2.2, Ne.2.2, Y⟩ ((Heap.UpToSlots.of_keeps F.keep).trans U)
  · have : ∀ l : List Env, s.heap.FunFrames base l → (∀ b ∈ l.filterMap (·.frame), b ∈ e :: (env :: outer).filterMap (·.frame)) → s.heap.FunFrames (hideAll s.heap (e :: (env :: outer).filterMap (·.frame))) l := by
      intro l
      induction l with
      | nil => exact fun _ _ => trivial
      | cons x r ih =>
        intro hl hin
        obtain ⟨hk', ⟨L', o, hf', hn, ho, hd⟩, hr⟩ := hl
        refine ⟨hk', ⟨L', o, hf', hideAll_none _ (hin L' (List.mem_filterMap.mpr ⟨x, .head _, hf'⟩)), ho, hd⟩, ih hr fun b hb => hin b ?_⟩
        obtain ⟨y, hy, hfy⟩ := List.mem_filterMap.mp hb
        exact List.mem_filterMap.mpr ⟨y, .tail _ hy, hfy⟩
    exact this _ K'.frames fun b hb => .tail _ hb
  · refine hid b o (F.keep b o q) (ge b o q) fun hm => ?_
    obtain ⟨env', he, hf'⟩ := List.mem_filterMap.mp hm
    rcases List.mem_cons.mp he with rfl | he
    · rw [hf] at hf'
      exact gL b o q (Option.some.inj hf').symm
    · exact nm (List.mem_filterMap.mpr ⟨env', he, hf'⟩)
  · have Nq := N q (.tail _ (.tail _ (.tail _ hq)))
    exact ⟨hid _ _ Nq.1 (Nat.ne_of_lt (hlt q hq)) (nf _ _ Nq.2.1 Nq.2.2 Nq.1), Nq.2.2, fresh_of_stays K.stays Nq.2.2⟩
  · exact hid _ _ Nd.1 (Nat.ne_of_gt hed) (nf _ _ Nd.2.1 Nd.2.2 Nd.1)
theorem flt_next (K : Below A base outer g) (F : Fr g L G m) (R : FltR P base G (env :: outer) e n news s.heap) (hsm : G.UpToSlots s.heap) (hf : env.frame = some L)
    (hQ : ∀ h', FltR P base g outer e n news h' → g.UpToSlots h' → Q () { s with heap := h' }) : wpAny M (A.deeper env) (leaving env (.ref e)) Q E s := by
  obtain ⟨B, dx, what, tw, ta, k1, k2, a1, a2, a3, a4, a5, a6, a7⟩ := R
  refine fly_next (Around.frames_deeper K.stack) hf a7 fun h' Y U => hQ h' ⟨B, dx, what, tw, ta, k1, k2, a1, fun b o q nm => a2 b o (F.keep b o q) fun hm => ?_, fun q hq => ⟨(a3 q hq).1, kts_none F.keep (a3 q hq).2.1, (a3 q hq).2.2⟩, a4, kts_none F.keep a5, kts_none F.keep a6, Y⟩ ((Heap.UpToSlots.of_keeps F.keep).trans (hsm.trans U))
  obtain ⟨env', he, hf'⟩ := List.mem_filterMap.mp hm
  rcases List.mem_cons.mp he with rfl | he
  · rw [hf] at hf'
    cases hf'
    exact absurd (Nat.lt_of_lt_of_le (Heap.lt_size q) F.above) (Nat.lt_irrefl _)
  · exact nm (List.mem_filterMap.mpr ⟨env', he, hf'⟩)
end
end
local macro_rules | `(tactic| walk_at "exec Raise some none") => `(tactic| (k_here; k_dflt (refine' raise_exec (C := 61) ?k0 ?k1 ?k2 ?k3 ?k4 ?_; (case k0 => k_asm); (case k1 => k_is); (case k2 => k_is); (case k3 => k_is); (case k4 => rfl); k_whole)))
local macro_rules | `(tactic| walk_at "Exists") => `(tactic| (k_dflt (refine' ⟨_, _, _, rfl, ?k1, ?_⟩; (case k1 => (refine' News.get ?N ?m; (case N => k_asm); (case m => k_mem))))))
local macro_rules | `(tactic| walk_at "leaving ref") => `(tactic| (k_here; k_dflt (first
  | (refine' flt_first ?k1 ?k2 ?k3 ?k4 ?k5 ?k6 ?k7 ?_; (case k1 => k_asm); (case k2 => k_asm); (case k3 => k_asm); (case k4 => k_asm); (case k5 => k_asm); (case k6 => exact rfl); (case k7 => first | exact rfl | assumption); k_whole; intro h' R' U'; (try dsimp only))
  | (refine' flt_next ?k1 ?k2 ?k3 ?k4 ?k5 ?_; (case k3 => assumption); (case k1 => assumption); (case k2 => assumption); (case k4 => assumption); (case k5 => exact rfl); k_whole; intro h' R' U'; (try dsimp only)))))

section
section
variable {w : World} {loose : List Str} {mean : ExcName → Option Value} {mg mb : Str → Option Value}
    {dp un : Nat} {gd : Option (List Code)} {cn : Str} {cs : Scope} {a : Addr} {ccd : Value} {cl : List (Str × Addr)} {outer : List Env} {A₀ : Around} {base h₀ : Heap} {L : Addr} {m : Str → Option Value} {s : Shared} {Q E : Value → Shared → Prop}
    {news : List (Addr × Obj)}
theorem room_bad {d : Array UInt8} {ks : List Int} {td ta tn : Tok} {p n : Int} (B : Below A₀ base outer h₀) (F : Fr h₀ L s.heap m) (X : (K w.params).In h₀) (N : News h₀ L s.heap news) (T : Top vw loose mean mg mb h₀) (hkd : cs.kind = .function) (hdp : dp + 6 < recursionLimit) (hun : un + 40 < cLine)
    (hks : KBw.bInts d = ks) (h0 : 0 ≤ p) (h1 : ks.length < p + n) (hs : ks.length ≤ 1000)
    (raise : ∀ g e h' tk', Fr h₀ L g m → FltR w.params base g (envX cn cs L a ccd cl :: outer) e p news h' → g.UpToSlots h' → E (.ref e) { s with heap := h', toks := tk' }) :
    wpAny (model prog w) (ktrTop dp un gd cn cs L a ccd cl outer) (call (.ref 82) [.bytes d td, .int p ta, .int n tn]) Q E s := by
  (refine wpAny_call ?_; k_dflt cell_enter)
  k_steps
  exact raise _ _ _ _ (by assumption) (by assumption) (by assumption)
local macro_rules | `(tactic| walk_at "call ref") => `(tactic| (k_here; (with_reducible show wpAny _ _ (call (Value.ref 82) _) _ _ _); k_dflt (refine' room_bad (by k_asm) (by k_asm) (by k_asm) (by k_asm) (by k_asm) (by walk_at "hk") (by walk_at "hr") (by walk_at "hr") (by kba_ints) (by omega) (by omega) (by omega) ?_; k_whole); intro g' e' h' tk' F' R' U'; (try dsimp only)))
theorem num2_bad {d : Array UInt8} {ks : List Int} {td ta tn : Tok} {p : Int} (B : Below A₀ base outer h₀) (F : Fr h₀ L s.heap m) (X : (K w.params).In h₀) (N : News h₀ L s.heap news) (T : Top vw loose mean mg mb h₀) (hkd : cs.kind = .function) (hdp : dp + 7 < recursionLimit) (hun : un + 44 < cLine)
    (hks : KBw.bInts d = ks) (h0 : 0 ≤ p) (h1 : ks.length < p + 2) (hs : ks.length ≤ 1000)
    (raise : ∀ g e h' tk', Fr h₀ L g m → FltR w.params base g (envX cn cs L a ccd cl :: outer) e p news h' → g.UpToSlots h' → E (.ref e) { s with heap := h', toks := tk' }) :
    wpAny (model prog w) (ktrTop dp un gd cn cs L a ccd cl outer) (call (.ref 89) [.bytes d td, .int p ta, .int 2 tn]) Q E s := by
  (refine wpAny_call ?_; k_dflt cell_enter)
  k_steps
  exact raise _ _ _ _ (by assumption) (by assumption) (by assumption)
local macro_rules | `(tactic| walk_at "call ref") => `(tactic| (k_here; (with_reducible show wpAny _ _ (call (Value.ref 89) _) _ _ _); k_dflt (refine' num2_bad (by k_asm) (by k_asm) (by k_asm) (by k_asm) (by k_asm) (by walk_at "hk") (by walk_at "hr") (by walk_at "hr") (by kba_ints) (by omega) (by omega) (by omega) ?_; k_whole); intro g' e' h' tk' F' R' U'; (try dsimp only)))
theorem number2_bad {d : Array UInt8} {ks : List Int} {x dx : Addr} {td tp k1 k2 tn : Tok} {p : Int} (B : Below A₀ base outer h₀) (F : Fr h₀ L s.heap m) (X : (K w.params).In h₀) (N : News h₀ L s.heap news) (T : Top vw loose mean mg mb h₀) (hkd : cs.kind = .function) (hdp : dp + 8 < recursionLimit) (hun : un + 48 < cLine)
    (hx : (x, instObj 182 dx) ∈ news) (hdx : (dx, rd w.params d td p tp k1 k2) ∈ news) (hks : KBw.bInts d = ks) (h0 : 0 ≤ p) (h1 : ks.length < p + 2) (hs : ks.length ≤ 1000)
    (raise : ∀ g e h' tk', Fr h₀ L g m → FltR w.params base g (envX cn cs L a ccd cl :: outer) e p news h' → g.UpToSlots h' → E (.ref e) { s with heap := h', toks := tk' }) :
    wpAny (model prog w) (ktrTop dp un gd cn cs L a ccd cl outer) (call (.ref 125) [.ref x, .int 2 tn]) Q E s := by
  (refine wpAny_call ?_; k_dflt cell_enter)
  k_steps
  exact raise _ _ _ _ (by assumption) (by assumption) (by assumption)
local macro_rules | `(tactic| walk_at "call ref") => `(tactic| (k_here; (with_reducible show wpAny _ _ (call (Value.ref 125) _) _ _ _); k_dflt (refine' number2_bad (by k_asm) (by k_asm) (by k_asm) (by k_asm) (by k_asm) (by walk_at "hk") (by walk_at "hr") (by walk_at "hr") (by k_mem) (by k_mem) (by kba_ints) (by omega) (by omega) (by omega) ?_; k_whole); intro g' e' h' tk' F' R' U'; (try dsimp only)))
theorem i16_bad {d : Array UInt8} {ks : List Int} {x dx : Addr} {td tp k1 k2 : Tok} {p : Int} (B : Below A₀ base outer h₀) (F : Fr h₀ L s.heap m) (X : (K w.params).In h₀) (N : News h₀ L s.heap news) (T : Top vw loose mean mg mb h₀) (hkd : cs.kind = .function) (hdp : dp + 9 < recursionLimit) (hun : un + 52 < cLine)
    (hx : (x, instObj 182 dx) ∈ news) (hdx : (dx, rd w.params d td p tp k1 k2) ∈ news) (hks : KBw.bInts d = ks) (h0 : 0 ≤ p) (h1 : ks.length < p + 2) (hs : ks.length ≤ 1000)
    (raise : ∀ g e h' tk', Fr h₀ L g m → FltR w.params base g (envX cn cs L a ccd cl :: outer) e p news h' → g.UpToSlots h' → E (.ref e) { s with heap := h', toks := tk' }) :
    wpAny (model prog w) (ktrTop dp un gd cn cs L a ccd cl outer) (call (.ref 146) [.ref x]) Q E s := by
  (refine wpAny_call ?_; k_dflt cell_enter)
  k_steps
  exact raise _ _ _ _ (by assumption) (by assumption) (by assumption)
end
end
local macro_rules | `(tactic| walk_at "call ref") => `(tactic| (k_here; (with_reducible show wpAny _ _ (call (Value.ref 146) _) _ _ _); k_dflt (refine' i16_bad (by k_asm) (by k_asm) (by k_asm) (by k_asm) (by k_asm) (by walk_at "hk") (by walk_at "hr") (by walk_at "hr") (by k_mem) (by k_mem) (by kba_ints) (by omega) (by omega) (by omega) ?_; k_whole); intro g' e' h' tk' F' R' U'; (try dsimp only)))

section
local macro_rules | `(tactic| k_all) => `(tactic| assumption)
theorem in_ok {a b v : Int} (h : v = a ∨ v = b) (q : ([a, b].any fun x => x == v) = false) : False := by
  rcases h with h | h <;> subst h <;> simp at q
theorem in_bad {a b v : Int} (h : v ≠ a) (h2 : v ≠ b) (q : ([a, b].any fun x => x == v) = true) : False := by
  simp at q
  rcases q with q | q
  · exact h q.symm
  · exact h2 q.symm
section
variable {w : World} {loose : List Str} {mean : ExcName → Option Value} {mg mb : Str → Option Value}
    {dp un : Nat} {gd : Option (List Code)} {cn : Str} {cs : Scope} {a : Addr} {ccd : Value} {cl : List (Str × Addr)} {outer : List Env} {A₀ : Around} {base h₀ : Heap} {L : Addr} {m : Str → Option Value} {s : Shared} {Q E : Value → Shared → Prop}
    {news : List (Addr × Obj)}
theorem ver1_ok {d : Array UInt8} {ks : List Int} {x dx vt : Addr} {td tp k1 k2 tv : Tok} {p : Int} {ve : Nat} {g : Obj → List (Addr × Obj)} (B : Below A₀ base outer h₀) (F : Fr h₀ L s.heap m) (X : (K w.params).In h₀) (N : News h₀ L s.heap news) (T : Top vw loose mean mg mb h₀) (hkd : cs.kind = .function) (hdp : dp + 6 < recursionLimit) (hun : un + 40 < cLine)
    (hx : (x, instObj 182 dx) ∈ news) (hvt : (vt, ({ cls := .type "tuple", data := .seq [.int 65536 tv].toArray ve } : Obj)) ∈ news) (U : UpdF dx (rd w.params d td p tp k1 k2) news g) (hne : x ≠ dx) (hne2 : vt ≠ dx) (hks : KBw.bInts d = ks) (h0 : 0 ≤ p) (h1 : p + 4 ≤ ks.length) (hs : ks.length ≤ 1000)
    (hv : be4 ks p = 65536)
    (ret : ∀ t tp' h' tk', Fr h₀ L h' m → News h₀ L h' (g (rd w.params d td (p + 4) tp' k1 k2)) → Q (.int (be4 ks p) t) { s with heap := h', toks := tk' }) :
    wpAny (model prog w) (ktrTop dp un gd cn cs L a ccd cl outer) (call (.ref 235) [.ref x, .ref vt]) Q E s := by
  obtain ⟨rest, N, hr, hsub, -, hg⟩ := updF_open U N
  replace N := news_add N (hsub _ hvt hne2)
  replace N := news_add N (.tail _ (hsub _ hx hne))
  clear hsub hx hvt U
  (refine wpAny_call ?_; k_dflt cell_enter)
  k_steps
  all_goals first
    | (exact ret _ _ _ _ (by assumption) (hg _ _ (news_cut (news_cut (by assumption)))))
    | (exfalso; simp_all; done)
theorem ver1_bad {d : Array UInt8} {ks : List Int} {x dx vt : Addr} {td tp k1 k2 tv : Tok} {p : Int} {ve : Nat} {g : Obj → List (Addr × Obj)} (B : Below A₀ base outer h₀) (F : Fr h₀ L s.heap m) (X : (K w.params).In h₀) (N : News h₀ L s.heap news) (T : Top vw loose mean mg mb h₀) (hkd : cs.kind = .function) (hdp : dp + 9 < recursionLimit) (hun : un + 60 < cLine)
    (hx : (x, instObj 182 dx) ∈ news) (hvt : (vt, ({ cls := .type "tuple", data := .seq [.int 65536 tv].toArray ve } : Obj)) ∈ news) (U : UpdF dx (rd w.params d td p tp k1 k2) news g) (hne : x ≠ dx) (hne2 : vt ≠ dx) (hks : KBw.bInts d = ks) (h0 : 0 ≤ p) (h1 : p + 4 ≤ ks.length) (hs : ks.length ≤ 1000)
    (hv : be4 ks p ≠ 65536) {base' : List (Addr × Obj)} (hsb : ∀ q ∈ base', q ∈ news ∧ q.1 ≠ dx)
    (raise : ∀ g e h' tk', Fr h₀ L g m → FltR w.params base g (envX cn cs L a ccd cl :: outer) e p base' h' → g.UpToSlots h' → E (.ref e) { s with heap := h', toks := tk' }) :
    wpAny (model prog w) (ktrTop dp un gd cn cs L a ccd cl outer) (call (.ref 235) [.ref x, .ref vt]) Q E s := by
  obtain ⟨rest, N, hr, hsub, -, hg⟩ := updF_open U N
  replace N := news_add N (hsub _ hvt hne2)
  replace N := news_add N (.tail _ (hsub _ hx hne))
  have hb : ∀ q ∈ base', q ∈ rest := fun q hq => hsub q (hsb q hq).1 (hsb q hq).2
  clear hsub hx hvt U
  (refine wpAny_call ?_; k_dflt cell_enter)
  k_steps
  all_goals first
    | (refine raise _ _ _ _ (by assumption) (FltR.sub (by assumption) (fun q hq => ?_)) (by assumption); exact .tail _ (.tail _ (.tail _ (hb q hq))))
    | (exfalso; simp_all; done)
theorem ver2_ok {d : Array UInt8} {ks : List Int} {x dx vt : Addr} {td tp k1 k2 tv tv2 : Tok} {p : Int} {ve : Nat} {g : Obj → List (Addr × Obj)} (B : Below A₀ base outer h₀) (F : Fr h₀ L s.heap m) (X : (K w.params).In h₀) (N : News h₀ L s.heap news) (T : Top vw loose mean mg mb h₀) (hkd : cs.kind = .function) (hdp : dp + 6 < recursionLimit) (hun : un + 40 < cLine)
    (hx : (x, instObj 182 dx) ∈ news) (hvt : (vt, ({ cls := .type "tuple", data := .seq [.int 20480 tv, .int 65536 tv2].toArray ve } : Obj)) ∈ news) (U : UpdF dx (rd w.params d td p tp k1 k2) news g) (hne : x ≠ dx) (hne2 : vt ≠ dx) (hks : KBw.bInts d = ks) (h0 : 0 ≤ p) (h1 : p + 4 ≤ ks.length) (hs : ks.length ≤ 1000)
    (hv : be4 ks p = 20480 ∨ be4 ks p = 65536)
    (ret : ∀ t tp' h' tk', Fr h₀ L h' m → News h₀ L h' (g (rd w.params d td (p + 4) tp' k1 k2)) → Q (.int (be4 ks p) t) { s with heap := h', toks := tk' }) :
    wpAny (model prog w) (ktrTop dp un gd cn cs L a ccd cl outer) (call (.ref 235) [.ref x, .ref vt]) Q E s := by
  obtain ⟨rest, N, hr, hsub, -, hg⟩ := updF_open U N
  replace N := news_add N (hsub _ hvt hne2)
  replace N := news_add N (.tail _ (hsub _ hx hne))
  clear hsub hx hvt U
  (refine wpAny_call ?_; k_dflt cell_enter)
  k_steps
  all_goals first
    | (exact ret _ _ _ _ (by assumption) (hg _ _ (news_cut (news_cut (by assumption)))))
    | (exfalso; exact in_ok hv (by assumption)) | (exfalso; exact in_ok hv (by simpa using ‹¬ _›)) | (exfalso; exact in_bad hv hv2 (by assumption))
theorem ver2_bad {d : Array UInt8} {ks : List Int} {x dx vt : Addr} {td tp k1 k2 tv tv2 : Tok} {p : Int} {ve : Nat} {g : Obj → List (Addr × Obj)} (B : Below A₀ base outer h₀) (F : Fr h₀ L s.heap m) (X : (K w.params).In h₀) (N : News h₀ L s.heap news) (T : Top vw loose mean mg mb h₀) (hkd : cs.kind = .function) (hdp : dp + 9 < recursionLimit) (hun : un + 60 < cLine)
    (hx : (x, instObj 182 dx) ∈ news) (hvt : (vt, ({ cls := .type "tuple", data := .seq [.int 20480 tv, .int 65536 tv2].toArray ve } : Obj)) ∈ news) (U : UpdF dx (rd w.params d td p tp k1 k2) news g) (hne : x ≠ dx) (hne2 : vt ≠ dx) (hks : KBw.bInts d = ks) (h0 : 0 ≤ p) (h1 : p + 4 ≤ ks.length) (hs : ks.length ≤ 1000)
    (hv : be4 ks p ≠ 20480) (hv2 : be4 ks p ≠ 65536) {base' : List (Addr × Obj)} (hsb : ∀ q ∈ base', q ∈ news ∧ q.1 ≠ dx)
    (raise : ∀ g e h' tk', Fr h₀ L g m → FltR w.params base g (envX cn cs L a ccd cl :: outer) e p base' h' → g.UpToSlots h' → E (.ref e) { s with heap := h', toks := tk' }) :
    wpAny (model prog w) (ktrTop dp un gd cn cs L a ccd cl outer) (call (.ref 235) [.ref x, .ref vt]) Q E s := by
  obtain ⟨rest, N, hr, hsub, -, hg⟩ := updF_open U N
  replace N := news_add N (hsub _ hvt hne2)
  replace N := news_add N (.tail _ (hsub _ hx hne))
  have hb : ∀ q ∈ base', q ∈ rest := fun q hq => hsub q (hsb q hq).1 (hsb q hq).2
  clear hsub hx hvt U
  (refine wpAny_call ?_; k_dflt cell_enter)
  k_steps
  all_goals first
    | (refine raise _ _ _ _ (by assumption) (FltR.sub (by assumption) (fun q hq => ?_)) (by assumption); exact .tail _ (.tail _ (.tail _ (hb q hq))))
    | (exfalso; exact in_ok hv (by assumption)) | (exfalso; exact in_ok hv (by simpa using ‹¬ _›)) | (exfalso; exact in_bad hv hv2 (by assumption))
end
local macro_rules | `(tactic| walk_at "call ref") => `(tactic| first | (k_here; (with_reducible show wpAny _ _ (call (Value.ref 235) _) _ _ _); k_dflt (refine' ver2_bad (by k_asm) (by k_asm) (by k_asm) (by k_asm) (by k_asm) (by walk_at "hk") (by walk_at "hr") (by walk_at "hr") (by k_mem) (by k_mem) (by k_updF) (by k_ne) (by k_ne) (by kba_ints) (by omega) (by omega) (by omega) (by assumption) (by assumption) (by exact fun q hq => ⟨.tail _ (.tail _ (.tail _ hq)), ltNe (by assumption) q hq⟩) ?_; k_whole); intro g' e' h' tk' F' R' U'; (try dsimp only)) | (k_here; (with_reducible show wpAny _ _ (call (Value.ref 235) _) _ _ _); k_dflt (refine' ver1_bad (by k_asm) (by k_asm) (by k_asm) (by k_asm) (by k_asm) (by walk_at "hk") (by walk_at "hr") (by walk_at "hr") (by k_mem) (by k_mem) (by k_updF) (by k_ne) (by k_ne) (by kba_ints) (by omega) (by omega) (by omega) (by assumption) (by exact fun q hq => ⟨.tail _ (.tail _ (.tail _ hq)), ltNe (by assumption) q hq⟩) ?_; k_whole); intro g' e' h' tk' F' R' U'; (try dsimp only)) | (k_here; (with_reducible show wpAny _ _ (call (Value.ref 235) _) _ _ _); k_dflt (refine' ver2_ok (by k_asm) (by k_asm) (by k_asm) (by k_asm) (by k_asm) (by walk_at "hk") (by walk_at "hr") (by walk_at "hr") (by k_mem) (by k_mem) (by k_updF) (by k_ne) (by k_ne) (by kba_ints) (by omega) (by omega) (by omega) (by assumption) ?_; k_whole); intro t' tp' h' tk' F' N'; walk_at "kend") | (k_here; (with_reducible show wpAny _ _ (call (Value.ref 235) _) _ _ _); k_dflt (refine' ver1_ok (by k_asm) (by k_asm) (by k_asm) (by k_asm) (by k_asm) (by walk_at "hk") (by walk_at "hr") (by walk_at "hr") (by k_mem) (by k_mem) (by k_updF) (by k_ne) (by k_ne) (by kba_ints) (by omega) (by omega) (by omega) (by assumption) ?_; k_whole); intro t' tp' h' tk' F' N'; walk_at "kend"))
theorem ltNe {d : Addr} {l : List (Addr × Obj)} (h : ∀ p ∈ l, p.1 < d) : ∀ p ∈ l, p.1 ≠ d := fun p hp => Nat.ne_of_lt (h p hp)
end
local macro_rules | `(tactic| walk_at "call ref") => `(tactic| first | (k_here; (with_reducible show wpAny _ _ (call (Value.ref 235) _) _ _ _); k_dflt (refine' ver2_bad (by k_asm) (by k_asm) (by k_asm) (by k_asm) (by k_asm) (by walk_at "hk") (by walk_at "hr") (by walk_at "hr") (by k_mem) (by k_mem) (by k_updF) (by k_ne) (by k_ne) (by kba_ints) (by omega) (by omega) (by omega) (by assumption) (by assumption) (by exact fun q hq => ⟨.tail _ (.tail _ (.tail _ hq)), ltNe (by assumption) q hq⟩) ?_; k_whole); intro g' e' h' tk' F' R' U'; (try dsimp only)) | (k_here; (with_reducible show wpAny _ _ (call (Value.ref 235) _) _ _ _); k_dflt (refine' ver1_bad (by k_asm) (by k_asm) (by k_asm) (by k_asm) (by k_asm) (by walk_at "hk") (by walk_at "hr") (by walk_at "hr") (by k_mem) (by k_mem) (by k_updF) (by k_ne) (by k_ne) (by kba_ints) (by omega) (by omega) (by omega) (by assumption) (by exact fun q hq => ⟨.tail _ (.tail _ (.tail _ hq)), ltNe (by assumption) q hq⟩) ?_; k_whole); intro g' e' h' tk' F' R' U'; (try dsimp only)) | (k_here; (with_reducible show wpAny _ _ (call (Value.ref 235) _) _ _ _); k_dflt (refine' ver2_ok (by k_asm) (by k_asm) (by k_asm) (by k_asm) (by k_asm) (by walk_at "hk") (by walk_at "hr") (by walk_at "hr") (by k_mem) (by k_mem) (by k_updF) (by k_ne) (by k_ne) (by kba_ints) (by omega) (by omega) (by omega) (by assumption) ?_; k_whole); intro t' tp' h' tk' F' N'; walk_at "kend") | (k_here; (with_reducible show wpAny _ _ (call (Value.ref 235) _) _ _ _); k_dflt (refine' ver1_ok (by k_asm) (by k_asm) (by k_asm) (by k_asm) (by k_asm) (by walk_at "hk") (by walk_at "hr") (by walk_at "hr") (by k_mem) (by k_mem) (by k_updF) (by k_ne) (by k_ne) (by kba_ints) (by omega) (by omega) (by omega) (by assumption) ?_; k_whole); intro t' tp' h' tk' F' N'; walk_at "kend"))
section
local macro_rules | `(tactic| walk_at "compareOp NotIn str ref") => `(tactic| (k_here; k_dflt (refine kdg_notin (knd := PySem.strKind _ _) (by k_asm) (by k_mem) (by k_asm) (by k_asm) (strKind_is _ _ _ _) true (by rfl) ?_); (try dsimp only [Bool.not_true, Bool.not_false])))
local macro_rules | `(tactic| walk_at "subscriptTail") => `(tactic| (k_here; (with_reducible show wpAny _ _ (subscriptTail _ _ (Value.ref _) (Value.str _ _)) _ _ _); k_dflt (refine kda_item (knd := PySem.strKind _ _) (by k_asm) (by k_mem) (by k_asm) (strKind_is _ _ _ _) (by rfl) ?_)))
section
variable {w : World} {loose : List Str} {mean : ExcName → Option Value} {mg mb : Str → Option Value}
    {dp un : Nat} {gd : Option (List Code)} {cn : Str} {cs : Scope} {a : Addr} {ccd : Value} {cl : List (Str × Addr)} {outer : List Env} {A₀ : Around} {base h₀ : Heap} {L : Addr} {m : Str → Option Value} {s : Shared} {Q E : Value → Shared → Prop}
    {news : List (Addr × Obj)}
theorem table_head {D : Addr} {o : Obj} {tg : Tok} {v0 v1 v2 v3 : Value} (B : Below A₀ base outer h₀) (F : Fr h₀ L s.heap m) (X : (K w.params).In h₀) (N : News h₀ L s.heap news) (T : Top vw loose mean mg mb h₀) (hkd : cs.kind = .function) (hdp : dp + 3 < recursionLimit) (hun : un + 20 < cLine)
    (hD : (D, o) ∈ news) (hlo : (D == sysModules) = false) (hd : o.IsDictOf (PySem.strKind prog w) [(Str.ofString "head", v0), (Str.ofString "hhea", v1), (Str.ofString "hmtx", v2), (Str.ofString "maxp", v3)])
    (ret : ∀ h' tk', Fr h₀ L h' m → News h₀ L h' news → Q v0 { s with heap := h', toks := tk' }) :
    wpAny (model prog w) (ktrTop dp un gd cn cs L a ccd cl outer) (call (.ref 228) [.ref D, .str (Str.ofString "head") tg]) Q E s := by
  (refine wpAny_call ?_; k_dflt cell_enter)
  k_steps
  exact ret _ _ (by assumption) (by assumption)
theorem table_hhea {D : Addr} {o : Obj} {tg : Tok} {v0 v1 v2 v3 : Value} (B : Below A₀ base outer h₀) (F : Fr h₀ L s.heap m) (X : (K w.params).In h₀) (N : News h₀ L s.heap news) (T : Top vw loose mean mg mb h₀) (hkd : cs.kind = .function) (hdp : dp + 3 < recursionLimit) (hun : un + 20 < cLine)
    (hD : (D, o) ∈ news) (hlo : (D == sysModules) = false) (hd : o.IsDictOf (PySem.strKind prog w) [(Str.ofString "head", v0), (Str.ofString "hhea", v1), (Str.ofString "hmtx", v2), (Str.ofString "maxp", v3)])
    (ret : ∀ h' tk', Fr h₀ L h' m → News h₀ L h' news → Q v1 { s with heap := h', toks := tk' }) :
    wpAny (model prog w) (ktrTop dp un gd cn cs L a ccd cl outer) (call (.ref 228) [.ref D, .str (Str.ofString "hhea") tg]) Q E s := by
  (refine wpAny_call ?_; k_dflt cell_enter)
  k_steps
  exact ret _ _ (by assumption) (by assumption)
theorem table_hmtx {D : Addr} {o : Obj} {tg : Tok} {v0 v1 v2 v3 : Value} (B : Below A₀ base outer h₀) (F : Fr h₀ L s.heap m) (X : (K w.params).In h₀) (N : News h₀ L s.heap news) (T : Top vw loose mean mg mb h₀) (hkd : cs.kind = .function) (hdp : dp + 3 < recursionLimit) (hun : un + 20 < cLine)
    (hD : (D, o) ∈ news) (hlo : (D == sysModules) = false) (hd : o.IsDictOf (PySem.strKind prog w) [(Str.ofString "head", v0), (Str.ofString "hhea", v1), (Str.ofString "hmtx", v2), (Str.ofString "maxp", v3)])
    (ret : ∀ h' tk', Fr h₀ L h' m → News h₀ L h' news → Q v2 { s with heap := h', toks := tk' }) :
    wpAny (model prog w) (ktrTop dp un gd cn cs L a ccd cl outer) (call (.ref 228) [.ref D, .str (Str.ofString "hmtx") tg]) Q E s := by
  (refine wpAny_call ?_; k_dflt cell_enter)
  k_steps
  exact ret _ _ (by assumption) (by assumption)
theorem table_maxp {D : Addr} {o : Obj} {tg : Tok} {v0 v1 v2 v3 : Value} (B : Below A₀ base outer h₀) (F : Fr h₀ L s.heap m) (X : (K w.params).In h₀) (N : News h₀ L s.heap news) (T : Top vw loose mean mg mb h₀) (hkd : cs.kind = .function) (hdp : dp + 3 < recursionLimit) (hun : un + 20 < cLine)
    (hD : (D, o) ∈ news) (hlo : (D == sysModules) = false) (hd : o.IsDictOf (PySem.strKind prog w) [(Str.ofString "head", v0), (Str.ofString "hhea", v1), (Str.ofString "hmtx", v2), (Str.ofString "maxp", v3)])
    (ret : ∀ h' tk', Fr h₀ L h' m → News h₀ L h' news → Q v3 { s with heap := h', toks := tk' }) :
    wpAny (model prog w) (ktrTop dp un gd cn cs L a ccd cl outer) (call (.ref 228) [.ref D, .str (Str.ofString "maxp") tg]) Q E s := by
  (refine wpAny_call ?_; k_dflt cell_enter)
  k_steps
  exact ret _ _ (by assumption) (by assumption)
end
end
local macro_rules | `(tactic| walk_at "call ref") => `(tactic| first | (k_here; (with_reducible show wpAny _ _ (call (Value.ref 228) _) _ _ _); k_dflt (refine' table_maxp (by k_asm) (by k_asm) (by k_asm) (by k_asm) (by k_asm) (by walk_at "hk") (by walk_at "hr") (by walk_at "hr") (by k_mem) (by k_asm) (by k_asm) ?_; k_whole); intro h' tk' F' N'; walk_at "kend") | (k_here; (with_reducible show wpAny _ _ (call (Value.ref 228) _) _ _ _); k_dflt (refine' table_hmtx (by k_asm) (by k_asm) (by k_asm) (by k_asm) (by k_asm) (by walk_at "hk") (by walk_at "hr") (by walk_at "hr") (by k_mem) (by k_asm) (by k_asm) ?_; k_whole); intro h' tk' F' N'; walk_at "kend") | (k_here; (with_reducible show wpAny _ _ (call (Value.ref 228) _) _ _ _); k_dflt (refine' table_hhea (by k_asm) (by k_asm) (by k_asm) (by k_asm) (by k_asm) (by walk_at "hk") (by walk_at "hr") (by walk_at "hr") (by k_mem) (by k_asm) (by k_asm) ?_; k_whole); intro h' tk' F' N'; walk_at "kend") | (k_here; (with_reducible show wpAny _ _ (call (Value.ref 228) _) _ _ _); k_dflt (refine' table_head (by k_asm) (by k_asm) (by k_asm) (by k_asm) (by k_asm) (by walk_at "hk") (by walk_at "hr") (by walk_at "hr") (by k_mem) (by k_asm) (by k_asm) ?_; k_whole); intro h' tk' F' N'; walk_at "kend"))
section
local macro_rules | `(tactic| k_all) => `(tactic| assumption)
section
variable {w : World} {loose : List Str} {mean : ExcName → Option Value} {mg mb : Str → Option Value}
    {dp un : Nat} {gd : Option (List Code)} {cn : Str} {cs : Scope} {a : Addr} {ccd : Value} {cl : List (Str × Addr)} {outer : List Env} {A₀ : Around} {base h₀ : Heap} {L : Addr} {m : Str → Option Value} {s : Shared} {Q E : Value → Shared → Prop}
    {news : List (Addr × Obj)}
theorem units_ok {d : Array UInt8} {ks : List Int} {td : Tok} (B : Below A₀ base outer h₀) (F : Fr h₀ L s.heap m) (X : (K w.params).In h₀) (N : News h₀ L s.heap news) (T : Top vw loose mean mg mb h₀) (hkd : cs.kind = .function) (hdp : dp + 7 < recursionLimit) (hun : un + 46 < cLine)
    (hks : KBw.bInts d = ks) (hl : ks.length = 54) (hv : be4 ks 0 = 65536) (hm : be4 ks 12 = 1594834165) (h1 : 16 ≤ be2 ks 18) (h2 : be2 ks 18 ≤ 16384)
    (ret : ∀ t h' tk', Fr h₀ L h' m → News h₀ L h' news → Q (.int (be2 ks 18) t) { s with heap := h', toks := tk' }) :
    wpAny (model prog w) (ktrTop dp un gd cn cs L a ccd cl outer) (call (.ref 242) [.bytes d td]) Q E s := by
  (refine wpAny_call ?_; k_dflt cell_enter)
  k_steps
  all_goals first
    | exact ret _ _ _ (by assumption) (news_sub (by assumption) fun q hq => .tail _ (.tail _ (.tail _ (.tail _ (.tail _ (.tail _ (.tail _ hq)))))))
    | exact absurd (by assumption) (by assumption : ¬ _)
    | (exfalso; omega)
theorem units_bad0 {d : Array UInt8} {ks : List Int} {td : Tok} (B : Below A₀ base outer h₀) (F : Fr h₀ L s.heap m) (X : (K w.params).In h₀) (N : News h₀ L s.heap news) (T : Top vw loose mean mg mb h₀) (hkd : cs.kind = .function) (hdp : dp + 10 < recursionLimit) (hun : un + 66 < cLine)
    (hks : KBw.bInts d = ks) (hl : ks.length = 54) (hv : be4 ks 0 ≠ 65536)
    (raise : ∀ g e h' tk', Fr h₀ L g m → FltR w.params base g (envX cn cs L a ccd cl :: outer) e 0 news h' → g.UpToSlots h' → E (.ref e) { s with heap := h', toks := tk' }) :
    wpAny (model prog w) (ktrTop dp un gd cn cs L a ccd cl outer) (call (.ref 242) [.bytes d td]) Q E s := by
  (refine wpAny_call ?_; k_dflt cell_enter)
  k_steps
  all_goals first
    | exact raise _ _ _ _ (by assumption) (by assumption) (by assumption)
    | exact raise _ _ _ _ (by assumption) (by assumption) (by assumption)
    | exact absurd (by assumption) (by assumption : ¬ _)
    | (exfalso; omega)
theorem units_bad12 {d : Array UInt8} {ks : List Int} {td : Tok} (B : Below A₀ base outer h₀) (F : Fr h₀ L s.heap m) (X : (K w.params).In h₀) (N : News h₀ L s.heap news) (T : Top vw loose mean mg mb h₀) (hkd : cs.kind = .function) (hdp : dp + 10 < recursionLimit) (hun : un + 66 < cLine)
    (hks : KBw.bInts d = ks) (hl : ks.length = 54) (hv : be4 ks 0 = 65536) (hm : be4 ks 12 ≠ 1594834165)
    (raise : ∀ g e h' tk', Fr h₀ L g m → FltR w.params base g (envX cn cs L a ccd cl :: outer) e 12 news h' → g.UpToSlots h' → E (.ref e) { s with heap := h', toks := tk' }) :
    wpAny (model prog w) (ktrTop dp un gd cn cs L a ccd cl outer) (call (.ref 242) [.bytes d td]) Q E s := by
  (refine wpAny_call ?_; k_dflt cell_enter)
  k_steps
  all_goals first
    | exact raise _ _ _ _ (by assumption) (by assumption) (by assumption)
    | exact raise _ _ _ _ (by assumption) (by assumption) (by assumption)
    | exact raise _ _ _ _ (by assumption) (FltR.sub (by assumption) fun q hq => .tail _ (.tail _ (.tail _ (.tail _ (.tail _ hq))))) (by assumption)
    | exact absurd (by assumption) (by assumption : ¬ _)
    | (exfalso; omega)
theorem units_bad18 {d : Array UInt8} {ks : List Int} {td : Tok} (B : Below A₀ base outer h₀) (F : Fr h₀ L s.heap m) (X : (K w.params).In h₀) (N : News h₀ L s.heap news) (T : Top vw loose mean mg mb h₀) (hkd : cs.kind = .function) (hdp : dp + 10 < recursionLimit) (hun : un + 66 < cLine)
    (hks : KBw.bInts d = ks) (hl : ks.length = 54) (hv : be4 ks 0 = 65536) (hm : be4 ks 12 = 1594834165) (h1 : ¬ (16 ≤ be2 ks 18 ∧ be2 ks 18 ≤ 16384))
    (raise : ∀ g e h' tk', Fr h₀ L g m → FltR w.params base g (envX cn cs L a ccd cl :: outer) e 18 news h' → g.UpToSlots h' → E (.ref e) { s with heap := h', toks := tk' }) :
    wpAny (model prog w) (ktrTop dp un gd cn cs L a ccd cl outer) (call (.ref 242) [.bytes d td]) Q E s := by
  (refine wpAny_call ?_; k_dflt cell_enter)
  k_steps
  all_goals first
    | exact raise _ _ _ _ (by assumption) (by assumption) (by assumption)
    | exact raise _ _ _ _ (by assumption) (by assumption) (by assumption)
    | exact raise _ _ _ _ (by assumption) (FltR.sub (by assumption) fun q hq => .tail _ (.tail _ (.tail _ (.tail _ (.tail _ (.tail _ (.tail _ hq))))))) (by assumption)
    | exact absurd (by assumption) (by assumption : ¬ _)
    | (exfalso; omega)
end
end
local macro_rules | `(tactic| walk_at "call ref") => `(tactic| first | (k_here; (with_reducible show wpAny _ _ (call (Value.ref 242) _) _ _ _); k_dflt (refine' units_bad18 (by k_asm) (by k_asm) (by k_asm) (by k_asm) (by k_asm) (by walk_at "hk") (by walk_at "hr") (by walk_at "hr") (by kba_ints) (by assumption) (by assumption) (by assumption) (by assumption) ?_; k_whole); intro g' e' h' tk' F' R' U'; (try dsimp only)) | (k_here; (with_reducible show wpAny _ _ (call (Value.ref 242) _) _ _ _); k_dflt (refine' units_bad12 (by k_asm) (by k_asm) (by k_asm) (by k_asm) (by k_asm) (by walk_at "hk") (by walk_at "hr") (by walk_at "hr") (by kba_ints) (by assumption) (by assumption) (by assumption) ?_; k_whole); intro g' e' h' tk' F' R' U'; (try dsimp only)) | (k_here; (with_reducible show wpAny _ _ (call (Value.ref 242) _) _ _ _); k_dflt (refine' units_bad0 (by k_asm) (by k_asm) (by k_asm) (by k_asm) (by k_asm) (by walk_at "hk") (by walk_at "hr") (by walk_at "hr") (by kba_ints) (by assumption) (by assumption) ?_; k_whole); intro g' e' h' tk' F' R' U'; (try dsimp only)) | (k_here; (with_reducible show wpAny _ _ (call (Value.ref 242) _) _ _ _); k_dflt (refine' units_ok (by k_asm) (by k_asm) (by k_asm) (by k_asm) (by k_asm) (by walk_at "hk") (by walk_at "hr") (by walk_at "hr") (by kba_ints) (by assumption) (by assumption) (by assumption) (by assumption) (by assumption) ?_; k_whole); intro t' h' tk' F' N'; walk_at "kend"))
section
local macro_rules | `(tactic| k_all) => `(tactic| assumption)
theorem news_keep1 {h₀ h : Heap} {L : Addr} {a : Addr × Obj} {news news' : List (Addr × Obj)} (N : News h₀ L h (a :: news')) (hs : ∀ p ∈ news, p ∈ a :: news') : News h₀ L h (a :: news) := fun p hp => by
  rcases List.mem_cons.mp hp with rfl | hp
  · exact N _ (.head _)
  · exact N p (hs p hp)
section
variable {w : World} {loose : List Str} {mean : ExcName → Option Value} {mg mb : Str → Option Value}
    {dp un : Nat} {gd : Option (List Code)} {cn : Str} {cs : Scope} {a : Addr} {ccd : Value} {cl : List (Str × Addr)} {outer : List Env} {A₀ : Around} {base h₀ : Heap} {L : Addr} {m : Str → Option Value} {s : Shared} {Q E : Value → Shared → Prop}
    {news : List (Addr × Obj)}
theorem lines_ok {d : Array UInt8} {ks : List Int} {td : Tok} (B : Below A₀ base outer h₀) (F : Fr h₀ L s.heap m) (X : (K w.params).In h₀) (N : News h₀ L s.heap news) (T : Top vw loose mean mg mb h₀) (hkd : cs.kind = .function) (hdp : dp + 7 < recursionLimit) (hun : un + 46 < cLine)
    (hks : KBw.bInts d = ks) (hl : ks.length = 36) (hv : be4 ks 0 = 65536) (hm : be2 ks 32 = 0)
    (ret : ∀ x t1 t2 t3 h' tk', Fr h₀ L h' m → News h₀ L h' ((x, tupo [.int (sg (be2 ks 4)) t1, .int (sg (be2 ks 6)) t2, .int (be2 ks 34) t3]) :: news) → (∀ q ∈ news, q.1 < x) → Q (.ref x) { s with heap := h', toks := tk' }) :
    wpAny (model prog w) (ktrTop dp un gd cn cs L a ccd cl outer) (call (.ref 249) [.bytes d td]) Q E s := by
  (refine wpAny_call ?_; k_dflt cell_enter)
  k_steps
  all_goals first
    | exact ret _ _ _ _ _ _ (by assumption) (news_keep1 (by assumption) fun q hq => .tail _ (.tail _ (.tail _ (.tail _ (.tail _ (.tail _ (.tail _ (.tail _ hq)))))))) (by first | assumption | exact allLtM (by assumption) | (intro q hq; exact allLtM (And.right (And.right (And.right (And.right (And.right (And.right (And.right (by assumption)))))))) q hq))
    | exact absurd hm (by assumption)
theorem lines_bad {d : Array UInt8} {ks : List Int} {td : Tok} (B : Below A₀ base outer h₀) (F : Fr h₀ L s.heap m) (X : (K w.params).In h₀) (N : News h₀ L s.heap news) (T : Top vw loose mean mg mb h₀) (hkd : cs.kind = .function) (hdp : dp + 10 < recursionLimit) (hun : un + 66 < cLine)
    (hks : KBw.bInts d = ks) (hl : ks.length = 36) (hv : be4 ks 0 = 65536) (hm : be2 ks 32 ≠ 0)
    (raise : ∀ g e h' tk', Fr h₀ L g m → FltR w.params base g (envX cn cs L a ccd cl :: outer) e 32 news h' → g.UpToSlots h' → E (.ref e) { s with heap := h', toks := tk' }) :
    wpAny (model prog w) (ktrTop dp un gd cn cs L a ccd cl outer) (call (.ref 249) [.bytes d td]) Q E s := by
  (refine wpAny_call ?_; k_dflt cell_enter)
  k_steps
  all_goals first
    | exact raise _ _ _ _ (by assumption) (by assumption) (by assumption)
    | exact raise _ _ _ _ (by assumption) (FltR.sub (by assumption) fun q hq => .tail _ (.tail _ (.tail _ (.tail _ (.tail _ hq))))) (by assumption)
    | exact absurd (by assumption) (by assumption : ¬ _)
    | (exfalso; omega)
theorem count_ok {d : Array UInt8} {ks : List Int} {td : Tok} (B : Below A₀ base outer h₀) (F : Fr h₀ L s.heap m) (X : (K w.params).In h₀) (N : News h₀ L s.heap news) (T : Top vw loose mean mg mb h₀) (hkd : cs.kind = .function) (hdp : dp + 7 < recursionLimit) (hun : un + 46 < cLine)
    (hks : KBw.bInts d = ks) (hl : 6 ≤ ks.length) (hs : ks.length ≤ 1000) (hv : be4 ks 0 = 20480 ∨ be4 ks 0 = 65536) (hv2 : be4 ks 0 = 65536 → 32 ≤ ks.length) (hm : be2 ks 4 ≠ 0)
    (ret : ∀ t h' tk', Fr h₀ L h' m → News h₀ L h' news → Q (.int (be2 ks 4) t) { s with heap := h', toks := tk' }) :
    wpAny (model prog w) (ktrTop dp un gd cn cs L a ccd cl outer) (call (.ref 256) [.bytes d td]) Q E s := by
  (refine wpAny_call ?_; k_dflt cell_enter)
  k_steps
  all_goals first
    | exact ret _ _ _ (by assumption) (news_sub (by assumption) fun q hq => .tail _ (.tail _ (.tail _ (.tail _ (.tail _ hq)))))
    | exact absurd ‹be2 ks (0 + 4) = 0› hm
    | exact absurd (by assumption) (by assumption : ¬ _)
    | (exfalso; omega)
theorem count_bad {d : Array UInt8} {ks : List Int} {td : Tok} (B : Below A₀ base outer h₀) (F : Fr h₀ L s.heap m) (X : (K w.params).In h₀) (N : News h₀ L s.heap news) (T : Top vw loose mean mg mb h₀) (hkd : cs.kind = .function) (hdp : dp + 10 < recursionLimit) (hun : un + 66 < cLine)
    (hks : KBw.bInts d = ks) (hl : 6 ≤ ks.length) (hs : ks.length ≤ 1000) (hv : be4 ks 0 ≠ 20480) (hv2 : be4 ks 0 ≠ 65536)
    (raise : ∀ g e h' tk', Fr h₀ L g m → FltR w.params base g (envX cn cs L a ccd cl :: outer) e 0 news h' → g.UpToSlots h' → E (.ref e) { s with heap := h', toks := tk' }) :
    wpAny (model prog w) (ktrTop dp un gd cn cs L a ccd cl outer) (call (.ref 256) [.bytes d td]) Q E s := by
  (refine wpAny_call ?_; k_dflt cell_enter)
  k_steps
  all_goals first
    | exact raise _ _ _ _ (by assumption) (by assumption) (by assumption)
    | exact absurd (by assumption) (by assumption : ¬ _)
    | (exfalso; omega)
end
end
local macro_rules | `(tactic| walk_at "call ref") => `(tactic| first | (k_here; (with_reducible show wpAny _ _ (call (Value.ref 256) _) _ _ _); k_dflt (refine' count_bad (by k_asm) (by k_asm) (by k_asm) (by k_asm) (by k_asm) (by walk_at "hk") (by walk_at "hr") (by walk_at "hr") (by kba_ints) (by assumption) (by assumption) (by assumption) (by assumption) ?_; k_whole); intro g' e' h' tk' F' R' U'; (try dsimp only)) | (k_here; (with_reducible show wpAny _ _ (call (Value.ref 256) _) _ _ _); k_dflt (refine' count_ok (by k_asm) (by k_asm) (by k_asm) (by k_asm) (by k_asm) (by walk_at "hk") (by walk_at "hr") (by walk_at "hr") (by kba_ints) (by assumption) (by assumption) (by assumption) (by assumption) (by assumption) ?_; k_whole); intro t' h' tk' F' N'; walk_at "kend") | (k_here; (with_reducible show wpAny _ _ (call (Value.ref 249) _) _ _ _); k_dflt (refine' lines_bad (by k_asm) (by k_asm) (by k_asm) (by k_asm) (by k_asm) (by walk_at "hk") (by walk_at "hr") (by walk_at "hr") (by kba_ints) (by assumption) (by assumption) (by assumption) ?_; k_whole); intro g' e' h' tk' F' R' U'; (try dsimp only)) | (k_here; (with_reducible show wpAny _ _ (call (Value.ref 249) _) _ _ _); k_dflt (refine' lines_ok (by k_asm) (by k_asm) (by k_asm) (by k_asm) (by k_asm) (by walk_at "hk") (by walk_at "hr") (by walk_at "hr") (by kba_ints) (by assumption) (by assumption) (by assumption) ?_; k_whole); intro x' t1' t2' t3' h' tk' F' N' l1'; (try k_lt l1'); walk_at "kend"))
section
abbrev wled (P : Params) (d : Array UInt8) (td : Tok) (k1 k2 : Tok) (x dx W Lf : Addr) (tl : List (Addr × Obj)) (p : Int) (tp : Tok) (vs : Array Value) (nv : Nat) (ws : Array Value) (nw : Nat) : List (Addr × Obj) :=
  (Lf, PySem.W.listOf ws nw) :: (W, PySem.W.listOf vs nv) :: (x, instObj 182 dx) :: (dx, rd P d td p tp k1 k2) :: tl
def WNext (h₀ : Heap) (L : Addr) (xn : Str) (m₀ : Str → Option Value) (P : Params) (d : Array UInt8) (td : Tok) (k1 k2 : Tok) (x dx W Lf : Addr) (tl : List (Addr × Obj)) (p : Int) (As Bs : List Int) (gp : Prop) (s : Shared) (f : Flow) (s' : Shared) : Prop :=
  f = .next ∧ ∃ h' tk u tp vs nv ws nw, s' = { s with heap := h', toks := tk } ∧ Fr h₀ L h' (fun y => if y = xn then u else m₀ y) ∧ News h₀ L h' (wled P d td k1 k2 x dx W Lf tl p tp vs nv ws nw) ∧ IntsAre vs.toList As ∧ IntsAre ws.toList Bs ∧ gp
section
variable {prog : Program} {w : World} {A : Around} {E : Value → Shared → Prop} {s : Shared} {env : Env} {h₀ : Heap} {xn : Str} {body : List Stmt} {Q : Flow → Shared → Prop}
theorem wid_loop {r : Addr} {a₀ b₀ : Int} {t₀ u₀ v₀ : Tok} {n : Nat} {m₀ : Str → Option Value} {news : List (Addr × Obj)} {P : Params} {d : Array UInt8} {td : Tok} {k1 k2 tp₀ : Tok} {x dx W Lf : Addr} {p₀ : Int} {vs₀ ws₀ : Array Value} {nv₀ nw₀ : Nat}
    (pos : Nat → Int) (As Bs : Nat → List Int) (G : Nat → Prop)
    (hh : A.handled = none) (hr : IsRange s.heap r a₀ b₀ 1 t₀ u₀ v₀) (hsmall : Builtin.Range.small a₀ b₀ 1 = true) (hn : Builtin.Range.rangeSize a₀ b₀ 1 = (n : Int)) (F : Fr h₀ env.locals s.heap m₀)
    (N : News h₀ env.locals s.heap (wled P d td k1 k2 x dx W Lf news p₀ tp₀ vs₀ nv₀ ws₀ nw₀)) (hp : p₀ = pos 0) (hv : IntsAre vs₀.toList (As 0)) (hw : IntsAre ws₀.toList (Bs 0)) (hg : G 0) (nW : ∀ p ∈ news, p.1 ≠ W) (nL : ∀ p ∈ news, p.1 ≠ Lf) (nd : ∀ p ∈ news, p.1 ≠ dx)
    (turn : ∀ i k t tp vs nv ws nw h tk tl, i < n → k = a₀ + (i : Int) → IntsAre vs.toList (As i) → IntsAre ws.toList (Bs i) → G i → (∀ p ∈ news, p ∈ tl) → (∀ p ∈ tl, p.1 ≠ W) → (∀ p ∈ tl, p.1 ≠ Lf) → (∀ p ∈ tl, p.1 ≠ dx) →
      Fr h₀ env.locals h (fun y => if y = xn then some (.int k t) else m₀ y) → News h₀ env.locals h (wled P d td k1 k2 x dx W Lf tl (pos i) tp vs nv ws nw) →
      wpAny (model prog w) A (execs body env) (WNext h₀ env.locals xn m₀ P d td k1 k2 x dx W Lf tl (pos (i + 1)) (As (i + 1)) (Bs (i + 1)) (G (i + 1)) { s with heap := h, toks := tk }) E { s with heap := h, toks := tk })
    (done : ∀ u tp vs nv ws nw h tk, IntsAre vs.toList (As n) → IntsAre ws.toList (Bs n) → G n → Fr h₀ env.locals h (fun y => if y = xn then u else m₀ y) → News h₀ env.locals h (wled P d td k1 k2 x dx W Lf news (pos n) tp vs nv ws nw) → Q .next { s with heap := h, toks := tk }) :
    wpAny (model prog w) A (pyIter (.ref r)) (fun it s₂ => LoopAtV prog w A h₀ env xn body Q E it s₂) E s := by
  subst hp
  refine tbr_invG (fun i m nx => ∃ u tp vs nv ws nw, m = (fun y => if y = xn then u else m₀ y) ∧ nx = wled P d td k1 k2 x dx W Lf news (pos i) tp vs nv ws nw ∧ IntsAre vs.toList (As i) ∧ IntsAre ws.toList (Bs i) ∧ G i) hh hr hsmall hn F N
    ⟨m₀ xn, tp₀, vs₀, nv₀, ws₀, nw₀, funext fun y => by split <;> simp_all, rfl, hv, hw, hg⟩ ?_ ?_
  · rintro i k t m₁ nx h tk own hk hoff ⟨u, tp, vs, nv, ws, nw, rfl, rfl, hv, hw, hg⟩ F₁ N₁
    have hi : i < n := by
      rcases Nat.lt_or_ge i n with hi | hi
      · exact hi
      · rw [List.getElem?_eq_none (by rw [rangeKs_length]; exact hi)] at hk
        cases hk
    have hk' : k = a₀ + (i : Int) := by simp [rangeKs, hi] at hk; exact hk.symm
    have e : (fun y => if y = xn then some (.int k t) else (fun y => if y = xn then u else m₀ y) y) = fun y => if y = xn then some (.int k t) else m₀ y := funext fun y => by
      dsimp only
      split
      · rfl
      · rfl
    rw [e] at F₁
    have ow : ∀ (b : Addr × Obj), b ∈ wled P d td k1 k2 x dx W Lf news (pos i) tp vs nv ws nw → ∀ p ∈ own, p.1 ≠ b.1 := fun b hb p hp => hoff p hp b hb
    refine wpAny_mono (turn i k t tp vs nv ws nw h tk (news ++ own) hi hk' hv hw hg (fun p hp => List.mem_append_left _ hp) (fun p hp => (List.mem_append.mp hp).elim (nW p) (ow _ (.tail _ (.head _)) p)) (fun p hp => (List.mem_append.mp hp).elim (nL p) (ow _ (.head _) p))
      (fun p hp => (List.mem_append.mp hp).elim (nd p) (ow _ (.tail _ (.tail _ (.tail _ (.head _)))) p)) F₁ N₁) (fun f s' hq => ?_) fun _ _ e => e
    obtain ⟨rfl, h', tk', u', tp', vs', nv', ws', nw', rfl, F₂, N₂, hv', hw', hg'⟩ := hq
    refine ⟨h', tk', _, _, wled P d td k1 k2 x dx W Lf news (pos (i + 1)) tp' vs' nv' ws' nw', rfl, F₂, N₂, fun q hq => ?_, fun q hq => ?_, fun q hq b hb => ?_, u', tp', vs', nv', ws', nw', rfl, rfl, hv', hw', hg'⟩
    · exact List.mem_append_left own hq
    · exact List.mem_append_right (wled P d td k1 k2 x dx W Lf news (pos (i + 1)) tp' vs' nv' ws' nw') hq
    · rcases List.mem_cons.mp hb with rfl | hb
      · exact (hoff q hq (Lf, PySem.W.listOf ws nw) (.head _) :)
      · rcases List.mem_cons.mp hb with rfl | hb
        · exact (hoff q hq (W, PySem.W.listOf vs nv) (.tail _ (.head _)) :)
        · rcases List.mem_cons.mp hb with rfl | hb
          · exact hoff q hq _ (.tail _ (.tail _ (.head _)))
          · rcases List.mem_cons.mp hb with rfl | hb
            · exact (hoff q hq (dx, rd P d td (pos i) tp k1 k2) (.tail _ (.tail _ (.tail _ (.head _)))) :)
            · exact hoff q hq _ (.tail _ (.tail _ (.tail _ (.tail _ hb))))
  · rintro m₁ nx h tk ⟨u, tp, vs, nv, ws, nw, rfl, rfl, hv, hw, hg⟩ F₁ N₁
    exact done u tp vs nv ws nw h tk hv hw hg F₁ N₁
theorem news_pos {P : Params} {d : Array UInt8} {td k1 k2 tp : Tok} {x dx W Lf L : Addr} {tl : List (Addr × Obj)} {p p' : Int} {vs ws : Array Value} {nv nw : Nat} {h : Heap} (N : News h₀ L h (wled P d td k1 k2 x dx W Lf tl p tp vs nv ws nw)) (e : p = p') : News h₀ L h (wled P d td k1 k2 x dx W Lf tl p' tp vs nv ws nw) := e ▸ N
theorem ints_push {vs : Array Value} {ns : List Int} {k : Int} {t : Tok} (h : IntsAre vs.toList ns) : IntsAre (vs.push (.int k t)).toList (ns ++ [k]) := by
  rw [Array.toList_push]
  exact h.append (.cons _ _ .nil)
theorem item_back {value slice : PySem.Expr} {news : List (Addr × Obj)} {l L : Addr} {its : Array Value} {ns : List Int} {n : Nat} {u : Tok} {x : Int} {Q : Value → Shared → Prop} (N : News h₀ L s.heap news) (hm : (l, PySem.W.listOf its n) ∈ news) (hi : IntsAre its.toList ns) (hx : ns.getLast? = some x)
    (h : ∀ t, Q (.int x t) s) (hs : subscripted slice false (.ref l) (.int (-1) u) = operate [.ref l, .int (-1) u] (getItem (.ref l) (.int (-1) u)) := by with_unfolding_all rfl) :
    wpAny (model prog w) A (subscriptTail value slice (.ref l) (.int (-1) u)) Q E s := by
  have hl : s.heap.IsList l its := ⟨_, (N _ hm).1, rfl, n, rfl⟩
  have len := hi.length
  have hpos : 0 < ns.length := by cases ns with
    | nil => simp at hx
    | cons => simp
  have hv : ∃ t, its[its.size - 1]? = some (.int x t) := by
    have e : ns[ns.length - 1]? = some x := by rw [← List.getLast?_eq_getElem?]; exact hx
    have hlt : its.size - 1 < its.toList.length := by rw [Array.length_toList]; rw [Array.length_toList] at len; omega
    obtain ⟨n', t, e1, e2⟩ := hi.at (its.size - 1) _ (List.getElem?_eq_getElem hlt)
    have : ns.length - 1 = its.size - 1 := by rw [Array.length_toList] at len; omega
    rw [this, e2] at e
    cases e
    refine ⟨t, ?_⟩
    rw [← Array.getElem?_toList, List.getElem?_eq_getElem hlt, e1]
  obtain ⟨t, hv⟩ := hv
  have hsz : 0 < its.size := by rw [Array.length_toList] at len; omega
  refine tail_any hl.typeIs slot_list_getitem.lookup (wpAny_getItem_list_neg hl (by decide) (by omega) (by decide) ?_ (h t)) hs
  have : ((-1 : Int) + its.size).toNat = its.size - 1 := by omega
  rw [this]
  exact hv
end
end

section
theorem ne_cons {a D : Addr} {o : Obj} {tl : List (Addr × Obj)} (h : a ≠ D) (t : ∀ p ∈ tl, p.1 ≠ D) : ∀ p ∈ (a, o) :: tl, p.1 ≠ D := fun p hp => by
  rcases List.mem_cons.mp hp with rfl | hp
  · exact h
  · exact t p hp
local macro_rules | `(tactic| k_all) => `(tactic| (refine ne_cons ?a ?b; (case a => k_ne); (case b => k_all)))
local macro_rules | `(tactic| k_all) => `(tactic| assumption)
def Halt (p : Prop) : Prop := p
theorem halt {p : Prop} (h : Halt p) : p := h
local macro_rules | `(tactic| walk_at "pyIter ref") => `(tactic| ((with_reducible show wpAny _ _ (pyIter (Value.ref _)) (fun it s₂ => LoopAtV _ _ _ _ _ _ _ _ _ it s₂) _ _); k_here; refine halt ?_))
local macro_rules | `(tactic| walk_at "exec For Name Call cons nil") => `(tactic| (k_here; (rename Fr _ _ _ _ => lF'); (with_unfolding_all refine' For_invVF lF' ?k1 ?k2 ?_; (case k1 => exact rfl); (case k2 => exact rfl); k_whole)))
local macro_rules | `(tactic| walk_at "call builtin:list.append") => `(tactic| (k_here; k_dflt (refine' append_K ?k1 ?k2 ?k3 ?_ ?z; (case k1 => k_asm); (case k2 => k_asm); (case k3 => k_upd); (case z => size_fits); k_whole); intro h' F' N'; (try k_sweep)))
local macro_rules | `(tactic| size_fits) => `(tactic| (rw [PySem.sizeLine_eq]; omega))
local macro_rules | `(tactic| walk_at "subscriptTail Name UnaryOp ref int") => `(tactic| (k_here; k_dflt (refine item_back (by k_asm) (by k_mem) (by with_reducible assumption) (by with_reducible assumption) ?_); intro _))
def tabs (l : List Int) (f : Nat → Int) : Nat → List Int
  | 0 => l
  | i + 1 => tabs l f i ++ [f i]
theorem tabs_len {l : List Int} {f : Nat → Int} : ∀ {i : Nat}, (tabs l f i).length = l.length + i
  | 0 => rfl
  | i + 1 => by show (tabs l f i ++ [f i]).length = _; rw [List.length_append, tabs_len]; simp; omega
theorem tabs_size {l : List Int} {f : Nat → Int} {i : Nat} {vs : Array Value} (h : IntsAre vs.toList (tabs l f i)) : vs.size = l.length + i := by
  rw [← Array.length_toList, h.length, tabs_len]
def adv1 (ks : List Int) (mn : Nat) : List Int := tabs [] (fun j => be2 ks (4 * (j : Int))) mn
def ber1 (ks : List Int) (mn : Nat) : List Int := tabs [] (fun j => sg (be2 ks (4 * (j : Int) + 2))) mn
def advs (ks : List Int) (mn cn : Nat) : List Int := tabs (adv1 ks mn) (fun _ => be2 ks (4 * ((mn : Int) - 1))) (cn - mn)
def bers (ks : List Int) (mn cn : Nat) : List Int := tabs (ber1 ks mn) (fun j => sg (be2 ks (4 * (mn : Int) + 2 * (j : Int)))) (cn - mn)
theorem tabs_last {l : List Int} {f : Nat → Int} {x : Int} (h : l.getLast? = some x) (hf : ∀ j, f j = x) : ∀ i, (tabs l f i).getLast? = some x
  | 0 => h
  | i + 1 => by show (tabs l f i ++ [f i]).getLast? = _; rw [List.getLast?_append, hf]; rfl
theorem adv1_last {ks : List Int} {mn : Nat} (h : 1 ≤ mn) : (adv1 ks mn).getLast? = some (be2 ks (4 * ((mn : Int) - 1))) := by
  obtain ⟨k, rfl⟩ : ∃ k, mn = k + 1 := ⟨mn - 1, by omega⟩
  show (adv1 ks k ++ [be2 ks (4 * (k : Int))]).getLast? = _
  rw [List.getLast?_append]
  have : ((k + 1 : Nat) : Int) - 1 = k := by omega
  rw [this]
  rfl
theorem mem3 {α : Type} {a b c d e q : α} {l : List α} (h : q ∈ a :: b :: c :: l) : q ∈ a :: b :: c :: d :: e :: l := by
  rcases List.mem_cons.mp h with rfl | h
  · exact .head _
  · rcases List.mem_cons.mp h with rfl | h
    · exact .tail _ (.head _)
    · rcases List.mem_cons.mp h with rfl | h
      · exact .tail _ (.tail _ (.head _))
      · exact .tail _ (.tail _ (.tail _ (.tail _ (.tail _ h))))
theorem fltR_cast {P : Params} {base G : Heap} {l : List Env} {e : Addr} {n n' : Int} {news : List (Addr × Obj)} {h : Heap} (R : FltR P base G l e n news h) (q : n = n') : FltR P base G l e n' news h := q ▸ R
section
variable {w : World} {loose : List Str} {mean : ExcName → Option Value} {mg mb : Str → Option Value}
    {dp un : Nat} {gd : Option (List Code)} {cn : Str} {cs : Scope} {a : Addr} {ccd : Value} {cl : List (Str × Addr)} {outer : List Env} {A₀ : Around} {base h₀ : Heap} {L : Addr} {m : Str → Option Value} {s : Shared} {Q E : Value → Shared → Prop}
    {news : List (Addr × Obj)}
theorem wid {d : Array UInt8} {ks : List Int} {td tm tc : Tok} {many count : Int} {mn ct : Nat} (B : Below A₀ base outer h₀) (F : Fr h₀ L s.heap m) (X : (K w.params).In h₀) (N : News h₀ L s.heap news) (T : Top vw loose mean mg mb h₀) (hkd : cs.kind = .function) (hdp : dp + 11 < recursionLimit) (hun : un + 70 < cLine)
    (hm : many = (mn : Int)) (hc : count = (ct : Int)) (hks : KBw.bInts d = ks) (hs : ks.length ≤ 1000) (h1 : 1 ≤ mn) (h2 : mn ≤ ct) (h3 : ct ≤ 60) (hl : 2 * (mn + ct) - 1 ≤ ks.length)
    (ret : 2 * (mn + ct) ≤ ks.length → ∀ T W Lf vs nv ws nw h' tk', Fr h₀ L h' m → News h₀ L h' ((T, tupo [.ref W, .ref Lf]) :: (Lf, PySem.W.listOf ws nw) :: (W, PySem.W.listOf vs nv) :: news) → IntsAre vs.toList (advs ks mn ct) → IntsAre ws.toList (bers ks mn ct) → (∀ q ∈ news, q.1 < W) → W < Lf → Lf < T → Q (.ref T) { s with heap := h', toks := tk' })
    (raise : ks.length < 2 * (mn + ct) → ∀ g e h' tk', Fr h₀ L g m → FltR w.params base g (envX cn cs L a ccd cl :: outer) e (2 * ((mn : Int) + ct) - 2) news h' → g.UpToSlots h' → E (.ref e) { s with heap := h', toks := tk' }) :
    wpAny (model prog w) (ktrTop dp un gd cn cs L a ccd cl outer) (call (.ref 263) [.bytes d td, .int many tm, .int count tc]) Q E s := by
  subst hm hc
  have ret' : PLift _ := ⟨ret⟩
  have raise' : PLift _ := ⟨raise⟩
  clear ret raise
  (refine wpAny_call ?_; k_dflt cell_enter)
  k_steps
  unfold Halt
  rename Fr _ _ _ _ => F1
  rename News _ _ _ _ => N1
  replace N1 := news_sub N1 fun q hq => .tail _ hq
  refine wid_loop (n := mn) (fun i => 4 * (i : Int)) (adv1 ks) (ber1 ks) (fun i => 4 * i ≤ ks.length) rfl (by assumption) ?_ ?_ F1 N1 rfl .nil .nil (Nat.zero_le _) (neAll (And.right (And.right (by assumption)))) (neAll (And.right (And.right (And.right (by assumption))))) (ltNe (by assumption)) ?_ ?_
  · exact small_one (by omega) (by omega) (by omega) (by omega)
  · rw [rangeSize_nat]; omega
  · intro i k t tp vs nv ws nw h tk tl hi hk hv hw hgp hsub tW tL td' F2 N2
    clear F1 N1
    have s1 := tabs_size hv
    have s2 := tabs_size hw
    rw [List.length_nil] at s1 s2
    by_cases hlast : (ks.length : Int) < 4 * (i : Int) + 4
    · k_steps
      exact raise'.down (by omega) _ _ _ _ (by assumption) (fltR_cast (FltR.sub (by assumption) fun q hq => .tail _ (.tail _ (.tail _ (.tail _ (hsub q hq))))) (by omega)) (by assumption)
    · k_steps
      exact ⟨rfl, _, _, _, _, _, _, _, _, rfl, by assumption, news_pos (by assumption) (by omega), ints_push hv, ints_push hw, by omega⟩
  · intro u tp vs nv ws nw h tk hv hw hgp F2 N2
    clear F1 N1
    k_steps
    unfold Halt
    rename Fr _ _ _ _ => F1
    rename News _ _ _ _ => N1
    refine wid_loop (n := ct - mn) (fun i => 4 * (mn : Int) + 2 * (i : Int)) (tabs (adv1 ks mn) (fun _ => be2 ks (4 * ((mn : Int) - 1)))) (tabs (ber1 ks mn) (fun j => sg (be2 ks (4 * (mn : Int) + 2 * (j : Int))))) (fun i => 4 * mn + 2 * i ≤ ks.length) rfl (by assumption) ?_ ?_ F1 N1 (by omega) hv hw hgp (neAll (And.right (And.right (by assumption)))) (neAll (And.right (And.right (And.right (by assumption))))) (ltNe (by assumption)) ?_ ?_
    · exact small_one (by omega) (by omega) (by omega) (by omega)
    · rw [rangeSize_nat]; omega
    · intro i k t tp vs nv ws nw h tk tl hi hk hv hw hgp hsub tW tL td' F2 N2
      clear F1 N1
      have s1 := tabs_size hv
      have s2 := tabs_size hw
      rw [adv1, tabs_len, List.length_nil] at s1; rw [ber1, tabs_len, List.length_nil] at s2; have hA := tabs_last (f := fun _ => be2 ks (4 * ((mn : Int) - 1))) (adv1_last (ks := ks) h1) (fun _ => rfl) i
      by_cases hlast : (ks.length : Int) < (4 * (mn : Int) + 2 * (i : Int)) + 2
      · k_steps
        exact raise'.down (by omega) _ _ _ _ (by assumption) (fltR_cast (FltR.sub (by assumption) fun q hq => .tail _ (.tail _ (.tail _ (.tail _ (hsub q hq))))) (by omega)) (by assumption)
      · k_steps
        exact ⟨rfl, _, _, _, _, _, _, _, _, rfl, by assumption, news_pos (by assumption) (by omega), ints_push hv, ints_push hw, by omega⟩
    · intro u' tp' vs' nv' ws' nw' h' tk' hv' hw' hgp' F3 N3
      clear F1 N1
      k_steps
      exact ret'.down (by omega) _ _ _ _ _ _ _ _ _ (by assumption) (news_sub (by assumption) fun q hq => mem3 hq) hv' hw' (allLtM (And.right (And.right (by assumption)))) (And.left (by assumption)) (And.left (by assumption))
theorem wid_ok {d : Array UInt8} {ks : List Int} {td tm tc : Tok} {many count : Int} {mn ct : Nat} (B : Below A₀ base outer h₀) (F : Fr h₀ L s.heap m) (X : (K w.params).In h₀) (N : News h₀ L s.heap news) (T : Top vw loose mean mg mb h₀) (hkd : cs.kind = .function) (hdp : dp + 11 < recursionLimit) (hun : un + 70 < cLine)
    (hm : many = (mn : Int)) (hc : count = (ct : Int)) (hks : KBw.bInts d = ks) (hs : ks.length ≤ 1000) (h1 : 1 ≤ mn) (h2 : mn ≤ ct) (h3 : ct ≤ 60) (hl : 2 * (mn + ct) ≤ ks.length)
    (ret : ∀ T W Lf vs nv ws nw h' tk', Fr h₀ L h' m → News h₀ L h' ((T, tupo [.ref W, .ref Lf]) :: (Lf, PySem.W.listOf ws nw) :: (W, PySem.W.listOf vs nv) :: news) → IntsAre vs.toList (advs ks mn ct) → IntsAre ws.toList (bers ks mn ct) → (∀ q ∈ news, q.1 < W) → W < Lf → Lf < T → Q (.ref T) { s with heap := h', toks := tk' }) :
    wpAny (model prog w) (ktrTop dp un gd cn cs L a ccd cl outer) (call (.ref 263) [.bytes d td, .int many tm, .int count tc]) Q E s :=
  wid B F X N T hkd hdp hun hm hc hks hs h1 h2 h3 (by omega) (fun _ => ret) fun hb => absurd hb (by omega)
theorem wid_bad {d : Array UInt8} {ks : List Int} {td tm tc : Tok} {many count : Int} {mn ct : Nat} (B : Below A₀ base outer h₀) (F : Fr h₀ L s.heap m) (X : (K w.params).In h₀) (N : News h₀ L s.heap news) (T : Top vw loose mean mg mb h₀) (hkd : cs.kind = .function) (hdp : dp + 11 < recursionLimit) (hun : un + 70 < cLine)
    (hm : many = (mn : Int)) (hc : count = (ct : Int)) (hks : KBw.bInts d = ks) (hs : ks.length ≤ 1000) (h1 : 1 ≤ mn) (h2 : mn ≤ ct) (h3 : ct ≤ 60) (hl : ks.length + 1 = 2 * (mn + ct))
    (raise : ∀ g e h' tk', Fr h₀ L g m → FltR w.params base g (envX cn cs L a ccd cl :: outer) e (2 * ((mn : Int) + ct) - 2) news h' → g.UpToSlots h' → E (.ref e) { s with heap := h', toks := tk' }) :
    wpAny (model prog w) (ktrTop dp un gd cn cs L a ccd cl outer) (call (.ref 263) [.bytes d td, .int many tm, .int count tc]) Q E s :=
  wid B F X N T hkd hdp hun hm hc hks hs h1 h2 h3 (by omega) (fun hb => absurd hb (by omega)) fun _ => raise
end
end
local macro_rules | `(tactic| k_all) => `(tactic| (refine ne_cons ?a ?b; (case a => k_ne); (case b => k_all)))
local macro_rules | `(tactic| walk_at "call ref") => `(tactic| first | (k_here; (with_reducible show wpAny _ _ (call (Value.ref 263) _) _ _ _); k_dflt (refine' wid_bad (by k_asm) (by k_asm) (by k_asm) (by k_asm) (by k_asm) (by walk_at "hk") (by walk_at "hr") (by walk_at "hr") (by assumption) (by assumption) (by kba_ints) (by omega) (by omega) (by omega) (by omega) (by omega) ?_; k_whole); intro g' e' h' tk' F' R' U'; (try dsimp only)) | (k_here; (with_reducible show wpAny _ _ (call (Value.ref 263) _) _ _ _); k_dflt (refine' wid_ok (by k_asm) (by k_asm) (by k_asm) (by k_asm) (by k_asm) (by walk_at "hk") (by walk_at "hr") (by walk_at "hr") (by assumption) (by assumption) (by kba_ints) (by omega) (by omega) (by omega) (by omega) (by omega) ?_; k_whole); intro T' W' Lf' vs' nv' ws' nw' h' tk' F' N' hv' hw' l1' l2' l3'; (try k_lt l1'); (try k_lt2 l2'); (try k_lt2 l3'); walk_at "kend"))
section
local macro_rules | `(tactic| k_all) => `(tactic| assumption)
theorem news_dup {h₀ h : Heap} {L : Addr} {a : Addr × Obj} {news : List (Addr × Obj)} (N : News h₀ L h news) (ha : a ∈ news) : News h₀ L h (a :: news) := fun p hp => by
  rcases List.mem_cons.mp hp with rfl | hp
  · exact N _ ha
  · exact N p hp
local macro_rules | `(tactic| walk_at "call type:tuple") => `(tactic| (k_here; (with_reducible show wpAny _ _ (call (Value.type _) [Value.ref _]) _ _ _); k_dflt (refine' kde_tupleOf ?k1 ?k2 ?k3 ?k4 ?k5 ?_; (case k1 => k_asm); (case k2 => k_asm); (case k3 => exact News.isList (by k_asm) (by k_mem)); (case k4 => omega); (case k5 => exact rfl); k_whole); intro D' h' F' N' l1'; (try k_lt l1'); (try k_sweep)))
abbrev mdict (P : Params) (u up dn : Int) (tu tup tdn : Tok) (TW TL : Addr) (k1 k2 k3 k4 k5 : Tok) : Obj :=
  dictOf [⟨PyData.keyHash P (Str.ofString "units"), .str (Str.ofString "units") k1, .int u tu⟩, ⟨PyData.keyHash P (Str.ofString "ascent"), .str (Str.ofString "ascent") k2, .int up tup⟩, ⟨PyData.keyHash P (Str.ofString "descent"), .str (Str.ofString "descent") k3, .int dn tdn⟩,
    ⟨PyData.keyHash P (Str.ofString "advances"), .str (Str.ofString "advances") k4, .ref TW⟩, ⟨PyData.keyHash P (Str.ofString "bearings"), .str (Str.ofString "bearings") k5, .ref TL⟩] 5
theorem mem4 {α : Type} {a b c d e f q : α} {l : List α} (h : q ∈ a :: b :: c :: d :: l) : q ∈ a :: b :: c :: d :: e :: f :: l := by
  rcases List.mem_cons.mp h with rfl | h
  · exact .head _
  · exact .tail _ (mem3 h)
section
variable {w : World} {loose : List Str} {mean : ExcName → Option Value} {mg mb : Str → Option Value}
    {dp un : Nat} {gd : Option (List Code)} {cn : Str} {cs : Scope} {a : Addr} {ccd : Value} {cl : List (Str × Addr)} {outer : List Env} {A₀ : Around} {base h₀ : Heap} {L : Addr} {m : Str → Option Value} {s : Shared} {Q E : Value → Shared → Prop}
    {news : List (Addr × Obj)}
theorem met_new {W Lf : Addr} {vs ws : Array Value} {nv nw : Nat} {u up dn : Int} {tu tup tdn : Tok} (B : Below A₀ base outer h₀) (F : Fr h₀ L s.heap m) (X : (K w.params).In h₀) (N : News h₀ L s.heap news) (T : Top vw loose mean mg mb h₀) (hkd : cs.kind = .function) (hdp : dp + 4 < recursionLimit) (hun : un + 30 < cLine)
    (hW : (W, PySem.W.listOf vs nv) ∈ news) (hL : (Lf, PySem.W.listOf ws nw) ∈ news) (sv : vs.size ≤ 1000) (sw : ws.size ≤ 1000)
    (ret : ∀ x dx TW TL k1 k2 k3 k4 k5 h' tk', Fr h₀ L h' m → News h₀ L h' ((TL, tupo ws.toList) :: (TW, tupo vs.toList) :: (x, instObj 217 dx) :: (dx, mdict w.params u up dn tu tup tdn TW TL k1 k2 k3 k4 k5) :: news) → (∀ q ∈ news, q.1 < dx) → dx < x → x < TW → TW < TL → Q (.ref x) { s with heap := h', toks := tk' }) :
    wpAny (model prog w) (ktrTop dp un gd cn cs L a ccd cl outer) (call (.ref 217) [.int u tu, .int up tup, .int dn tdn, .ref W, .ref Lf]) Q E s := by
  have lt : ∀ {D : Addr}, (∀ q ∈ news, q.1 < D) → ∀ q ∈ (Lf, PySem.W.listOf ws nw) :: (W, PySem.W.listOf vs nv) :: news, q.1 < D := fun h q hq => by
    rcases List.mem_cons.mp hq with rfl | hq
    · exact h _ hL
    · rcases List.mem_cons.mp hq with rfl | hq
      · exact h _ hW
      · exact h _ hq
  replace N := news_dup (news_dup N hW) (.tail _ hL)
  clear hW hL
  (k_dflt (refine' call_cls ?k1 ?k2 ?k3 ?k4 ?k5 ?k6 ?_; (case k1 => k_asm); (case k2 => k_asm); (case k3 => k_asm); (case k4 => k_is); (case k5 => k_is); (case k6 => k_is); k_whole; intro x' d' h' F' N' l1 l2; (try k_lt2 l2); (try k_sweep)); k_dflt (refine' code_def ?k1 ?k2 ?k3 ?k4 ?k5 ?kA ?kF ?kK ?k6 ?k7 ?k8 ?k9 ?kB ?_ ?c2 ?c3 ?c4 ?c5; (case kA => exact rfl); (case kF => exact rfl); (case kK => first | exact rfl | assumption); (case k1 => k_asm); (case k2 => k_asm); (case k3 => k_asm); (case k4 => k_asm); (case k5 => k_asm); (case k6 => k_is); (case k7 => k_is); (case k8 => first | exact room0 (by assumption) | omega | (dsimp only [ktrTop]; omega) | (show dp + 1 < recursionLimit; omega)); (case k9 => first | exact BindsTo.of_eq rfl | exact binds_K (by k_in) rfl (by k_is) rfl rfl rfl | fail "enter: no rule for these arguments"); (case c5 => decide); (case kB => exact locs rfl); (case c2 => exact rfl); (case c3 => exact rfl); (case c4 => exact rfl); k_whole; intro g' L' h' FG' F' N' B' X' T'; (try dsimp only); (try k_lift B'); (try k_fold)))
  have l0 := l1
  k_lt l1
  k_steps
  exact ret _ _ _ _ _ _ _ _ _ _ _ (by assumption) (news_sub (by assumption) fun q hq => mem4 hq) (fun q hq => l0 q (.tail _ (.tail _ hq))) l2 (And.left (by assumption)) (And.left (by assumption))
theorem told_ok {x dx TW TL : Addr} {u up dn : Int} {tu tup tdn k1 k2 k3 k4 k5 : Tok} (B : Below A₀ base outer h₀) (F : Fr h₀ L s.heap m) (X : (K w.params).In h₀) (N : News h₀ L s.heap news) (T : Top vw loose mean mg mb h₀) (hkd : cs.kind = .function) (hdp : dp + 3 < recursionLimit) (hun : un + 20 < cLine)
    (hx : (x, instObj 217 dx) ∈ news) (hdx : (dx, mdict w.params u up dn tu tup tdn TW TL k1 k2 k3 k4 k5) ∈ news)
    (ret : ∀ T h' tk', Fr h₀ L h' m → News h₀ L h' ((T, tupo [.int u tu, .int up tup, .int dn tdn, .ref TW, .ref TL]) :: news) → (∀ q ∈ news, q.1 < T) → Q (.ref T) { s with heap := h', toks := tk' }) :
    wpAny (model prog w) (ktrTop dp un gd cn cs L a ccd cl outer) (call (.ref 214) [.ref x]) Q E s := by
  (refine wpAny_call ?_; k_dflt cell_enter)
  k_steps
  exact ret _ _ _ (by assumption) (by assumption) (by first | assumption | exact allLtM (by assumption))
end
end
local macro_rules | `(tactic| walk_at "call type:tuple") => `(tactic| (k_here; (with_reducible show wpAny _ _ (call (Value.type _) [Value.ref _]) _ _ _); k_dflt (refine' kde_tupleOf ?k1 ?k2 ?k3 ?k4 ?k5 ?_; (case k1 => k_asm); (case k2 => k_asm); (case k3 => exact News.isList (by k_asm) (by k_mem)); (case k4 => omega); (case k5 => exact rfl); k_whole); intro D' h' F' N' l1'; (try k_lt l1'); (try k_sweep)))
local macro_rules | `(tactic| walk_at "call ref") => `(tactic| first | (k_here; (with_reducible show wpAny _ _ (call (Value.ref 214) _) _ _ _); k_dflt (refine' told_ok (by k_asm) (by k_asm) (by k_asm) (by k_asm) (by k_asm) (by walk_at "hk") (by walk_at "hr") (by walk_at "hr") (by k_mem) (by k_mem) ?_; k_whole); intro T' h' tk' F' N' l1'; (try k_lt l1'); walk_at "kend") | (k_here; (with_reducible show wpAny _ _ (call (Value.ref 217) _) _ _ _); k_dflt (refine' met_new (by k_asm) (by k_asm) (by k_asm) (by k_asm) (by k_asm) (by walk_at "hk") (by walk_at "hr") (by walk_at "hr") (by k_mem) (by k_mem) (by omega) (by omega) ?_; k_whole); intro x' d' TW' TL' k1' k2' k3' k4' k5' h' tk' F' N' l1' l2' l3' l4'; (try k_lt l1'); (try k_lt2 l2'); (try k_lt2 l3'); (try k_lt2 l4'); walk_at "kend"))
section
local macro_rules | `(tactic| k_all) => `(tactic| assumption)
def faultH (kh : List Int) : Int := if be4 kh 0 ≠ 65536 then 0 else if be4 kh 12 ≠ 1594834165 then 12 else if ¬ (16 ≤ be2 kh 18 ∧ be2 kh 18 ≤ 16384) then 18 else -1
def faultA (ka : List Int) : Int := if be2 ka 32 ≠ 0 then 32 else -1
def faultV (km : List Int) : Int := if be4 km 0 ≠ 20480 ∧ be4 km 0 ≠ 65536 then 0 else -1
def faultC (many count : Int) : Int := if ¬ (0 < many ∧ many ≤ count) then 34 else -1
def faultX (kx : List Int) (many count : Int) : Int := if (kx.length : Int) < 2 * (many + count) then 2 * (many + count) - 2 else -1
def firstF : List Int → Option Int
  | [] => none
  | x :: r => if 0 ≤ x then some x else firstF r
def faults (kh ka km kx : List Int) : List Int := [faultH kh, faultA ka, faultV km, faultC (be2 ka 34) (be2 km 4), faultX kx (be2 ka 34) (be2 km 4)]
theorem keep4 {α : Type} {a b c d q : α} {l r : List α} (k : ∀ q ∈ l, q ∈ r) (h : q ∈ a :: b :: c :: d :: l) : q ∈ a :: b :: c :: d :: r := by
  rcases List.mem_cons.mp h with rfl | h
  · exact .head _
  · rcases List.mem_cons.mp h with rfl | h
    · exact .tail _ (.head _)
    · rcases List.mem_cons.mp h with rfl | h
      · exact .tail _ (.tail _ (.head _))
      · rcases List.mem_cons.mp h with rfl | h
        · exact .tail _ (.tail _ (.tail _ (.head _)))
        · exact .tail _ (.tail _ (.tail _ (.tail _ (k q h))))
theorem firstF4 {x : Int} (h : 0 ≤ x) : firstF [-1, -1, -1, -1, x] = some x := by simp [firstF, h]
theorem firstF3 {x y : Int} (h : x = 34) : firstF [-1, -1, -1, x, y] = some 34 := by simp [firstF, h]
theorem advs_size {ks : List Int} {mn ct : Nat} {vs : Array Value} (h : IntsAre vs.toList (advs ks mn ct)) (h2 : mn ≤ ct) : vs.size = ct := by
  rw [tabs_size h, adv1, tabs_len, List.length_nil]; omega
theorem bers_size {ks : List Int} {mn ct : Nat} {vs : Array Value} (h : IntsAre vs.toList (bers ks mn ct)) (h2 : mn ≤ ct) : vs.size = ct := by
  rw [tabs_size h, ber1, tabs_len, List.length_nil]; omega
section
variable {w : World} {loose : List Str} {mean : ExcName → Option Value} {mg mb : Str → Option Value}
    {dp un : Nat} {gd : Option (List Code)} {cn : Str} {cs : Scope} {a : Addr} {ccd : Value} {cl : List (Str × Addr)} {outer : List Env} {A₀ : Around} {base h₀ : Heap} {L : Addr} {m : Str → Option Value} {s : Shared} {Q E : Value → Shared → Prop}
    {news : List (Addr × Obj)}
theorem read_law {D : Addr} {o : Obj} {d0 d1 d2 d3 : Array UInt8} {t0 t1 t2 t3 : Tok} {kh ka kx km : List Int} (B : Below A₀ base outer h₀) (F : Fr h₀ L s.heap m) (X : (K w.params).In h₀) (N : News h₀ L s.heap news) (T : Top vw loose mean mg mb h₀) (hkd : cs.kind = .function) (hdp : dp + 13 < recursionLimit) (hun : un + 90 < cLine)
    (hD : (D, o) ∈ news) (hlo : (D == sysModules) = false) (hd : o.IsDictOf (PySem.strKind prog w) [(Str.ofString "head", .bytes d0 t0), (Str.ofString "hhea", .bytes d1 t1), (Str.ofString "hmtx", .bytes d2 t2), (Str.ofString "maxp", .bytes d3 t3)])
    (hkh : KBw.bInts d0 = kh) (hka : KBw.bInts d1 = ka) (hkx : KBw.bInts d2 = kx) (hkm : KBw.bInts d3 = km)
    (lh : kh.length = 54) (la : ka.length = 36) (va : be4 ka 0 = 65536) (lm : 6 ≤ km.length) (lm2 : km.length ≤ 1000) (vm : be4 km 0 = 65536 → 32 ≤ km.length) (c1 : 1 ≤ be2 km 4) (c2 : be2 km 4 ≤ 60) (lx : kx.length ≤ 1000)
    (lx2 : 0 < be2 ka 34 → be2 ka 34 ≤ be2 km 4 → 2 * (be2 ka 34 + be2 km 4) - 1 ≤ kx.length)
    (ret : firstF (faults kh ka km kx) = none → ∀ (mn ct : Nat), be2 ka 34 = (mn : Int) → be2 km 4 = (ct : Int) → ∀ x dx TW TL vs ws tu tup tdn k1 k2 k3 k4 k5 h' tk', IntsAre vs (advs kx mn ct) → IntsAre ws (bers kx mn ct) → Fr h₀ L h' m →
      News h₀ L h' ((TL, tupo ws) :: (TW, tupo vs) :: (x, instObj 217 dx) :: (dx, mdict w.params (be2 kh 18) (sg (be2 ka 4)) (sg (be2 ka 6)) tu tup tdn TW TL k1 k2 k3 k4 k5) :: news) → (∀ q ∈ news, q.1 < dx) → dx < x → x < TW → TW < TL → Q (.ref x) { s with heap := h', toks := tk' })
    (raise : ∀ n, firstF (faults kh ka km kx) = some n → ∀ g e h' tk', Fr h₀ L g m → FltR w.params base g (envX cn cs L a ccd cl :: outer) e n news h' → g.UpToSlots h' → E (.ref e) { s with heap := h', toks := tk' }) :
    wpAny (model prog w) (ktrTop dp un gd cn cs L a ccd cl outer) (call (.ref 270) [.ref D]) Q E s := by
  replace N := news_dup N hD
  clear hD
  (refine wpAny_call ?_; k_dflt cell_enter)
  k_steps
  by_cases hv : be4 kh 0 = 65536
  · by_cases hm : be4 kh 12 = 1594834165
    · by_cases hu : 16 ≤ be2 kh 18 ∧ be2 kh 18 ≤ 16384
      · have fH : faultH kh = -1 := by simp [faultH, hv, hm, hu]
        obtain ⟨hu1, hu2⟩ := hu
        k_steps
        by_cases hA : be2 ka 32 = 0
        · have fA : faultA ka = -1 := by simp [faultA, hA]
          k_steps
          by_cases hV : be4 km 0 = 20480 ∨ be4 km 0 = 65536
          · have fV : faultV km = -1 := by rcases hV with q | q <;> simp [faultV, q]
            have c0 : be2 km 4 ≠ 0 := by omega
            k_steps
            · have hC1 : 0 < be2 ka 34 := by assumption
              have hC2 : be2 ka 34 ≤ be2 km 4 := by assumption
              have fC : faultC (be2 ka 34) (be2 km 4) = -1 := by simp [faultC, hC1, hC2]
              obtain ⟨mn, hmn⟩ := Int.eq_ofNat_of_zero_le (Int.le_of_lt hC1)
              obtain ⟨ct, hct⟩ := Int.eq_ofNat_of_zero_le (a := be2 km 4) (by omega)
              by_cases hX : (kx.length : Int) < 2 * (be2 ka 34 + be2 km 4)
              · have hX1 : kx.length + 1 = 2 * (mn + ct) := by have := lx2 hC1 hC2; omega
                k_steps
                have fX : faultX kx (be2 ka 34) (be2 km 4) = 2 * ((mn : Int) + ct) - 2 := by unfold faultX; rw [if_pos hX, hmn, hct]
                exact raise (2 * ((mn : Int) + ct) - 2) (by unfold faults; rw [fH, fA, fV, fC, fX]; exact firstF4 (by omega)) _ _ _ _ (by assumption) (FltR.sub (by assumption) fun q hq => .tail _ (.tail _ hq)) (by assumption)
              · k_steps
                rename IntsAre _ (bers _ _ _) => hw9
                rename IntsAre _ (advs _ _ _) => hv9
                have sv9 := advs_size hv9 (by omega)
                have sw9 := bers_size hw9 (by omega)
                k_steps
                have fX : faultX kx (be2 ka 34) (be2 km 4) = -1 := by unfold faultX; rw [if_neg hX]
                exact ret (by unfold faults; rw [fH, fA, fV, fC, fX]; rfl) mn ct hmn hct _ _ _ _ _ _ _ _ _ _ _ _ _ _ _ _ hv9 hw9 (by assumption) (news_sub (by assumption) fun q hq => keep4 (fun q hq => .tail _ (.tail _ (.tail _ (.tail _ (.tail _ hq))))) hq)
                  (allLtM (And.right (And.right (And.right (And.right (And.right (by assumption))))))) (by assumption) (by assumption) (by assumption)
            · exact raise 34 (by unfold faults; rw [fH, fA, fV]; exact firstF3 (by unfold faultC; rw [if_pos (by omega)])) _ _ _ _ (by assumption) (FltR.sub (by assumption) fun q hq => .tail _ (.tail _ hq)) (by assumption)
            · exact raise 34 (by unfold faults; rw [fH, fA, fV]; exact firstF3 (by unfold faultC; rw [if_pos (by omega)])) _ _ _ _ (by assumption) (FltR.sub (by assumption) fun q hq => .tail _ (.tail _ hq)) (by assumption)
          · have hV1 : be4 km 0 ≠ 20480 := fun q => hV (.inl q)
            have hV2 : be4 km 0 ≠ 65536 := fun q => hV (.inr q)
            k_steps
            exact raise 0 (by simp [faults, firstF, fH, fA, faultV, hV1, hV2]) _ _ _ _ (by assumption) (FltR.sub (by assumption) fun q hq => .tail _ (.tail _ hq)) (by assumption)
        · k_steps
          exact raise 32 (by simp [faults, firstF, fH, faultA, hA]) _ _ _ _ (by assumption) (FltR.sub (by assumption) fun q hq => .tail _ hq) (by assumption)
      · k_steps
        exact raise 18 (by simp [faults, firstF, faultH, hv, hm, hu]) _ _ _ _ (by assumption) (FltR.sub (by assumption) fun q hq => .tail _ hq) (by assumption)
    · k_steps
      exact raise 12 (by simp [faults, firstF, faultH, hv, hm]) _ _ _ _ (by assumption) (FltR.sub (by assumption) fun q hq => .tail _ hq) (by assumption)
  · k_steps
    exact raise 0 (by simp [faults, firstF, faultH, hv]) _ _ _ _ (by assumption) (FltR.sub (by assumption) fun q hq => .tail _ hq) (by assumption)
end
end

section
section
variable {prog : Program} {w : World} {A : Around} {E : Value → Shared → Prop} {s : Shared} {K : Frag} {h₀ : Heap} {L x C dx : Addr} {m : Str → Option Value} {ox : Obj} {es : List DictEntry} {n : Nat} {name : Str} {v : Value} {attr : Option Value}
theorem exc_get {expr : Bool} {Q : Value → Shared → Prop} (F : Fr h₀ L s.heap m) (X₀ : K.In h₀) (I : InstAt s.heap x ox C (some (dictOf es n)))
    (hga : findIn K (.ref C) "__getattribute__" = some (some (.builtin "BaseException.__getattribute__"))) (hgn : findIn K (.ref C) "__getattr__" = some none) (hm : mroIn K C (.type "BaseException") = some true)
    (hh : hasDictIn K C = true) (ha : findIn K (.ref C) name = some attr) (hn : noGet K attr = true) (hl : getL name es = some (some v)) (hv : handedIn v = true) (h : Q v { s with toks := s.toks + 1 }) :
    wpAny (model prog w) A (getAttr (.ref x) name expr) Q E s := by
  have X := X₀.keeps F.keep
  obtain ⟨hp, g, d, t, os⟩ := s
  have L0 := I.type (M := model prog w)
  have L1 := looks_findIn (M := model prog w) X hga
  have L2 := looks_findIn (M := model prog w) X hgn
  have L3 := looks_find (M := model prog w) X I (findObj_own hh ha hn hl)
  have L4 : Looks (model prog w) hp (isInstance (.ref x) (.type "BaseException")) true := L0.andThen (looks_mroIn X hm)
  have S := PySem.F.excAttr_ValueError.ga
  have hk : builtinKind "BaseException.__getattribute__" = some .slot := by decide +kernel
  have hsp : splitId "BaseException.__getattribute__" = some ("BaseException", "__getattribute__") := by decide +kernel
  have hx0 : (expr && onTheHeap (Value.builtin "BaseException.__getattribute__")) = false := by cases expr <;> rfl
  have hx2 : (Value.builtin "BaseException.__getattribute__" == Value.builtin "object.__getattribute__") = false := by decide +kernel
  have hx1 : (onTheHeap (Value.ref C) && Value.builtin "BaseException.__getattribute__" == Value.builtin "object.__getattribute__") = false := by rw [hx2]; rfl
  unfold getAttr getAttrBy
  refine wpAny_bind (wpAny_mkText (wpAny_holding (wpAny_bind (L0.at (wpAny_bind (L1.at ?_))))))
  show wpAny _ _ (if (onTheHeap (Value.ref C) && Value.builtin "BaseException.__getattribute__" == Value.builtin "object.__getattribute__") = true then _ else _) _ _ _
  rw [hx1, if_neg (by decide)]
  unfold getAttrByItsOwn hookBefore callGetattribute boundAndCalled
  refine wpAny_bind (L2.at ?_)
  rw [hx0, if_neg (by decide)]
  refine wpAny_bind (wpAny_attempt (wpAny_holding ?_))
  refine wpAny_bind (wpAny_of_eq (S.bind _) ?_)
  refine wpAny_mono (Q := fun v' s' => v' = v ∧ s' = ⟨hp, g, d, t + 1, os⟩) (E := fun _ _ => False) ?a (fun v' s' hv' => ?b) fun _ _ z => z.elim
  case a =>
    show wpAny _ _ (call (.builtin "BaseException.__getattribute__") [.ref x, .str name t]) _ _ ⟨hp, g, d, t + 1, os⟩
    refine wpAny_call ?_
    refine codeAny_call_builtin S.plain PySem.F.entry_bexc_ga ?_
    refine @check_slot (model prog w) _ _ ⟨hp, g, d, t + 1, os⟩ "BaseException.__getattribute__" "BaseException" "__getattribute__" (.ref x) [.str name t] [] _ hk hsp L4 (PySem.F.args_bexc_ga (.ref x) (.str name t)) ?_
    unfold Builtin.«object.__getattribute__»
    refine wpAny_bind (wpAny_pure ?_)
    refine wpAny_bind (wpAny_pure (wpAny_bind (L0.at (wpAny_bind (L3.at ?_)))))
    exact wpAny_pure ⟨rfl, rfl⟩
  case b =>
    obtain ⟨rfl, rfl⟩ := hv'
    show wpAny _ _ (handedOut v') _ _ _
    rw [handedOut_of hv]
    exact wpAny_pure h
end
end

section
section
variable {prog : Program} {w : World} {A₀ : Around} {E : Value → Shared → Prop} {s' : Shared} {base g h₀ G : Heap} {outer : List Env} {L a e : Addr} {m : Str → Option Value} {name : Str} {scope : Scope} {cd : Value}
  {n : Int} {nm : Str} {b₀ : Stmt} {suite : List Stmt} {pos np : Pos} {rest : List ExceptHandler} {Q : Flow → Shared → Prop} {news : List (Addr × Obj)} {KF : Frag}
  {p : Program} {loose : List Str} {mean : ExcName → Option Value} {mg mb : Str → Option Value} {x : Str}
theorem flt_caught (R : FltR w.params base G (envOf name scope L a cd :: outer) e n news s'.heap) (F : Fr g L G m) (K : Below A₀ base outer g) (hsm : G.UpToSlots s'.heap) (XB : KF.In h₀) (TB : Top p loose mean mg mb h₀)
    (st : h₀.StaysIn g) (hof : ∀ b ∈ outer.filterMap (·.frame), h₀.get? b = none)
    (ex : nsIn KF mainGlobals x = some (some (.ref 61))) (q : ktsIn KF 61 "BaseException" = true)
    (k : ∀ h' g' tk oe vs dx what tw ta k1 k2, KtsTurn (outer.filterMap (·.frame)) g g' → h₀.StaysIn g' → Fr g' L h' (fun y => if y = nm then some (.ref e) else m y) → News g' L h' ((e, oe) :: (dx, flt w.params what tw n ta k1 k2) :: news) →
      oe.cls = .ref 61 → oe.dict = some dx → oe.data = .fields vs → Below A₀ base outer g' → KF.In g' → Top p loose mean mg mb g' →
      wpAny (model prog w) ((A₀.deeper (envOf name scope L a cd)).mark (some (.ref e))) (execs (b₀ :: suite) (envOf name scope L a cd))
        (fun f s₄ => wpAny (model prog w) (A₀.deeper (envOf name scope L a cd)) (do bindName (envOf name scope L a cd) nm .none; unbindBehindTheSuite (envOf name scope L a cd) nm pos) (fun _ s₅ => Q f s₅) E s₄)
        (AsSuiteRaised (model prog w) ((A₀.deeper (envOf name scope L a cd)).mark (some (.ref e))) (envOf name scope L a cd) nm pos (notedBy (model prog w) ((A₀.deeper (envOf name scope L a cd)).mark (some (.ref e))) (envOf name scope L a cd) (cameBackBy (model prog w) (A₀.deeper (envOf name scope L a cd)) (envOf name scope L a cd) E)))
        { s' with heap := h', toks := tk })
    (hk : scope.kind = .function := by rfl) (hlo : (envOf name scope L a cd).kindOf nm = some .local := by rfl) (hx : (envOf name scope L a cd).kindOf x = some .globalImplicit := by rfl) (hd : (x == ("__debug__" : Str)) = false := by decide) :
    wpAny (model prog w) (A₀.deeper (envOf name scope L a cd)) (noteFrame (.ref e) (envOf name scope L a cd))
      (fun _ s₂ => wpAny (model prog w) (A₀.deeper (envOf name scope L a cd)) (setFlight (.ref e) none) (fun _ s₃ =>
        wpAny (model prog w) (A₀.deeper (envOf name scope L a cd)) (handleBy (.ref e) (envOf name scope L a cd) (.ExceptHandler (some (.Name x np)) (some nm) (b₀ :: suite) pos :: rest)) Q E s₃) E s₂) E s' := by
  obtain ⟨B, dx, what, tw, ta, k1, k2, a1, a2, a3, a4, a5, a6, a7⟩ := R
  have hL : B.get? L = none := by
    obtain ⟨_, ⟨L', _, hf, hn', _⟩, _⟩ := a7.frames
    obtain rfl : L = L' := Option.some.inj hf
    exact hn'
  have stays : ∀ g', KtsTurn (outer.filterMap (·.frame)) g g' → h₀.StaysIn g' := fun g' T b o hb => T.other b o (st b o hb) fun hm => by
    rw [hof b hm] at hb
    cases hb
  refine fly_note (Around.frames_deeper K.stack) rfl a7 fun h₁ Y₁ U₁ => ?_
  refine fly_down (s := { s' with heap := h₁ }) Y₁ fun h₂ Y₂ U₂ => ?_
  have U := hsm.trans (U₁.trans U₂)
  obtain ⟨g₂, T₂, F₂, K₂⟩ := kts_ground K F a2 Y₂.stays U
  have X₂ : KF.In g₂ := XB.keeps (stays _ T₂)
  have P₂ : TopRead p loose mg mb g₂ := topRead_of (TB.keeps (stays _ T₂))
  obtain ⟨oe₂, vs₂, _, _, _, he₂, hc₂, _⟩ := Y₂.tr
  obtain ⟨nm', q', N', bs, bm, hdct, sn, sub, ab, col, dd, k0, k1', k2', k3, k5, newId, hC, hbase, hbT⟩ := kts_cls X₂ q
  have hC₂ := F₂.keep _ _ hC
  refine wpAny_handleBy_cons (codeAny_handlers_test (name_K F₂ X₂ P₂ ex ?_ hk hx hd)) (by intro q; cases q)
  refine wpAny_excMatches_sub_self hC₂ he₂ hc₂ hbase (codeAny_handlers_suite_as ?_)
  refine fly_down (s := { s' with heap := h₂ }) Y₂ fun h₃ Y₃ U₃ => ?_
  obtain ⟨g₃, T₃, F₃, K₃⟩ := kts_ground K F a2 Y₃.stays (U.trans U₃)
  obtain ⟨oe, vs, _, _, _, he, hc, hdx, hdt, _⟩ := Y₃.tr
  have N₃ : News g₃ L h₃ ((e, oe) :: (dx, flt w.params what tw n ta k1 k2) :: news) := by
    refine News.more F₃ (fun z hz => ?_) he (fun es n q => by rw [hdt] at q; cases q) (T₃.none_ _ (kts_none F.keep a6))
    rcases List.mem_cons.mp hz with rfl | hz
    · exact ⟨Y₃.stays _ _ a4, (fun z => by rw [show (dx : Addr) = L from z, hL] at a4; cases a4), T₃.none_ _ (kts_none F.keep a5)⟩
    · exact ⟨Y₃.stays _ _ (a3 z hz).1, (fun q => by have := (a3 z hz).1; rw [q, hL] at this; cases this), T₃.none_ _ (kts_none F.keep (a3 z hz).2.1)⟩
  refine stN F₃ N₃ (fun h₄ F₄ N₄ => ?_) hk hlo
  exact k h₄ g₃ _ oe vs dx what tw ta k1 k2 T₃ (stays _ T₃) F₄ N₄ hc hdx hdt K₃ (XB.keeps (stays _ T₃)) (TB.keeps (stays _ T₃))
end
section
variable {prog : Program} {w : World} {A₀ A : Around} {s : Shared} {base h₀ : Heap} {L : Addr} {m : Str → Option Value} {news : List (Addr × Obj)} {K : Frag} {p : Program} {loose : List Str} {mean : ExcName → Option Value} {mg mb : Str → Option Value}
theorem code_raw {env : Env} {outer : List Env} {R : Result → Shared → Prop} {name qual : Str} {params : Arguments} {body : List Stmt} {scope : Scope} {dV kV doc pm cdv ct oc : Value} {an od : Option Addr} {osl : Array (Option Value)} {f : Addr} {args : Args} {binds : List (Str × Value)}
    (B : Below A₀ base outer h₀) (F : Fr h₀ L s.heap m) (X₀ : K.In h₀) (N : News h₀ L s.heap news) (T : Top p loose mean mg mb h₀) (hA : A.frames = some (env :: outer)) (hf : env.frame = some L) (hke : env.scope.kind = .function)
    (ho : K.lookup f = some ⟨oc, od, .func (fnOf name qual params body scope dV kV doc pm an cdv ct), osl⟩) (hcd : codeIn K cdv qual = true) (hroom : A.depth < recursionLimit)
    (hbind : BindsTo s (fnOf name qual params body scope dV kV doc pm an cdv ct) args binds) (hloc : ∀ y ∈ binds, scope.names.lookup y.1 = some .local)
    (h : ∀ g L' h₁, Fr h₀ L g m → Fr g L' h₁ (fun y => binds.reverse.lookup y) → News g L' h₁ news → Below A base (env :: outer) g → K.In g → Top p loose mean mg mb g → h₀.StaysIn g →
      (∀ (s' : Shared) m' news', Fr g L' s'.heap m' → News g L' s'.heap news' → Fr h₀ L s'.heap m ∧ News h₀ L s'.heap news') →
      wpAny (model prog w) (A.deeper (envOf qual scope L' f cdv)) (execs body (envOf qual scope L' f cdv))
        (fun fl s' => R (.ok (.ret (match fl with | .ret v => v | _ => .none))) s')
        (fun e s' => wpAny (model prog w) (A.deeper (envOf qual scope L' f cdv)) (leaving (envOf qual scope L' f cdv) e) (fun _ s'' => R (.error e) s'') (fun e' s'' => R (.error e') s'') s')
        { s with heap := h₁, toks := s.toks + binds.length })
    (hco : scope.isCoroutine = false) (hgen : scope.isGenerator = false) (hk : scope.kind = .function)
    (hcell : ∀ x ∈ scope.names, x.2 ≠ .cell) : codeAny (model prog w) A (.call (.ref f) args) R s := by
  obtain ⟨FG, BG, st, _⟩ := groundX (R := fun _ _ => True) B F N hA hf hke
  refine codeAny_call_def (fd := fnOf name qual params body scope dV kV doc pm an cdv ct) (body := body) (binds := binds) hroom ((X₀.keeps F.keep) _ _ ho) rfl (T.nolimit.keeps F.keep) (codeRec_of (X₀.keeps F.keep) hcd) rfl hbind hcell hloc (fun h₁ hns hk₁ => ?_) hco hgen hk
  exact h _ s.heap.objs.size h₁ FG ⟨hns, fun b o e => hk₁ b o (of_hideAll _ e), Nat.le_of_eq (hideAll_size _ _)⟩
    (fun p hp => ⟨hk₁ _ _ (N p hp).1, Nat.ne_of_lt (Heap.lt_size (N p hp).1), hideAll_none _ (List.mem_map_of_mem hp)⟩) BG (X₀.keeps st) (T.keeps st) st
    (fun s' m' news' F' N' => (groundX (R := fun _ s' => Fr h₀ L s'.heap m ∧ News h₀ L s'.heap news') B F N hA hf hke).2.2.2 .none s' ⟨_, _, _, F', N', fun a b => ⟨a, b⟩⟩)
end
end

section
local macro_rules | `(tactic| k_all) => `(tactic| assumption)
theorem seen_back {h₀ g g' h : Heap} {L L' : Addr} {fs : List Addr} {m m' : Str → Option Value} (FG : Fr h₀ L g m) (T : KtsTurn fs g g') (st : h₀.StaysIn g') (F : Fr g' L' h m') : Fr h₀ L h m := by
  obtain ⟨oL, es, ep, hL, hLd, hLk, hLf⟩ := FG.ns
  obtain ⟨sl, hs⟩ := T.up hL
  exact ⟨⟨_, es, ep, F.keep _ _ hs, hLd, hLk, hLf⟩, fun b o e => F.keep b o (st b o e), FG.above⟩
local macro_rules | `(tactic| walk_at "getAttr ref") => `(tactic| (k_here; k_dflt (refine' exc_get ?k1 ?k2 ?k3 ?k4 ?k5 ?k6 ?k7 ?k8 ?k9 ?kl ?kh ?_; (case k1 => k_asm); (case k2 => k_asm); (case k3 => assumption); (case k4 => k_is); (case k5 => k_is); (case k6 => k_is); (case k7 => k_is); (case k8 => k_is); (case k9 => k_is); (case kl => k_get); (case kh => k_handed); k_whole)))
section
variable {w : World} {loose : List Str} {mean : ExcName → Option Value} {mg mb : Str → Option Value}
    {dp un : Nat} {gd : Option (List Code)} {cn : Str} {cs : Scope} {a : Addr} {ccd : Value} {cl : List (Str × Addr)} {outer : List Env} {A₀ : Around} {base h₀ : Heap} {L : Addr} {m : Str → Option Value} {s : Shared} {Q E : Value → Shared → Prop}
    {news : List (Addr × Obj)}
theorem seen_law {D : Addr} {o : Obj} {d0 d1 d2 d3 : Array UInt8} {t0 t1 t2 t3 : Tok} {kh ka kx km : List Int} (B : Below A₀ base outer h₀) (F : Fr h₀ L s.heap m) (X : (K w.params).In h₀) (N : News h₀ L s.heap news) (T : Top vw loose mean mg mb h₀) (hkd : cs.kind = .function) (hdp : dp + 15 < recursionLimit) (hun : un + 100 < cLine) (hout : outer = [])
    (hD : (D, o) ∈ news) (hlo : (D == sysModules) = false) (hd : o.IsDictOf (PySem.strKind prog w) [(Str.ofString "head", .bytes d0 t0), (Str.ofString "hhea", .bytes d1 t1), (Str.ofString "hmtx", .bytes d2 t2), (Str.ofString "maxp", .bytes d3 t3)])
    (hkh : KBw.bInts d0 = kh) (hka : KBw.bInts d1 = ka) (hkx : KBw.bInts d2 = kx) (hkm : KBw.bInts d3 = km)
    (lh : kh.length = 54) (la : ka.length = 36) (va : be4 ka 0 = 65536) (lm : 6 ≤ km.length) (lm2 : km.length ≤ 1000) (vm : be4 km 0 = 65536 → 32 ≤ km.length) (c1 : 1 ≤ be2 km 4) (c2 : be2 km 4 ≤ 60) (lx : kx.length ≤ 1000)
    (lx2 : 0 < be2 ka 34 → be2 ka 34 ≤ be2 km 4 → 2 * (be2 ka 34 + be2 km 4) - 1 ≤ kx.length)
    (ret : firstF (faults kh ka km kx) = none → ∀ (mn ct : Nat), be2 ka 34 = (mn : Int) → be2 km 4 = (ct : Int) → ∀ T TW TL vs ws tu tup tdn h' tk', IntsAre vs (advs kx mn ct) → IntsAre ws (bers kx mn ct) → Fr h₀ L h' m →
      News h₀ L h' ((T, tupo [.int (be2 kh 18) tu, .int (sg (be2 ka 4)) tup, .int (sg (be2 ka 6)) tdn, .ref TW, .ref TL]) :: (TL, tupo ws) :: (TW, tupo vs) :: news) → (∀ q ∈ news, q.1 < TW) → TW < TL → TL < T → Q (.ref T) { s with heap := h', toks := tk' })
    (flt : ∀ n, firstF (faults kh ka km kx) = some n → ∀ t h' tk', Fr h₀ L h' m → News h₀ L h' news → Q (.int n t) { s with heap := h', toks := tk' }) :
    wpAny (model prog w) (ktrTop dp un gd cn cs L a ccd cl outer) (call (.ref 315) [.ref D]) Q E s := by
  subst hout
  (refine wpAny_call ?_; k_dflt (refine' code_raw ?k1 ?k2 ?k3 ?k4 ?k5 ?kA ?kF ?kK ?k6 ?k7 ?k8 ?k9 ?kB ?_ ?c2 ?c3 ?c4 ?c5; (case kA => exact rfl); (case kF => exact rfl); (case kK => first | exact rfl | assumption); (case k1 => k_asm); (case k2 => k_asm); (case k3 => k_asm); (case k4 => k_asm); (case k5 => k_asm); (case k6 => k_is); (case k7 => k_is); (case k8 => first | exact room0 (by assumption) | omega | (dsimp only [ktrTop]; omega) | (show dp + 1 < recursionLimit; omega)); (case k9 => first | exact BindsTo.of_eq rfl | exact binds_K (by k_in) rfl (by k_is) rfl rfl rfl | fail "enter: no rule for these arguments"); (case c5 => decide); (case kB => exact locs rfl); (case c2 => exact rfl); (case c3 => exact rfl); (case c4 => exact rfl); k_whole; intro g' L' h' FG' F' N' B' X' T' stG' lvG'; (try dsimp only); (try k_lift B'); (try k_fold)))
  k_steps
  k_dflt (refine' read_law ?zB ?zF ?zX ?zN ?zT ?zk ?zd ?zu ?zD hlo hd hkh hka hkx hkm lh la va lm lm2 vm c1 c2 lx lx2 ?zret ?zraise)
  case zB => k_asm
  case zF => k_asm
  case zX => k_asm
  case zN => k_asm
  case zT => k_asm
  case zk => first | exact rfl | assumption
  case zd => first | omega | (dsimp only [ktrTop]; omega)
  case zu => first | omega | (dsimp only [ktrTop]; omega)
  case zD => exact hD
  case zret =>
    intro hno mn ct hmn hct x' dx' TW' TL' vs' ws' tu' tup' tdn' k1' k2' k3' k4' k5' h' tk' hv9 hw9 F9 N9 l1 l2 l3 l4
    have l10 := l1
    (try k_lt l1); (try k_lt2 l2); (try k_lt2 l3); (try k_lt2 l4)
    k_steps
    rename Fr _ _ _ _ => Fz
    rename News _ _ _ _ => Nz
    obtain ⟨Fy, Ny⟩ := lvG' ⟨_, s.gens, s.drawn, 0, s.os⟩ _ _ Fz Nz
    exact ret hno mn ct hmn hct _ _ _ _ _ _ _ _ _ _ hv9 hw9 Fy (news_sub Ny fun q hq => mem3 hq) (fun q hq => Nat.lt_trans (l10 q hq) (Nat.lt_trans l2 l3)) l4 (And.left (by assumption))
  case zraise =>
    intro n hn g e h' tk' F9 R9 U9
    have hL0 := kts_self F
    refine flt_caught (h₀ := h₀) R9 F9 B' U9 X T stG' ?zof ?zex ?zq ?zk2
    case zof =>
      intro b hb
      have hbL : b = L := by simpa using hb
      rw [hbL]
      exact hL0
    case zex => k_is
    case zq => kts_isx
    case zk2 =>
      intro h4 g4 tk4 oe vs dx what tw ta k1 k2 T4 st4 F4 N4 hc hdx hdt K4 X4 P4
      have I4 : InstAt h4 e oe 61 (some (Pb.flt w.params what tw n ta k1 k2)) := ⟨(N4 _ (.head _)).1, hc, by unfold notCls; rw [hdt], by rw [hdx]; exact (N4 _ (.tail _ (.head _))).1⟩
      k_steps
      rename Fr _ _ _ _ => Fz
      rename News _ _ _ _ => Nz
      exact flt n hn _ _ _ (seen_back FG' T4 st4 Fz) fun q hq => ⟨(Nz q (.tail _ (.tail _ hq))).1, (N q hq).2⟩
end
end

section
section
variable {prog : Program} {w : World} {A : Around} {E : Value → Shared → Prop} {s : Shared} {h₀ : Heap} {L : Addr} {m : Str → Option Value} {env : Env} {elt : Expr} {x : Str} {scope : Scope} {cl : List (Str × Addr)} {S : List (Addr × Obj) → Prop} {P : Nat → Value → Prop} {Fin : List Value → List (Addr × Obj) → Prop} {news : List (Addr × Obj)}
theorem crest {n : Nat} (J : Nat → List Value → List (Addr × Obj) → Prop) (hj : J 0 [] news)
    (turn : ∀ i v I oI C oC D m₂ ys nw h tk (E' : Value → Shared → Prop), i < n → P i v → J i ys nw → LCg.NsObj oC m₂ → m₂ x = some v → Fr h₀ L h m → News h₀ L h ((I, oI) :: (C, oC) :: (D, LCg.lst ys) :: nw) → LCg.Off3 I C D nw → ((@Ne Nat I C) ∧ (@Ne Nat I D) ∧ (@Ne Nat C D)) →
      wpAny (model prog w) A (eval elt (compEnvC scope cl C env)) (LCg.CompEnd h₀ L m { s with heap := h, toks := tk } I oI C oC D (LCg.lst ys) S (fun y news' => J (i + 1) (ys ++ [y]) news')) E' { s with heap := h, toks := tk })
    (fin : ∀ ys nw, J n ys nw → Fin ys nw) : LCg.CompRest prog w A h₀ L m env elt x scope cl s S P Fin n 0 [] news := by
  have key : ∀ (j i : Nat) (ys : List Value) (nw : List (Addr × Obj)), i + j = n → J i ys nw → LCg.CompRest prog w A h₀ L m env elt x scope cl s S P Fin j i ys nw := by
    intro j
    induction j with
    | zero =>
      intro i ys nw hi hy
      have e : i = n := by omega
      subst e
      exact LCg.CompRest.zero (fin ys nw hy)
    | succ j ih =>
      intro i ys nw hi hy
      refine LCg.CompRest.succ fun v I oI C oC D m₂ h tk E' hv hC hx F N off ne => ?_
      refine wpAny_mono (turn i v I oI C oC D m₂ ys nw h tk E' (by omega) hv hy hC hx F N off ne) (fun y s₂ hq => ?_) fun _ _ e => e
      obtain ⟨h', tk', nw', e, F', N', off', hS, hJ⟩ := hq
      exact ⟨h', tk', nw', e, F', N', off', hS, ih (i + 1) _ nw' (by omega) hJ⟩
  exact key n 0 [] news (by omega) hj
def StepSrc (prog : Program) (w : World) (A : Around) (h₀ : Heap) (L : Addr) (m : Str → Option Value) (env : Env) (elt : Expr) (x : Str) (scope : Scope) (cl : List (Str × Addr)) (Q : Value → Shared → Prop) (xv : Value) (s₁ : Shared) : Prop :=
  ∃ r a b c t u v n news, xv = .ref r ∧ A.handled = none ∧ Fr h₀ L s₁.heap m ∧ News h₀ L s₁.heap news ∧ IsRange s₁.heap r a b c t u v ∧ Builtin.Range.small a b c = true ∧ Builtin.Range.rangeSize a b c = ((n : Nat) : Int) ∧ n ≤ sizeLine ∧
    ∀ s₂ : Shared, (∃ h, s₂ = { s₁ with heap := h }) → LCg.CompRest prog w A h₀ L m env elt x scope cl s₂ (fun _ => True) (fun i v => ∃ t, v = .int (a + (i : Int) * c) t) (LCg.FinE h₀ L m s₂ Q) n 0 [] news
theorem comp_step {iter : Expr} {px : Pos} {pos : Pos} {Q : Value → Shared → Prop} (_F : Fr h₀ L s.heap m)
    (hclos : closureFor scope env = pure cl) (hcell : ∀ y ∈ scope.names, y.2 ≠ .cell) (hkind : scope.kind = .function)
    (hnames : ∀ y ∈ scope.names, y.2 = .local → scope.names.lookup y.1 = some .local) (hx : scope.names.lookup x = some .local)
    (h : wpAny (model prog w) A (eval iter env) (StepSrc prog w A h₀ L m env elt x scope cl Q) E s)
    (hs : ∀ x, foldedSetIterable iter env x = pure x := by intro _; rfl) :
    wpAny (model prog w) A (eval (.ListComp elt [⟨.Name x px, iter, [], 0⟩] scope pos) env) Q E s := by
  rw [eval_ListComp]
  refine wpAny_comprehension_free (use := none) rfl hs hclos hkind hnames (wpAny_mono h (fun xv s₁ h₁ => ?_) fun _ _ e => e)
  obtain ⟨r, a, b, c, t, u, v, n, news, rfl, hh, F, N, hr, hsm, hn, hsz, R⟩ := h₁
  have grow : ∀ (o' : Obj) b o, s₁.heap.get? b = some o → (s₁.heap.push o').get? b = some o := fun o' b o e => Heap.get?_push_of_some _ e
  refine wpAny_pyIter_range hr hsm (LCg.block_U (Walks.range hh _ a c n) hsz (fun i h st => ⟨_, st⟩) (fun i h h' o nw st e e' _ _ _ => ?_) hcell hkind hx ?_ (fun b hb => ?_)
    (F.keeps (grow _)) (N.grown (grow _)) (Nat.ne_of_lt F.ns.lt) (next_is_new F) (fun p hp => Nat.ne_of_lt (Heap.lt_size (N p hp).1)) trivial (R _ ⟨_, rfl⟩) fun D C h tk m' ys news' F' N' o1 hn' hC₀ hD₀ hCL hDL hCD offC fin => ?_)
  · have st' : h.get? _ = some _ := st
    have e2 := e.symm.trans st'
    show h'.get? _ = some _
    rw [e', e2]
  · show IsRangeIter _ _ _ _ _
    rw [hn]
    simpa using Heap.get?_push_size _ rfl
  · rw [List.mem_singleton.mp hb]
    show s₁.heap.objs.size < (s₁.heap.push _).objs.size
    rw [Heap.size_push]
    exact Nat.lt_succ_self _
  · refine ⟨m', hn', fun h'' hs'' => fin D h'' tk (F'.change hs'' hCL hC₀) (fun p hp => ⟨hs''.extBut _ _ ?_ (N' p hp).1, (N' p hp).2⟩) o1⟩
    rcases List.mem_cons.mp hp with rfl | hp
    · exact Ne.symm hCD
    · exact offC p hp
end
end

section
local macro_rules | `(tactic| k_all) => `(tactic| assumption)
local macro_rules | `(tactic| walk_at "eval ListComp") => `(tactic| (k_here; k_dflt (refine comp_step (by k_asm) (by with_unfolding_all rfl) (by decide) (by rfl) (by decide) (by rfl) ?_)))
local macro_rules | `(tactic| walk_at "CompEnd") => `(tactic| fail "mine")
theorem oct_el {n : Int} {p q : Int} (e : p = q) (hq : 0 ≤ q) : (n.fdiv p).fmod 256 = n / q % 256 := by
  rw [e, Int.fdiv_eq_ediv_of_nonneg _ hq, Int.fmod_eq_emod_of_nonneg _ (by decide)]
def b2 (n : Int) : List Int := [n / 256 % 256, n / 1 % 256]
def b4 (n : Int) : List Int := [n / 16777216 % 256, n / 65536 % 256, n / 256 % 256, n / 1 % 256]
theorem mod_in (n : Int) : 0 ≤ n % 256 ∧ n % 256 < 256 := ⟨Int.emod_nonneg _ (by decide), Int.emod_lt_of_pos _ (by decide)⟩
section
variable {w : World} {loose : List Str} {mean : ExcName → Option Value} {mg mb : Str → Option Value}
    {dp un : Nat} {gd : Option (List Code)} {cn : Str} {cs : Scope} {a : Addr} {ccd : Value} {cl : List (Str × Addr)} {outer : List Env} {A₀ : Around} {base h₀ : Heap} {L : Addr} {m : Str → Option Value} {s : Shared} {Q E : Value → Shared → Prop}
    {news : List (Addr × Obj)}
theorem oct2 {n : Int} {tn tc : Tok} (B : Below A₀ base outer h₀) (F : Fr h₀ L s.heap m) (X : (K w.params).In h₀) (N : News h₀ L s.heap news) (T : Top vw loose mean mg mb h₀) (hkd : cs.kind = .function) (hdp : dp + 2 < recursionLimit) (hun : un + 20 < cLine)
    (ret : ∀ d t h' tk', KBw.bInts d = b2 n → Fr h₀ L h' m → News h₀ L h' news → Q (.bytes d t) { s with heap := h', toks := tk' }) :
    wpAny (model prog w) (ktrTop dp un gd cn cs L a ccd cl outer) (call (.ref 282) [.int n tn, .int 2 tc]) Q E s := by
  (refine wpAny_call ?_; k_dflt (refine' code_defC ?k1 ?k2 ?k3 ?k4 ?k5 ?kA ?kF ?kK ?k6 ?k7 ?k8 ?k9 ?kB ?kD ?_ ?c2 ?c3 ?c4; (case kA => exact rfl); (case kF => exact rfl); (case kK => first | exact rfl | assumption); (case k1 => k_asm); (case k2 => k_asm); (case k3 => k_asm); (case k4 => k_asm); (case k5 => k_asm); (case k6 => k_is); (case k7 => k_is); (case k8 => first | exact room0 (by assumption) | omega | (dsimp only [ktrTop]; omega) | (show dp + 1 < recursionLimit; omega)); (case k9 => first | exact BindsTo.of_eq rfl | exact binds_K (by k_in) rfl (by k_is) rfl rfl rfl | fail "enter: no rule for these arguments"); (case kB => exact rfl); (case kD => decide +kernel); (case c2 => exact rfl); (case c3 => exact rfl); (case c4 => exact rfl); k_whole; intro g' L' h' tk' cells' FG' F' N' Y' B' X' T' l1; (try k_lt l1); k_cells Y'; (try simp only [List.cons_append, List.nil_append] at N'); (try dsimp only); (try k_lift B'); (try k_fold)))
  k_steps
  rename IsRange _ _ _ _ _ _ _ _ => rg
  rename Fr _ _ _ _ => F1
  rename News _ _ _ _ => N1
  refine ⟨_, _, _, _, _, _, _, 2, _, rfl, rfl, F1, N1, rg, by decide, by rfl, by decide, ?_⟩
  rintro s₂ ⟨hp, rfl⟩
  refine crest (fun i ys nw => nw = _ ∧ IntsAre ys ((b2 n).take i)) ⟨rfl, .nil⟩ ?_ ?_
  · rintro i v I oI C oC D m₂ ys nw h tk E' hi ⟨tv, rfl⟩ ⟨rfl, hy⟩ hC hx F2 N2 off ne
    clear F1 N1
    match i, hi with
    | 0, _ =>
      k_steps
      exact ⟨_, _, _, rfl, F2, N2, off, trivial, rfl, hy.append (ms := [n / 256 % 256]) (by rw [oct_el (q := 256) (by decide) (by decide)]; exact .cons _ _ .nil)⟩
    | 1, _ =>
      k_steps
      exact ⟨_, _, _, rfl, F2, N2, off, trivial, rfl, hy.append (ms := [n / 1 % 256]) (by rw [oct_el (q := 1) (by decide) (by decide)]; exact .cons _ _ .nil)⟩
  · rintro ys nw ⟨rfl, hy⟩
    intro D h tk F2 N2 o1
    clear F1 N1
    k_steps
    show wpAny _ _ (call (Value.type "bytes") [Value.ref D]) _ _ _
    refine KBa.make_K F2 N2 rfl ⟨LCg.lst ys, (N2 (D, LCg.lst ys) (.head _)).1, rfl, _, rfl⟩ hy ?_ (Nat.le_of_ble_eq_true rfl) ?_
    · intro x hx
      simp only [b2, List.take, List.mem_cons, List.not_mem_nil, or_false] at hx
      rcases hx with rfl | rfl <;> exact mod_in _
    · intro h' t' k F3 N3 hin
      k_steps
      exact ret _ _ _ _ (KBa.ints_make hin) (by assumption) (news_sub (by assumption) fun q hq => .tail _ (.tail _ hq))
theorem oct4 {n : Int} {tn tc : Tok} (B : Below A₀ base outer h₀) (F : Fr h₀ L s.heap m) (X : (K w.params).In h₀) (N : News h₀ L s.heap news) (T : Top vw loose mean mg mb h₀) (hkd : cs.kind = .function) (hdp : dp + 2 < recursionLimit) (hun : un + 20 < cLine)
    (ret : ∀ d t h' tk', KBw.bInts d = b4 n → Fr h₀ L h' m → News h₀ L h' news → Q (.bytes d t) { s with heap := h', toks := tk' }) :
    wpAny (model prog w) (ktrTop dp un gd cn cs L a ccd cl outer) (call (.ref 282) [.int n tn, .int 4 tc]) Q E s := by
  (refine wpAny_call ?_; k_dflt (refine' code_defC ?k1 ?k2 ?k3 ?k4 ?k5 ?kA ?kF ?kK ?k6 ?k7 ?k8 ?k9 ?kB ?kD ?_ ?c2 ?c3 ?c4; (case kA => exact rfl); (case kF => exact rfl); (case kK => first | exact rfl | assumption); (case k1 => k_asm); (case k2 => k_asm); (case k3 => k_asm); (case k4 => k_asm); (case k5 => k_asm); (case k6 => k_is); (case k7 => k_is); (case k8 => first | exact room0 (by assumption) | omega | (dsimp only [ktrTop]; omega) | (show dp + 1 < recursionLimit; omega)); (case k9 => first | exact BindsTo.of_eq rfl | exact binds_K (by k_in) rfl (by k_is) rfl rfl rfl | fail "enter: no rule for these arguments"); (case kB => exact rfl); (case kD => decide +kernel); (case c2 => exact rfl); (case c3 => exact rfl); (case c4 => exact rfl); k_whole; intro g' L' h' tk' cells' FG' F' N' Y' B' X' T' l1; (try k_lt l1); k_cells Y'; (try simp only [List.cons_append, List.nil_append] at N'); (try dsimp only); (try k_lift B'); (try k_fold)))
  k_steps
  rename IsRange _ _ _ _ _ _ _ _ => rg
  rename Fr _ _ _ _ => F1
  rename News _ _ _ _ => N1
  refine ⟨_, _, _, _, _, _, _, 4, _, rfl, rfl, F1, N1, rg, by decide, by rfl, by decide, ?_⟩
  rintro s₂ ⟨hp, rfl⟩
  refine crest (fun i ys nw => nw = _ ∧ IntsAre ys ((b4 n).take i)) ⟨rfl, .nil⟩ ?_ ?_
  · rintro i v I oI C oC D m₂ ys nw h tk E' hi ⟨tv, rfl⟩ ⟨rfl, hy⟩ hC hx F2 N2 off ne
    clear F1 N1
    match i, hi with
    | 0, _ =>
      k_steps
      exact ⟨_, _, _, rfl, F2, N2, off, trivial, rfl, hy.append (ms := [n / 16777216 % 256]) (by rw [oct_el (q := 16777216) (by decide) (by decide)]; exact .cons _ _ .nil)⟩
    | 1, _ =>
      k_steps
      exact ⟨_, _, _, rfl, F2, N2, off, trivial, rfl, hy.append (ms := [n / 65536 % 256]) (by rw [oct_el (q := 65536) (by decide) (by decide)]; exact .cons _ _ .nil)⟩
    | 2, _ =>
      k_steps
      exact ⟨_, _, _, rfl, F2, N2, off, trivial, rfl, hy.append (ms := [n / 256 % 256]) (by rw [oct_el (q := 256) (by decide) (by decide)]; exact .cons _ _ .nil)⟩
    | 3, _ =>
      k_steps
      exact ⟨_, _, _, rfl, F2, N2, off, trivial, rfl, hy.append (ms := [n / 1 % 256]) (by rw [oct_el (q := 1) (by decide) (by decide)]; exact .cons _ _ .nil)⟩
  · rintro ys nw ⟨rfl, hy⟩
    intro D h tk F2 N2 o1
    clear F1 N1
    k_steps
    show wpAny _ _ (call (Value.type "bytes") [Value.ref D]) _ _ _
    refine KBa.make_K F2 N2 rfl ⟨LCg.lst ys, (N2 (D, LCg.lst ys) (.head _)).1, rfl, _, rfl⟩ hy ?_ (Nat.le_of_ble_eq_true rfl) ?_
    · intro x hx
      simp only [b4, List.take, List.mem_cons, List.not_mem_nil, or_false] at hx
      rcases hx with rfl | rfl | rfl | rfl <;> exact mod_in _
    · intro h' t' k F3 N3 hin
      k_steps
      exact ret _ _ _ _ (KBa.ints_make hin) (by assumption) (news_sub (by assumption) fun q hq => .tail _ (.tail _ hq))
end
end
local macro_rules | `(tactic| walk_at "eval ListComp") => `(tactic| (k_here; k_dflt (refine comp_step (by k_asm) (by with_unfolding_all rfl) (by decide) (by rfl) (by decide) (by rfl) ?_)))
local macro_rules | `(tactic| walk_at "CompEnd") => `(tactic| fail "mine")

section
local macro_rules | `(tactic| k_all) => `(tactic| assumption)
abbrev tape (ca : Addr) (i : Int) (t : Tok) (n1 : Nat) : Obj := PySem.W.listOf [.ref ca, .int i t].toArray n1
section
variable {w : World} {loose : List Str} {mean : ExcName → Option Value} {mg mb : Str → Option Value}
    {dp un : Nat} {gd : Option (List Code)} {cn : Str} {cs : Scope} {a : Addr} {ccd : Value} {cl : List (Str × Addr)} {outer : List Env} {A₀ : Around} {base h₀ : Heap} {L : Addr} {m : Str → Option Value} {s : Shared} {Q E : Value → Shared → Prop}
    {news : List (Addr × Obj)}
theorem draw_ok {tp ca : Addr} {n1 n2 : Nat} {vs : List Value} {ns : List Int} {i many : Int} {t tm : Tok} {g : Obj → List (Addr × Obj)} (B : Below A₀ base outer h₀) (F : Fr h₀ L s.heap m) (X : (K w.params).In h₀) (N : News h₀ L s.heap news) (T : Top vw loose mean mg mb h₀) (hkd : cs.kind = .function) (hdp : dp + 2 < recursionLimit) (hun : un + 12 < cLine)
    (U : UpdF tp (tape ca i t n1) news g) (hca : (ca, PySem.W.listOf vs.toArray n2) ∈ news) (hne : ca ≠ tp) (hi : IntsAre vs ns) (hlo : 0 < ns.length) (hhi : ns.length ≤ 60) (hi0 : 0 ≤ i) (hi1 : i ≤ 200) (hm0 : 0 < many) (hm1 : many ≤ 65536)
    (ret : ∀ (v : Int) (t1 t2 : Tok) h' tk', 0 ≤ v → v < many → Fr h₀ L h' m → News h₀ L h' (g (tape ca (i + 1) t2 n1)) → Q (.int v t1) { s with heap := h', toks := tk' }) :
    wpAny (model prog w) (ktrTop dp un gd cn cs L a ccd cl outer) (call (.ref 277) [.ref tp, .int many tm]) Q E s := by
  obtain ⟨rest, N, hr, hsub, -, hg⟩ := updF_open U N
  replace N := news_add N (hsub _ hca hne)
  clear hsub hca U
  (refine wpAny_call ?_; k_dflt cell_enter)
  k_steps
  refine ret _ _ _ _ _ ?_ ?_ (by assumption) (hg _ _ (news_cut (by assumption)))
  · exact Int.fmod_nonneg_of_pos _ hm0
  · exact Int.fmod_lt_of_pos _ hm0
theorem sgn_ok {n : Int} {tn : Tok} (B : Below A₀ base outer h₀) (F : Fr h₀ L s.heap m) (X : (K w.params).In h₀) (N : News h₀ L s.heap news) (T : Top vw loose mean mg mb h₀) (hkd : cs.kind = .function) (hdp : dp + 1 < recursionLimit) (hun : un + 8 < cLine)
    (ret : ∀ t h' tk', Fr h₀ L h' m → News h₀ L h' news → Q (.int (sg n) t) { s with heap := h', toks := tk' }) :
    wpAny (model prog w) (ktrTop dp un gd cn cs L a ccd cl outer) (call (.ref 294) [.int n tn]) Q E s := by
  (refine wpAny_call ?_; k_dflt cell_enter)
  k_steps
  · exact cast_q (ret _ _ _ (by assumption) (by assumption)) (by unfold sg; rw [if_pos (by assumption)])
  · exact cast_q (ret _ _ _ (by assumption) (by assumption)) (by unfold sg; rw [if_neg (by omega)])
end
end
local macro_rules | `(tactic| walk_at "call ref") => `(tactic| first | (k_here; (with_reducible show wpAny _ _ (call (Value.ref 282) _) _ _ _); k_dflt (refine' oct4 (by k_asm) (by k_asm) (by k_asm) (by k_asm) (by k_asm) (by walk_at "hk") (by walk_at "hr") (by walk_at "hr") ?_; k_whole); intro d' t' h' tk' hd' F' N'; walk_at "kend") | (k_here; (with_reducible show wpAny _ _ (call (Value.ref 282) _) _ _ _); k_dflt (refine' oct2 (by k_asm) (by k_asm) (by k_asm) (by k_asm) (by k_asm) (by walk_at "hk") (by walk_at "hr") (by walk_at "hr") ?_; k_whole); intro d' t' h' tk' hd' F' N'; walk_at "kend") | (k_here; (with_reducible show wpAny _ _ (call (Value.ref 277) _) _ _ _); k_dflt (refine' draw_ok (by k_asm) (by k_asm) (by k_asm) (by k_asm) (by k_asm) (by walk_at "hk") (by walk_at "hr") (by walk_at "hr") (by k_updF) (by k_mem) (by k_ne) (by assumption) (by assumption) (by assumption) (by omega) (by omega) (by first | decide | omega) (by first | decide | omega) ?_; k_whole); intro v' t1' t2' h' tk' hlo' hhi' F' N'; walk_at "kend"))
section
local macro_rules | `(tactic| k_all) => `(tactic| assumption)
local macro_rules | `(tactic| k_ne) => `(tactic| (refine neN ?_; (try dsimp only); first | assumption | exact Ne.symm (by assumption)))
section
variable {w : World} {loose : List Str} {mean : ExcName → Option Value} {mg mb : Str → Option Value}
    {dp un : Nat} {gd : Option (List Code)} {cn : Str} {cs : Scope} {a : Addr} {ccd : Value} {cl : List (Str × Addr)} {outer : List Env} {A₀ : Around} {base h₀ : Heap} {L : Addr} {m : Str → Option Value} {s : Shared} {Q E : Value → Shared → Prop}
    {news : List (Addr × Obj)}
theorem fill_ok {tp ca : Addr} {n1 n2 c : Nat} {vs : List Value} {ns : List Int} {i count : Int} {t tm : Tok} {g : Obj → List (Addr × Obj)} (B : Below A₀ base outer h₀) (F : Fr h₀ L s.heap m) (X : (K w.params).In h₀) (N : News h₀ L s.heap news) (T : Top vw loose mean mg mb h₀) (hkd : cs.kind = .function) (hdp : dp + 4 < recursionLimit) (hun : un + 30 < cLine)
    (U : UpdF tp (tape ca i t n1) news g) (hca : (ca, PySem.W.listOf vs.toArray n2) ∈ news) (hne : ca ≠ tp) (hi : IntsAre vs ns) (hlo : 0 < ns.length) (hhi : ns.length ≤ 60) (hcc : count = (c : Int)) (hc : c ≤ 60) (hi0 : 0 ≤ i) (hi1 : i + c ≤ 200)
    (ret : ∀ d t1 t2 h' tk' ks, KBw.bInts d = ks → ks.length = c → Fr h₀ L h' m → News h₀ L h' (g (tape ca (i + c) t2 n1)) → Q (.bytes d t1) { s with heap := h', toks := tk' }) :
    wpAny (model prog w) (ktrTop dp un gd cn cs L a ccd cl outer) (call (.ref 287) [.ref tp, .int count tm]) Q E s := by
  subst hcc
  obtain ⟨rest, N, hr, hsub, -, hg⟩ := updF_open U N
  replace N := news_add N (hsub _ hca hne)
  clear hsub hca U
  (refine wpAny_call ?_; k_dflt (refine' code_defC ?k1 ?k2 ?k3 ?k4 ?k5 ?kA ?kF ?kK ?k6 ?k7 ?k8 ?k9 ?kB ?kD ?_ ?c2 ?c3 ?c4; (case kA => exact rfl); (case kF => exact rfl); (case kK => first | exact rfl | assumption); (case k1 => k_asm); (case k2 => k_asm); (case k3 => k_asm); (case k4 => k_asm); (case k5 => k_asm); (case k6 => k_is); (case k7 => k_is); (case k8 => first | exact room0 (by assumption) | omega | (dsimp only [ktrTop]; omega) | (show dp + 1 < recursionLimit; omega)); (case k9 => first | exact BindsTo.of_eq rfl | exact binds_K (by k_in) rfl (by k_is) rfl rfl rfl | fail "enter: no rule for these arguments"); (case kB => exact rfl); (case kD => decide +kernel); (case c2 => exact rfl); (case c3 => exact rfl); (case c4 => exact rfl); k_whole; intro g' L' h' tk' cells' FG' F' N' Y' B' X' T' l1; (try k_lt l1); k_cells Y'; (try simp only [List.cons_append, List.nil_append] at N'); (try dsimp only); (try k_lift B'); (try k_fold)))
  k_steps
  rename IsRange _ _ _ _ _ _ _ _ => rg
  rename Fr _ _ _ _ => F1
  rename News _ _ _ _ => N1
  refine ⟨_, _, _, _, _, _, _, c, _, rfl, rfl, F1, N1, rg, small_one (by omega) (by omega) (by omega) (by omega), by rw [rangeSize_nat]; omega, by rw [PySem.sizeLine_eq]; omega, ?_⟩
  rintro s₂ ⟨hp, rfl⟩
  refine crest (fun j ys nw => ∃ i2 t2 ks, i2 = i + (j : Int) ∧ nw = _ :: (tp, tape ca i2 t2 n1) :: (ca, PySem.W.listOf vs.toArray n2) :: rest ∧ IntsAre ys ks ∧ ks.length = j ∧ KBa.In ks) ⟨i, t, [], by omega, rfl, .nil, rfl, fun _ h => nomatch h⟩ ?_ ?_
  · rintro j v I oI C oC D m₂ ys nw h tk E' hj ⟨tv, rfl⟩ ⟨i2, t2, ks, hi2, rfl, hy, hk, hin⟩ hC hx F2 N2 off ne
    clear F1 N1
    have off' := off
    simp only [LCg.Off3, and_true] at off
    obtain ⟨_, _, _⟩ := ne
    obtain ⟨⟨_, _, _⟩, ⟨_, _, _⟩, ⟨_, _, _⟩, _⟩ := off
    k_steps
    rename Fr _ _ _ _ => F3
    rename News _ _ _ _ => N3
    refine ⟨_, _, _, rfl, F3, N3, off', trivial, _, _, ks ++ [_], ?_, rfl, hy.append (.cons _ _ .nil), ?_, ?_⟩
    · omega
    · simp [hk]
    · intro x hx
      rcases List.mem_append.mp hx with hx | hx
      · exact hin x hx
      · rw [List.mem_singleton.mp hx]
        exact ⟨by assumption, by assumption⟩
  · rintro ys nw ⟨i2, t2, ks, hi2, rfl, hy, hk, hin⟩
    intro D h tk F2 N2 o1
    clear F1 N1
    k_steps
    subst hi2
    exact ret _ _ _ _ _ _ (KBa.ints_make hin) hk (by assumption) (hg _ _ (news_cut (news_sub (by assumption) fun q hq => .tail _ (.tail _ hq))))
theorem fill_int {tp ca : Addr} {n1 n2 : Nat} {vs : List Value} {ns : List Int} {i count : Int} {t tm : Tok} {g : Obj → List (Addr × Obj)} (B : Below A₀ base outer h₀) (F : Fr h₀ L s.heap m) (X : (K w.params).In h₀) (N : News h₀ L s.heap news) (T : Top vw loose mean mg mb h₀) (hkd : cs.kind = .function) (hdp : dp + 4 < recursionLimit) (hun : un + 30 < cLine)
    (U : UpdF tp (tape ca i t n1) news g) (hca : (ca, PySem.W.listOf vs.toArray n2) ∈ news) (hne : ca ≠ tp) (hi : IntsAre vs ns) (hlo : 0 < ns.length) (hhi : ns.length ≤ 60) (hc0 : 0 ≤ count) (hc : count ≤ 60) (hi0 : 0 ≤ i) (hi1 : i + count ≤ 200)
    (ret : ∀ d t1 t2 h' tk' ks, KBw.bInts d = ks → ks.length = count.toNat → Fr h₀ L h' m → News h₀ L h' (g (tape ca (i + count) t2 n1)) → Q (.bytes d t1) { s with heap := h', toks := tk' }) :
    wpAny (model prog w) (ktrTop dp un gd cn cs L a ccd cl outer) (call (.ref 287) [.ref tp, .int count tm]) Q E s :=
  fill_ok (c := count.toNat) B F X N T hkd hdp hun U hca hne hi hlo hhi (Int.toNat_of_nonneg hc0).symm (by omega) hi0 (by omega) fun d t1 t2 h' tk' ks a b c e => ret d t1 t2 h' tk' ks a b c (by rw [Int.toNat_of_nonneg hc0] at e; exact e)
end
end
local macro_rules | `(tactic| walk_at "call ref") => `(tactic| (k_here; (with_reducible show wpAny _ _ (call (Value.ref 287) _) _ _ _); k_dflt (refine' fill_int (by k_asm) (by k_asm) (by k_asm) (by k_asm) (by k_asm) (by walk_at "hk") (by walk_at "hr") (by walk_at "hr") (by k_updF) (by k_mem) (by k_ne) (by assumption) (by assumption) (by assumption) (by omega) (by omega) (by omega) (by omega) ?_; k_whole); intro d' t1' t2' h' tk' ks' hd' hl' F' N'; walk_at "kend"))

section
theorem int_no_bytes : typeLookup (.type "int") "__bytes__" = pure none := by rw [typeLookup_type, builtinLookup_eq_fast]; kernel_rfl
theorem int_index : typeLookup (.type "int") "__index__" = pure (some (.builtin "int.__index__")) := by rw [typeLookup_type, builtinLookup_eq_fast]; kernel_rfl
section
variable {prog : Program} {w : World} {A : Around} {E : Value → Shared → Prop} {s : Shared} {n : Int} {t : Tok}
theorem cnt_new {Q : Value → Shared → Prop} (h0 : 0 ≤ n) (h1 : n ≤ 1000) (hQ : ∀ t k, Q (.bytes (Array.replicate n.toNat 0) t) { s with toks := k }) :
    codeAny (model prog w) A (.call (.builtin "bytes.__new__") ⟨[.type "bytes", .int n t], []⟩) (wants Q E) s := by
  refine codeAny_of_tree ?_
  show wpAny _ A.in1 (do checkBuiltinCall "bytes.__new__" ⟨[.type "bytes", .int n t], []⟩; again (.builtin "bytes.__new__" ⟨[.type "bytes", .int n t], []⟩)) _ _ s
  refine wpAny_bind (wpAny_of_eq (PySem.F.bm_newCall _) (wpAny_pure ⟨plainId_quiet PySem.F.bm_plain _, codeAny_builtin PySem.F.bm_entry ?_⟩))
  rw [Around.under_plainId PySem.F.bm_plain _]
  have hT : s.TypeIs (.int n t) "int" := rfl
  have cf : ¬ ((!Builtin.Bytes.fitsIndex n) = true) := by unfold Builtin.Bytes.fitsIndex; simp; omega
  have ct : ¬ (Builtin.Bytes.tooLong n.toNat = true) := by unfold Builtin.Bytes.tooLong; simp [PySem.sizeLine_eq]; omega
  unfold Builtin.«bytes.__new__»
  refine wpAny_bind (wpAny_of_eq (a := true) rfl ?_)
  refine bm_if_false rfl ?_
  refine wpAny_bind (wpAny_of_eq PySem.F.bm_sub ?_)
  refine bm_if_false rfl ?_
  refine wpAny_bind (wpAny_of_eq (PySem.F.bm_bind _) ?_)
  refine wpAny_bind (wpAny_of_eq (a := ()) rfl ?_)
  refine wpAny_bind (wpAny_of_eq (a := ()) rfl ?_)
  refine bm_if_false rfl ?_
  refine wpAny_bind (wpAny_specialOf hT int_no_bytes ?_)
  refine wpAny_bind (wpAny_of_eq (a := false) rfl ?_)
  refine bm_if_false rfl ?_
  refine wpAny_bind (wpAny_specialOf hT int_index ?_)
  refine bm_if_false rfl ?_
  refine wpAny_bind (wpAny_attempt (wpAny_of_eq (a := n) rfl ?_))
  dsimp only
  rw [if_neg cf, if_neg (by omega), if_neg (by omega), if_neg ct]
  refine wpAny_bind (wpAny_rule ?_)
  refine wpAny_bind (wpAny_mkBytes ?_ (by rw [Array.size_replicate, PySem.sizeLine_eq]; omega))
  show wpAny _ _ (if (Value.type "bytes" == Value.type "bytes") = true then _ else _) _ _ _
  refine bm_if_true (by decide) ?_
  first
    | exact wpAny_pure (hQ _ _)
    | exact wpAny_bind (wpAny_pure (wpAny_pure (hQ _ _)))
theorem cnt_bytes {Q : Value → Shared → Prop} (h0 : 0 ≤ n) (h1 : n ≤ 1000) (hQ : ∀ t k, KBw.bInts (Array.replicate n.toNat 0) = List.replicate n.toNat 0 → Q (.bytes (Array.replicate n.toNat 0) t) { s with toks := k }) :
    wpAny (model prog w) A (call (.type "bytes") [.int n t]) Q E s := by
  have e : KBw.bInts (Array.replicate n.toNat 0) = List.replicate n.toNat 0 := by simp [KBw.bInts]
  refine callType_codes (Q₁ := fun obj s₁ => s₁.TypeIs obj "bytes" ∧ Q obj s₁) PySem.F.bm_called (PySem.F.bm_typeCall _) PySem.F.entry_object_init
    (cnt_new h0 h1 fun t k => ⟨PySem.W.typeIs_bytes _ _ _, hQ t k e⟩) fun obj s₁ h₁ => ?_
  exact ⟨h₁.1, PySem.F.args_object_init_2 obj _, object_init_meets PySem.F.bm_called.init.lookup PySem.F.bm_called.made (by decide) prog w A.in1 _ s₁ ⟨h₁.1, rfl, h₁.2⟩⟩
end
end

section
theorem at_pre {pre r : List Int} {p : Int} {k : Nat} (hp : p = (pre.length : Int) + k) : at_ (pre ++ r) p = r.getD k 0 := by
  unfold at_
  rw [show p.toNat = pre.length + k by omega, List.getD_eq_getElem?_getD, List.getElem?_append_right (by omega), show pre.length + k - pre.length = k by omega, List.getD_eq_getElem?_getD]
theorem be2_at {pre r : List Int} {v p : Int} (hp : p = (pre.length : Int)) (h0 : 0 ≤ v) (h1 : v < 65536) : be2 (pre ++ (b2 v ++ r)) p = v := by
  unfold be2
  rw [at_pre (k := 0) (by omega), at_pre (k := 1) (by omega)]
  show v / 256 % 256 * 256 + v / 1 % 256 = v
  omega
theorem be4_at {pre r : List Int} {v p : Int} (hp : p = (pre.length : Int)) (h0 : 0 ≤ v) (h1 : v < 4294967296) : be4 (pre ++ (b4 v ++ r)) p = v := by
  unfold be4 be2
  rw [at_pre (k := 0) (by omega), at_pre (k := 1) (by omega), at_pre (k := 2) (by omega), at_pre (k := 3) (by omega)]
  show (v / 16777216 % 256 * 256 + v / 65536 % 256) * 65536 + (v / 256 % 256 * 256 + v / 1 % 256) = v
  omega
theorem b2_l (n : Int) : (b2 n).length = 2 := rfl
theorem b4_l (n : Int) : (b4 n).length = 4 := rfl
theorem head_fin {v mg em : Int} {a8 a2 : List Int} {d : Array UInt8} (hb : KBw.bInts d = ((((b4 v ++ a8) ++ b4 mg) ++ a2) ++ b2 em) ++ List.replicate (Int.toNat 34) 0) (l8 : a8.length = Int.toNat 8) (l2 : a2.length = Int.toNat 2)
    (hv : 0 ≤ v ∧ v < 4294967296) (hm : 0 ≤ mg ∧ mg < 4294967296) (he : 0 ≤ em ∧ em < 65536) : ∃ kh, KBw.bInts d = kh ∧ kh.length = 54 ∧ be4 kh 0 = v ∧ be4 kh 12 = mg ∧ be2 kh 18 = em := by
  have l8' : a8.length = 8 := l8
  have l2' : a2.length = 2 := l2
  refine ⟨_, hb, ?_, ?_, ?_, ?_⟩
  · simp only [List.length_append, b2_l, b4_l, List.length_replicate, l8', l2']
    rfl
  · simp only [List.append_assoc]
    exact be4_at (pre := []) rfl hv.1 hv.2
  · have : ((((b4 v ++ a8) ++ b4 mg) ++ a2) ++ b2 em) ++ List.replicate (Int.toNat 34) 0 = (b4 v ++ a8) ++ (b4 mg ++ (a2 ++ (b2 em ++ List.replicate (Int.toNat 34) 0))) := by simp only [List.append_assoc]
    rw [this]
    exact be4_at (by rw [List.length_append, b4_l, l8']; rfl) hm.1 hm.2
  · have : ((((b4 v ++ a8) ++ b4 mg) ++ a2) ++ b2 em) ++ List.replicate (Int.toNat 34) 0 = (((b4 v ++ a8) ++ b4 mg) ++ a2) ++ (b2 em ++ List.replicate (Int.toNat 34) 0) := by simp only [List.append_assoc]
    rw [this]
    exact be2_at (by simp only [List.length_append, b4_l, l8', l2']; rfl) he.1 he.2
theorem news_cons1 {h₀ h : Heap} {L : Addr} {a : Addr × Obj} {l l2 : List (Addr × Obj)} (N : News h₀ L h (a :: l)) (N2 : News h₀ L h l2) : News h₀ L h (a :: l2) := fun p hp => by
  rcases List.mem_cons.mp hp with rfl | hp
  · exact N _ (.head _)
  · exact N2 p hp
theorem mem_lt {l : List Int} {x b : Int} (h : x ∈ l) (hl : (l.all fun y => decide (0 ≤ y) && decide (y < b)) = true) : 0 ≤ x ∧ x < b := by
  have := List.all_eq_true.mp hl x h
  simpa using this
theorem getD_lt {l : List Int} {n : Nat} {b : Int} (hb : 0 < b) (hl : (l.all fun y => decide (0 ≤ y) && decide (y < b)) = true) : 0 ≤ l.getD n 0 ∧ l.getD n 0 < b := by
  rw [List.getD_eq_getElem?_getD]
  cases h : l[n]? with
  | none => exact ⟨Int.le_refl _, hb⟩
  | some x => exact mem_lt (List.mem_of_getElem? h) hl
theorem hhea_fin {up dn fo mn : Int} {a3 : List Int} {d : Array UInt8} (hb : KBw.bInts d = (((((b4 65536 ++ b2 up) ++ b2 dn) ++ a3) ++ List.replicate (Int.toNat 21) 0) ++ b2 fo) ++ b2 mn) (l3 : a3.length = Int.toNat 3)
    (hu : 0 ≤ up ∧ up < 65536) (hd : 0 ≤ dn ∧ dn < 65536) (hf : 0 ≤ fo ∧ fo < 65536) (hm : 0 ≤ mn ∧ mn < 65536) : ∃ ka, KBw.bInts d = ka ∧ ka.length = 36 ∧ be4 ka 0 = 65536 ∧ be2 ka 4 = up ∧ be2 ka 6 = dn ∧ be2 ka 32 = fo ∧ be2 ka 34 = mn := by
  have l3' : a3.length = 3 := l3
  refine ⟨_, hb, ?_, ?_, ?_, ?_, ?_, ?_⟩
  · simp only [List.length_append, b2_l, b4_l, List.length_replicate, l3']
    rfl
  · simp only [List.append_assoc]
    exact be4_at (pre := []) rfl (by decide) (by decide)
  · simp only [List.append_assoc]
    exact be2_at (by rw [b4_l]; rfl) hu.1 hu.2
  · have : (((((b4 65536 ++ b2 up) ++ b2 dn) ++ a3) ++ List.replicate (Int.toNat 21) 0) ++ b2 fo) ++ b2 mn = (b4 65536 ++ b2 up) ++ (b2 dn ++ (a3 ++ (List.replicate (Int.toNat 21) 0 ++ (b2 fo ++ b2 mn)))) := by simp only [List.append_assoc]
    rw [this]
    exact be2_at (by rw [List.length_append, b4_l, b2_l]; rfl) hd.1 hd.2
  · have : (((((b4 65536 ++ b2 up) ++ b2 dn) ++ a3) ++ List.replicate (Int.toNat 21) 0) ++ b2 fo) ++ b2 mn = ((((b4 65536 ++ b2 up) ++ b2 dn) ++ a3) ++ List.replicate (Int.toNat 21) 0) ++ (b2 fo ++ b2 mn) := by simp only [List.append_assoc]
    rw [this]
    exact be2_at (by simp only [List.length_append, b4_l, b2_l, List.length_replicate, l3']; rfl) hf.1 hf.2
  · have : (((((b4 65536 ++ b2 up) ++ b2 dn) ++ a3) ++ List.replicate (Int.toNat 21) 0) ++ b2 fo) ++ b2 mn = ((((((b4 65536 ++ b2 up) ++ b2 dn) ++ a3) ++ List.replicate (Int.toNat 21) 0) ++ b2 fo)) ++ (b2 mn ++ []) := by rw [List.append_nil]
    rw [this]
    exact be2_at (by simp only [List.length_append, b4_l, b2_l, List.length_replicate, l3']; rfl) hm.1 hm.2
end

section
local macro_rules | `(tactic| k_all) => `(tactic| assumption)
theorem b2_len (n : Int) : (b2 n).length = 2 := rfl
theorem b4_len (n : Int) : (b4 n).length = 4 := rfl
local macro_rules | `(tactic| walk_at "call type:bytes") => `(tactic| (k_here; (with_reducible show wpAny _ _ (call (Value.type "bytes") [Value.int _ _]) _ _ _); k_dflt (refine' cnt_bytes ?za ?zb ?_; (case za => omega); (case zb => omega)); intro ct ck ce))
local macro_rules | `(tactic| walk_at "binaryOp Add bytes bytes") => `(tactic| (k_here; k_dflt (refine' KBa.add_K ?za ?zb ?zc ?_; (case za => with_reducible assumption); (case zb => with_reducible assumption); (case zc => (simp only [List.length_append, List.length_replicate, b2_len, b4_len]; omega))); intro bt bk bh))
theorem faultH_eq {kh : List Int} {v mg em f : Int} (e3 : be4 kh 0 = v) (e4 : be4 kh 12 = mg) (e5 : be2 kh 18 = em)
    (h : (v ≠ 65536 ∧ f = 0) ∨ (v = 65536 ∧ mg ≠ 1594834165 ∧ f = 12) ∨ (v = 65536 ∧ mg = 1594834165 ∧ ¬ (16 ≤ em ∧ em ≤ 16384) ∧ f = 18) ∨ (v = 65536 ∧ mg = 1594834165 ∧ (16 ≤ em ∧ em ≤ 16384) ∧ f = -1)) : f = faultH kh := by
  subst e3 e4 e5
  unfold faultH
  rcases h with ⟨a, rfl⟩ | ⟨a, b, rfl⟩ | ⟨a, b, c, rfl⟩ | ⟨a, b, c, rfl⟩
  · rw [if_pos a]
  · rw [if_neg (fun q => q a), if_pos b]
  · rw [if_neg (fun q => q a), if_neg (fun q => q b), if_pos c]
  · rw [if_neg (fun q => q a), if_neg (fun q => q b), if_neg (fun q => q c)]
section
variable {w : World} {loose : List Str} {mean : ExcName → Option Value} {mg mb : Str → Option Value}
    {dp un : Nat} {gd : Option (List Code)} {cn : Str} {cs : Scope} {a : Addr} {ccd : Value} {cl : List (Str × Addr)} {outer : List Env} {A₀ : Around} {base h₀ : Heap} {L : Addr} {m : Str → Option Value} {s : Shared} {Q E : Value → Shared → Prop}
    {news : List (Addr × Obj)}
theorem head_ok {tp ca : Addr} {n1 n2 : Nat} {vs : List Value} {ns : List Int} {i : Int} {t : Tok} {g : Obj → List (Addr × Obj)} (B : Below A₀ base outer h₀) (F : Fr h₀ L s.heap m) (X : (K w.params).In h₀) (N : News h₀ L s.heap news) (T : Top vw loose mean mg mb h₀) (hkd : cs.kind = .function) (hdp : dp + 6 < recursionLimit) (hun : un + 50 < cLine)
    (U : UpdF tp (tape ca i t n1) news g) (hca : (ca, PySem.W.listOf vs.toArray n2) ∈ news) (hne : ca ≠ tp) (hi : IntsAre vs ns) (hlo : 0 < ns.length) (hhi : ns.length ≤ 60) (hi0 : 0 ≤ i) (hi1 : i ≤ 100)
    (ret : ∀ kh D d em f t0 t1 t2 tt i' h' tk', i' = i + 13 → KBw.bInts d = kh → kh.length = 54 → be2 kh 18 = em → f = faultH kh → Fr h₀ L h' m → News h₀ L h' ((D, tupo [.bytes d t0, .int em t1, .int f t2]) :: g (tape ca i' tt n1)) → (∀ q ∈ news, q.1 < D) → Q (.ref D) { s with heap := h', toks := tk' }) :
    wpAny (model prog w) (ktrTop dp un gd cn cs L a ccd cl outer) (call (.ref 301) [.ref tp]) Q E s := by
  obtain ⟨rest, N, hr, hsub, -, hg⟩ := updF_open U N
  replace N := news_add N (hsub _ hca hne)
  have hlt : ∀ {D : Addr}, tp < D → AllLt D rest → ∀ q ∈ news, q.1 < D := fun {D} a b q hq => by
    by_cases e : q.1 = tp
    · rw [e]; exact a
    · exact allLtM b q (hsub q hq e)
  clear hca U
  (refine wpAny_call ?_; k_dflt cell_enter)
  k_steps
  all_goals
    obtain ⟨kh, e1, e2, e3, e4, e5⟩ := head_fin (by with_reducible assumption) (by with_reducible assumption) (by with_reducible assumption) (getD_lt (by decide) (by decide)) (getD_lt (by decide) (by decide)) (getD_lt (by decide) (by decide))
    rename News h₀ L _ _ => Nz
    have NN := news_cons1 Nz (hg _ _ (news_cut (news_sub Nz fun q hq => .tail _ (.tail _ (.tail _ (.tail _ (.tail _ hq)))))))
    exact ret kh _ _ _ _ _ _ _ _ _ _ _ (by omega) e1 e2 e5 (faultH_eq e3 e4 e5 (by first | exact .inl ⟨by with_reducible assumption, rfl⟩ | exact .inr (.inl ⟨by with_reducible assumption, by with_reducible assumption, rfl⟩) | exact .inr (.inr (.inl ⟨by with_reducible assumption, by with_reducible assumption, by omega, rfl⟩)) | exact .inr (.inr (.inr ⟨by with_reducible assumption, by with_reducible assumption, ⟨by with_reducible assumption, by with_reducible assumption⟩, rfl⟩)) | omega)) (by assumption) NN (hlt (And.left (And.right (And.right (And.right (And.right (by assumption)))))) (And.right (And.right (And.right (And.right (And.right (And.right (by assumption))))))))
end
end
local macro_rules | `(tactic| walk_at "call type:bytes") => `(tactic| (k_here; (with_reducible show wpAny _ _ (call (Value.type "bytes") [Value.int _ _]) _ _ _); k_dflt (refine' cnt_bytes ?za ?zb ?_; (case za => omega); (case zb => omega)); intro ct ck ce))
local macro_rules | `(tactic| walk_at "binaryOp Add bytes bytes") => `(tactic| (k_here; k_dflt (refine' KBa.add_K ?za ?zb ?zc ?_; (case za => with_reducible assumption); (case zb => with_reducible assumption); (case zc => (simp only [List.length_append, List.length_replicate, b2_len, b4_len]; omega))); intro bt bk bh))
local macro_rules | `(tactic| walk_at "call ref") => `(tactic| (k_here; (with_reducible show wpAny _ _ (call (Value.ref 301) _) _ _ _); k_dflt (refine' head_ok (by k_asm) (by k_asm) (by k_asm) (by k_asm) (by k_asm) (by walk_at "hk") (by walk_at "hr") (by walk_at "hr") (by k_updF) (by k_mem) (by k_ne) (by assumption) (by assumption) (by assumption) (by omega) (by omega) ?_; k_whole); intro kh' D' d' em' f' t0' t1' t2' tt' i' h' tk' hi' hd' hl' hem' hf' F' N' l1'; (try k_lt l1'); walk_at "kend"))

section
local macro_rules | `(tactic| k_all) => `(tactic| assumption)
local macro_rules | `(tactic| walk_at "call ref") => `(tactic| (k_here; (with_reducible show wpAny _ _ (call (Value.ref 294) _) _ _ _); k_dflt (refine' sgn_ok ?cB ?cF ?cX ?cN ?cT ?ck ?cd ?cu ?_; (case cB => k_asm); (case cF => k_asm); (case cX => k_asm); (case cN => k_asm); (case cT => k_asm); (case ck => walk_at "hk"); (case cd => walk_at "hr"); (case cu => walk_at "hr"); k_whole); intro t' h' tk' F' N'; (try k_sweep); (try dsimp only); (try k_fold)))
local macro_rules | `(tactic| walk_at "eval IfExp") => `(tactic| (k_here; refine halt ?_))
theorem if_join {M : Model} {A : Around} {E : Value → Shared → Prop} {s : Shared} {g : Heap} {L : Addr} {mf : Str → Option Value} {news : List (Addr × Obj)} {e : PySem.Expr} {env : Env} {Q : Value → Shared → Prop} (_F : Fr g L s.heap mf) (_N : News g L s.heap news) (P : Int → Prop) (led : Tok → List (Addr × Obj))
    (h1 : wpAny M A (eval e env) (fun v s' => Halt (∃ mn t2 t3 h' tk', v = .int mn t2 ∧ P mn ∧ s' = { s with heap := h', toks := tk' } ∧ Fr g L h' mf ∧ News g L h' (led t3))) E s)
    (h2 : ∀ mn t2 t3 h' tk', P mn → Fr g L h' mf → News g L h' (led t3) → Q (.int mn t2) { s with heap := h', toks := tk' }) : wpAny M A (eval e env) Q E s :=
  wpAny_mono h1 (fun v s' h => by
    obtain ⟨mn, t2, t3, h', tk', rfl, hp, rfl, F', N'⟩ := h
    exact h2 mn t2 t3 h' tk' hp F' N') fun _ _ e => e
theorem if_join0 {M : Model} {A : Around} {E : Value → Shared → Prop} {s : Shared} {g : Heap} {L : Addr} {mf : Str → Option Value} {news : List (Addr × Obj)} {e : PySem.Expr} {env : Env} {Q : Value → Shared → Prop} (_F : Fr g L s.heap mf) (_N : News g L s.heap news) (P : Int → Prop)
    (h1 : wpAny M A (eval e env) (fun v s' => Halt (∃ mn t2 h' tk', v = .int mn t2 ∧ P mn ∧ s' = { s with heap := h', toks := tk' } ∧ Fr g L h' mf ∧ News g L h' news)) E s)
    (h2 : ∀ mn t2 h' tk', P mn → Fr g L h' mf → News g L h' news → Q (.int mn t2) { s with heap := h', toks := tk' }) : wpAny M A (eval e env) Q E s :=
  wpAny_mono h1 (fun v s' h => by
    obtain ⟨mn, t2, h', tk', rfl, hp, rfl, F', N'⟩ := h
    exact h2 mn t2 h' tk' hp F' N') fun _ _ e => e
theorem fdiv11 {v : Int} (h0 : 0 ≤ v) (h1 : v < 12) : 0 ≤ v.fdiv 11 ∧ v.fdiv 11 < 65536 := by
  rw [Int.fdiv_eq_ediv_of_nonneg _ (by decide)]
  omega
theorem getD2 {c : Int} {n : Nat} (hc : 0 ≤ c) : 0 ≤ [0, c + 1].getD n 0 ∧ [0, c + 1].getD n 0 ≤ c + 1 := by
  match n with
  | 0 => exact ⟨Int.le_refl _, by show (0 : Int) ≤ c + 1; omega⟩
  | 1 => exact ⟨by show (0 : Int) ≤ c + 1; omega, Int.le_refl _⟩
  | n + 2 => exact ⟨Int.le_refl _, by show (0 : Int) ≤ c + 1; omega⟩
section
variable {w : World} {loose : List Str} {mean : ExcName → Option Value} {mg mb : Str → Option Value}
    {dp un : Nat} {gd : Option (List Code)} {cn : Str} {cs : Scope} {a : Addr} {ccd : Value} {cl : List (Str × Addr)} {outer : List Env} {A₀ : Around} {base h₀ : Heap} {L : Addr} {m : Str → Option Value} {s : Shared} {Q E : Value → Shared → Prop}
    {news : List (Addr × Obj)}
theorem hhea_ok {tp ca : Addr} {n1 n2 : Nat} {vs : List Value} {ns : List Int} {i count : Int} {t tm : Tok} {g : Obj → List (Addr × Obj)} (B : Below A₀ base outer h₀) (F : Fr h₀ L s.heap m) (X : (K w.params).In h₀) (N : News h₀ L s.heap news) (T : Top vw loose mean mg mb h₀) (hkd : cs.kind = .function) (hdp : dp + 6 < recursionLimit) (hun : un + 50 < cLine)
    (U : UpdF tp (tape ca i t n1) news g) (hca : (ca, PySem.W.listOf vs.toArray n2) ∈ news) (hne : ca ≠ tp) (hi : IntsAre vs ns) (hlo : 0 < ns.length) (hhi : ns.length ≤ 60) (hi0 : 0 ≤ i) (hi1 : i ≤ 100) (hc1 : 1 ≤ count) (hc2 : count ≤ 60)
    (ret : ∀ ka D Tl d t0 t1 t2 t3 t4 t5 tt i' h' tk', i' = i + 8 → KBw.bInts d = ka → ka.length = 36 → be4 ka 0 = 65536 → 0 ≤ be2 ka 34 → be2 ka 34 ≤ count + 1 → Fr h₀ L h' m →
      News h₀ L h' ((D, tupo [.bytes d t0, .ref Tl, .int (be2 ka 34) t1, .int (faultA ka) t2, .int (faultC (be2 ka 34) count) t3]) :: (Tl, tupo [.int (sg (be2 ka 4)) t4, .int (sg (be2 ka 6)) t5]) :: g (tape ca i' tt n1)) → (∀ q ∈ news, q.1 < Tl) → Tl < D → Q (.ref D) { s with heap := h', toks := tk' }) :
    wpAny (model prog w) (ktrTop dp un gd cn cs L a ccd cl outer) (call (.ref 308) [.ref tp, .int count tm]) Q E s := by
  obtain ⟨rest, N, hr, hsub, -, hg⟩ := updF_open U N
  replace N := news_add N (hsub _ hca hne)
  have hlt : ∀ {D : Addr}, tp < D → AllLt D rest → ∀ q ∈ news, q.1 < D := fun {D} a b q hq => by
    by_cases e : q.1 = tp
    · rw [e]; exact a
    · exact allLtM b q (hsub q hq e)
  clear hca U
  (refine wpAny_call ?_; k_dflt cell_enter)
  k_steps
  unfold Halt
  rename Fr _ _ _ _ => F1
  rename News _ _ _ _ => N1
  refine if_join F1 N1 (fun mn => 0 ≤ mn ∧ mn ≤ count + 1) (fun t3 => (tp, tape ca (i + 1 + 1 + 1 + 1 + 1) t3 n1) :: (ca, PySem.W.listOf vs.toArray n2) :: rest) ?_ ?_
  · refine IfExp_ ?_
    k_steps
    all_goals unfold Halt
    · rename Fr _ _ _ _ => Fz
      rename News _ _ _ _ => Nz
      exact ⟨_, _, _, _, _, rfl, ⟨by omega, by omega⟩, rfl, Fz, news_sub Nz fun q hq => .tail _ hq⟩
    · rename Fr _ _ _ _ => Fz
      rename News _ _ _ _ => Nz
      exact ⟨_, _, _, _, _, rfl, getD2 (by omega), rfl, Fz, news_sub Nz fun q hq => .tail _ (.tail _ hq)⟩
  · intro mn t2 t3 h' tk' hmn F2 N2
    clear F1 N1
    obtain ⟨hmn0, hmn1⟩ := hmn
    k_steps
    unfold Halt
    rename Fr _ _ _ _ => F1
    rename News _ _ _ _ => N1
    obtain ⟨ka, e1, e2, e3, e4, e5, e6, e7⟩ := hhea_fin (by with_reducible assumption) (by with_reducible assumption) ⟨by omega, by omega⟩ ⟨by omega, by omega⟩ (fdiv11 (by with_reducible assumption) (by with_reducible assumption)) ⟨by omega, by omega⟩
    refine if_join0 F1 N1 (fun f => f = faultA ka) ?_ ?_
    · refine IfExp_ ?_
      k_steps
      all_goals unfold Halt
      all_goals refine ⟨_, _, _, _, rfl, ?_, rfl, by assumption, by assumption⟩
      · unfold faultA; rw [e6, if_pos (by assumption)]
      · unfold faultA; rw [e6, if_neg (fun q => q (by assumption))]
    · rintro _ t4 h4 tk4 rfl F4 N4
      clear F1 N1
      k_steps
      unfold Halt
      rename Fr _ _ _ _ => F1
      rename News _ _ _ _ => N1
      refine if_join0 F1 N1 (fun f => f = faultC mn count) ?_ ?_
      · refine IfExp_ ?_
        k_steps
        all_goals unfold Halt
        all_goals refine ⟨_, _, _, _, rfl, ?_, rfl, by assumption, by assumption⟩
        all_goals unfold faultC
        all_goals first | rw [if_pos (by omega)] | rw [if_neg (by omega)]
      · rintro _ t5 h5 tk5 rfl F5 N5
        clear F1 N1
        k_steps
        rename News h₀ L _ _ => Nz
        have NN := news_cons1 Nz (news_cons1 (news_sub Nz fun q hq => .tail _ hq) (hg _ _ (news_cut (news_sub Nz fun q hq => .tail _ (.tail _ hq)))))
        subst e4 e5 e7
        exact ret ka _ _ _ _ _ _ _ _ _ _ _ _ _ (by omega) e1 e2 e3 hmn0 hmn1 (by assumption) NN (hlt (And.left (by assumption)) (And.right (And.right (by assumption)))) (And.left (by assumption))
end
end
local macro_rules | `(tactic| walk_at "call ref") => `(tactic| (k_here; (with_reducible show wpAny _ _ (call (Value.ref 308) _) _ _ _); k_dflt (refine' hhea_ok (by k_asm) (by k_asm) (by k_asm) (by k_asm) (by k_asm) (by walk_at "hk") (by walk_at "hr") (by walk_at "hr") (by k_updF) (by k_mem) (by k_ne) (by assumption) (by assumption) (by assumption) (by omega) (by omega) (by omega) (by omega) ?_; k_whole); intro ka' D' Tl' d' t0' t1' t2' t3' t4' t5' tt' i' h' tk' hi' hd' hl' hv' hm0' hm1' F' N' l1' l2'; (try k_lt l1'); (try k_lt2 l2'); walk_at "kend"))

section
structure Kept (p : Prop) : Prop where
  h : p
def Ap (a b : Nat) : Prop := @Ne Nat a b
theorem ap_eq (a b : Nat) : (@Ne Nat a b) = Ap a b := rfl
theorem ap_ne {a b : Nat} (h : Ap a b) : @Ne Nat a b := h
theorem ap_ne' {a b : Nat} (h : Ap b a) : @Ne Nat a b := Ne.symm h
def Bl (a b : Nat) : Prop := @LT.lt Nat _ a b
theorem bl_lt {a b : Nat} (h : Bl a b) : @LT.lt Nat _ a b := h
theorem bl_of {a b : Nat} (h : @LT.lt Nat _ a b) : Bl a b := h
theorem bl_ne {a b : Nat} (h : Bl a b) : @Ne Nat a b := Nat.ne_of_lt h
theorem bl_ne' {a b : Nat} (h : Bl b a) : @Ne Nat a b := Ne.symm (Nat.ne_of_lt h)
theorem bl_trans {a b c : Nat} (h1 : Bl a b) (h2 : Bl b c) : Bl a c := Nat.lt_trans h1 h2
def Off3K (I C D : Nat) (G : Prop) : List (Addr × Obj) → Prop
  | [] => G
  | (a, _) :: r => Ap a I → Ap a C → Ap a D → Off3K I C D G r
theorem off3_k {I C D : Nat} {G : Prop} : ∀ {l : List (Addr × Obj)}, LCg.Off3 I C D l → Off3K I C D G l → G
  | [], _, k => k
  | (_, _) :: _, h, k => off3_k h.2 (k h.1.1 h.1.2.1 h.1.2.2)
def Off1K (D : Nat) (G : Prop) : List (Addr × Obj) → Prop
  | [] => G
  | (a, _) :: r => Ap a D → Off1K D G r
theorem off1_k {D : Nat} {G : Prop} : ∀ {l : List (Addr × Obj)}, LCg.Off1 D l → Off1K D G l → G
  | [], _, k => k
  | (_, _) :: _, h, k => off1_k h.2 (k h.1)
def BlK (d : Nat) (G : Prop) : List (Addr × Obj) → Prop
  | [] => G
  | (a, _) :: r => Bl a d → BlK d G r
theorem bl_k {d : Nat} {G : Prop} : ∀ {l : List (Addr × Obj)}, (∀ p ∈ l, p.1 < d) → BlK d G l → G
  | [], _, k => k
  | (_, _) :: _, h, k => bl_k (fun q hq => h q (.tail _ hq)) (k (h _ (.head _)))
theorem ap3_k {I C D : Nat} {G : Prop} (h : @Ne Nat I C ∧ @Ne Nat I D ∧ @Ne Nat C D) (k : Ap I C → Ap I D → Ap C D → G) : G := k h.1 h.2.1 h.2.2
end
local macro_rules | `(tactic| k_ne) => `(tactic| (refine neN ?_; (try dsimp only); first | exact ap_ne (by with_reducible assumption) | exact bl_ne (by with_reducible assumption) | exact bl_ne' (by with_reducible assumption) | exact ap_ne' (by with_reducible assumption) | (refine bl_ne (bl_trans ?_ (by with_reducible assumption)); with_reducible assumption) | (refine bl_ne' (bl_trans ?_ (by with_reducible assumption)); with_reducible assumption) | omega | (simp only [Bl] at *; omega)))
local macro_rules | `(tactic| k_lt $h:ident) => `(tactic| (refine bl_k $h ?_; clear $h; dsimp only [BlK]; intros))
local macro_rules | `(tactic| k_lt2 $h:ident) => `(tactic| replace $h := bl_of $h)

section
theorem slot_join : Slot "bytes" "join" "bytes.join" :=
  .of (owner := "bytes") (n := "join") (by rw [typeLookup_type, builtinLookup_eq_fast]; kernel_rfl) (by decide +kernel) (by decide +kernel) (by decide +kernel)
    (by first | exact .inl (by decide +kernel) | exact .inr (by decide +kernel)) (by rw [isSubtype_type]; kernel_rfl)
theorem type_join : typeOf (.builtin "bytes.join") = pure (.type "method_descriptor") := by show builtinType _ = _; rw [builtinType_eq_fast]; kernel_rfl
theorem entry_join : entryFor table "bytes.join" = some Builtin.«bytes.join» := entryFor_of_tree (by kernel_rfl)
theorem args_join (a b : Value) : argsOk "bytes.join" ⟨[a, b], []⟩ := by
  unfold argsOk; rw [signature?_of (id := "bytes.join") (n := ['n', 'i', 'o', 'j']) (o := ['s', 'e', 't', 'y', 'b']) (by kernel_rfl) FB.owner_bytes]; kernel_rfl
theorem buffer_full {b : Array UInt8} {t : Tok} {id : String} {f : Bool} : Builtin.Bytes.buffer? id (.bytes b t) f = pure (some b) := by
  unfold Builtin.Bytes.buffer?
  rw [KBy.special_eq KBy.look_buffer, KBy.own_buffer, KBy.own_release]
  kernel_rfl
theorem take_eq {b : Array UInt8} {t : Tok} {id : String} : Builtin.Bytes.takeBufferQuiet? id (.bytes b t) 0 = pure (some (b, none)) := by
  unfold Builtin.Bytes.takeBufferQuiet? Builtin.Bytes.takeBuffer?
  rw [KBy.special_eq KBy.look_buffer, KBy.own_buffer, buffer_full]
  kernel_rfl
def mkB (p : Array UInt8 × Tok) : Value := .bytes p.1 p.2
def glue (bs : List (Array UInt8 × Tok)) : Array UInt8 := Builtin.Bytes.joined #[] (bs.map (·.1))
def glueI (bs : List (Array UInt8 × Tok)) : List Int := (bs.map fun p => KBw.bInts p.1).flatten
theorem glue_go (l : List (Array UInt8)) : ∀ (k : Nat) (out : Array UInt8), KBw.bInts ((l.zipIdx k).foldl (fun out (p, i) => (if i > 0 then out ++ #[] else out) ++ p) out) = KBw.bInts out ++ (l.map KBw.bInts).flatten := by
  induction l with
  | nil => intro k out; simp
  | cons x r ih =>
    intro k out
    rw [List.zipIdx_cons, List.foldl_cons, ih, List.map_cons, List.flatten_cons, ← List.append_assoc]
    congr 1
    have : (if k > 0 then out ++ #[] else out) = out := by split <;> simp
    show KBw.bInts ((if k > 0 then out ++ #[] else out) ++ x) = _
    rw [this]
    exact KBw.ints_app rfl rfl
theorem glue_eq (bs : List (Array UInt8 × Tok)) : KBw.bInts (glue bs) = glueI bs := by
  have := glue_go (bs.map (·.1)) 0 #[]
  rw [List.map_map] at this
  exact this.trans (List.nil_append _)
theorem foldl_size (bs : List (Array UInt8 × Tok)) : ∀ n, bs.foldl (fun n p => n + p.1.size) n = n + (glueI bs).length := by
  induction bs with
  | nil => intro n; rfl
  | cons x r ih =>
    intro n
    rw [List.foldl_cons, ih]
    unfold glueI
    rw [List.map_cons, List.flatten_cons, List.length_append, KBw.ints_length]
    omega
theorem joinLetGo_ok {M : Model} {A : Around} {E : Value → Shared → Prop} {s : Shared} {Q : Unit → Shared → Prop} : ∀ (l : List (Value × Option Value)) (keep : List Value), (∀ p ∈ l, p.2 = none) → Q () s → wpAny M A (Builtin.Bytes.joinLetGo l keep) Q E s
  | [], _, _, h => wpAny_pure h
  | (x, w) :: r, keep, hw, h => by
    have e := hw _ (.head _)
    dsimp only at e
    subst e
    unfold Builtin.Bytes.joinLetGo
    refine wpAny_bind (wpAny_letGo ?_)
    exact joinLetGo_ok r keep (fun p hp => hw p (.tail _ hp)) h
theorem meets_join (t : Tok) (D : Addr) (bs : List (Array UInt8 × Tok)) :
    Meets (Builtin.«bytes.join» ⟨[.bytes #[] t, .ref D], []⟩) (fun _ R s => 0 < bs.length ∧ s.heap.IsList D (bs.map mkB).toArray ∧ (glueI bs).length ≤ 16777216 ∧ ∀ b t' k, b = glue bs → R (.ok (.ret (.bytes b t'))) { s with toks := k }) := by
  refine .of_wp fun prog w A R s hS => ?_
  obtain ⟨h0, hl, hsz, h⟩ := hS
  have hT : s.TypeIs (.ref D) "list" := hl.typeIs
  obtain ⟨o, ho, hc, n, hd⟩ := id hl
  unfold Builtin.«bytes.join» Builtin.Bytes.joinM
  refine wpAny_bind (wpAny_of_eq (a := (Value.bytes #[] t, Value.ref D)) rfl ?_)
  refine bm_if_true (by decide) ?_
  refine wpAny_bind ?_
  unfold Builtin.Bytes.joinItems
  refine wpAny_bind (wpAny_typeOf hT ?_)
  refine bm_if_true (by decide +kernel) ?_
  refine wpAny_pure ?_
  refine wpAny_bind ?_
  unfold seqItems?
  refine wpAny_bind (wpAny_load ho ?_)
  rw [hd]
  refine wpAny_pure ?_
  refine bm_if_true (by decide) ?_
  rcases bs with _ | ⟨p, _ | ⟨q, r⟩⟩
  · exact absurd h0 (by decide)
  · refine wpAny_bind (wpAny_typeOf (typeIs_bytes _ _ _) ?_)
    refine bm_if_true (by decide +kernel) ?_
    exact wpAny_bind (wpAny_rule (wpAny_pure ⟨_, rfl, h p.1 p.2 s.toks (by unfold glue Builtin.Bytes.joined; simp)⟩))
  · refine wpAny_bind ?_
    generalize p :: q :: r = bs at hl hd hsz h ⊢
    rw [Std.Legacy.Range.forIn_eq_forIn_range']
    simp only [Std.Legacy.Range.size, Nat.sub_zero, Nat.add_sub_cancel, Nat.div_one]
    have len : (List.map mkB bs).toArray.size = bs.length := by simp
    rw [len]
    refine wpAny_forIn_list _ (fun rest st s' => ∃ i, s' = s ∧ rest = List.range' i (bs.length - i) ∧ i ≤ bs.length ∧ st.1 = ((bs.take i).map (·.1)).toArray ∧ st.2 = (bs.take i).map (fun p => (mkB p, none))) _ ?_ ?_ _ _ ⟨0, rfl, by simp, Nat.zero_le _, rfl, rfl⟩
    · rintro x rest ⟨parts, taken⟩ s' ⟨i, rfl, hr, hi, h1, h2⟩
      dsimp only at h1 h2
      subst h1 h2
      have hlt : i < bs.length := by
        rcases Nat.lt_or_ge i bs.length with h | h
        · exact h
        · rw [Nat.sub_eq_zero_of_le h] at hr; simp at hr
      obtain ⟨rfl, hrest⟩ : x = i ∧ rest = List.range' (i + 1) (bs.length - (i + 1)) := by
        have e : bs.length - i = (bs.length - (i + 1)) + 1 := by omega
        rw [e, List.range'_succ] at hr
        injection hr with h1 h2
        exact ⟨h1, h2⟩
      have hg : (List.map mkB bs).toArray.getD x Value.none = .bytes (bs[x]).1 (bs[x]).2 := by
        simp [Array.getD, hlt, mkB]
      dsimp only
      refine wpAny_bind (wpAny_bind (wpAny_load ho ?_))
      rw [hd]
      refine wpAny_pure ?_
      dsimp only
      rw [hg]
      refine bm_if_false ?_ ?_
      · have : ((bs.take x).map (fun p => (mkB p, (none : Option Value)))).any (fun x => x.fst.onHeap) = false := by
          rw [List.any_eq_false]
          intro p hp
          obtain ⟨q, _, rfl⟩ := List.mem_map.mp hp
          exact Bool.false_ne_true
        rw [this]
        decide
      refine wpAny_bind (wpAny_holding (wpAny_of_eq take_eq ?_))
      dsimp only
      refine wpAny_bind (wpAny_bind (wpAny_load ho ?_))
      rw [hd]
      refine wpAny_pure ?_
      dsimp only
      refine bm_if_false ?_ ?_
      · simp
      refine wpAny_pure ⟨x + 1, rfl, hrest, hlt, ?_, ?_⟩
      · show (((bs.take x).map (·.1)).toArray).push (bs[x]).1 = ((bs.take (x + 1)).map (·.1)).toArray
        rw [List.take_succ_eq_append_getElem hlt, List.map_append, List.push_toArray]
        rfl
      · show (bs.take x).map (fun p => (mkB p, (none : Option Value))) ++ [(Value.bytes (bs[x]).1 (bs[x]).2, none)] = _
        rw [List.take_succ_eq_append_getElem hlt, List.map_append]
        rfl
    · rintro ⟨parts, taken⟩ s' ⟨i, rfl, hr, hi, h1, h2⟩
      dsimp only at h1 h2
      have hin : i = bs.length := by
        have := congrArg List.length hr
        simp at this
        omega
      subst hin
      rw [List.take_length] at h1 h2
      subst h1 h2
      dsimp only
      refine wpAny_bind (wpAny_of_eq (a := #[]) rfl ?_)
      refine bm_if_false ?_ ?_
      · refine KBy.tooLong_not ?_
        rw [List.foldl_toArray', List.foldl_map, foldl_size]
        · simpa using hsz
        · rfl
      refine wpAny_bind (wpAny_mkBytes ?_ ?_)
      · refine wpAny_bind (wpAny_holding (wpAny_point ?_))
        refine wpAny_bind (joinLetGo_ok _ _ (fun p hp => ?_) ?_)
        · obtain ⟨q, _, rfl⟩ := List.mem_map.mp hp
          rfl
        · exact wpAny_pure ⟨_, rfl, h _ _ _ (by unfold glue; simp)⟩
      · rw [sizeLine_eq]
        show (glue bs).size ≤ 16777216
        rw [← KBw.ints_length, glue_eq]
        exact hsz
section
variable {prog : Program} {w : World} {A : Around} {E : Value → Shared → Prop} {s : Shared}
theorem join_call {D : Addr} {t : Tok} {bs : List (Array UInt8 × Tok)} {Q : Value → Shared → Prop} (h0 : 0 < bs.length) (hl : s.heap.IsList D (bs.map mkB).toArray) (hsz : (glueI bs).length ≤ 1000)
    (h : ∀ d t' k, KBw.bInts d = glueI bs → Q (.bytes d t') { s with toks := k }) : wpAny (model prog w) A (call (.builtin "bytes.join") [.bytes #[] t, .ref D]) Q E s :=
  call_meets slot_join (typeIs_bytes _ _ _) entry_join (args_join _ _) (meets_join t D bs) ⟨h0, hl, by omega, fun b t' k hb => h b t' k (by rw [hb]; exact glue_eq bs)⟩
theorem join_method {M : Model} {b : Array UInt8} {t : Tok} {pl : Sem Bool} {Q : Value × List Value → Shared → Prop} (h : Q (.builtin "bytes.join", [.bytes b t]) s) : wpAny M A (getMethod (.bytes b t) "join" pl) Q E s := by
  with_reducible exact PySem.W.KBd.method_of (.bytes b t) (typeIs_bytes _ _ _) slot_join type_join PySem.W.KBd.noRef h
end
end
local macro_rules | `(tactic| walk_at "getMethod bytes") => `(tactic| (k_here; (with_reducible refine join_method ?_)))

section
def row (ks ls : List Int) (mn : Int) (i : Nat) : List Int := (if (i : Int) < mn then b2 (ks.getD i 0) else []) ++ b2 (ls.getD i 0)
def rows (ks ls : List Int) (mn : Int) : Nat → List Int
  | 0 => []
  | n + 1 => rows ks ls mn n ++ row ks ls mn n
theorem rows_len {ks ls : List Int} {mn : Int} : ∀ {n : Nat}, (n : Int) ≤ mn → (rows ks ls mn n).length = 4 * n
  | 0, _ => rfl
  | n + 1, h => by
    have ih := rows_len (ks := ks) (ls := ls) (mn := mn) (n := n) (by omega)
    unfold rows row
    rw [if_pos (by omega), List.length_append, ih, List.length_append, b2_l, b2_l]
    omega
theorem rows_len2 {ks ls : List Int} {mn : Nat} : ∀ {j : Nat}, (rows ks ls mn (mn + j)).length = 4 * mn + 2 * j
  | 0 => rows_len (Int.le_refl _)
  | j + 1 => by
    have ih := rows_len2 (ks := ks) (ls := ls) (mn := mn) (j := j)
    show (rows ks ls mn (mn + j) ++ row ks ls mn (mn + j)).length = _
    unfold row
    rw [if_neg (by omega), List.length_append, ih, List.nil_append, b2_l]
    omega
theorem rows_split {ks ls : List Int} {mn : Int} {i : Nat} : ∀ {n : Nat}, i < n → ∃ r, rows ks ls mn n = rows ks ls mn i ++ (row ks ls mn i ++ r)
  | n + 1, h => by
    by_cases e : i = n
    · subst e
      exact ⟨[], by rw [List.append_nil]; rfl⟩
    · obtain ⟨r, hr⟩ := rows_split (ks := ks) (ls := ls) (mn := mn) (i := i) (n := n) (by omega)
      exact ⟨r ++ row ks ls mn n, by show rows ks ls mn n ++ _ = _; rw [hr, List.append_assoc, List.append_assoc]⟩
def In2 (ks : List Int) : Prop := ∀ k ∈ ks, 0 ≤ k ∧ k < 65536
theorem in2_getD {ks : List Int} (h : In2 ks) (i : Nat) : 0 ≤ ks.getD i 0 ∧ ks.getD i 0 < 65536 := by
  rw [List.getD_eq_getElem?_getD]
  cases e : ks[i]? with
  | none => exact ⟨Int.le_refl _, by decide⟩
  | some x => exact h x (List.mem_of_getElem? e)
theorem at_wide {ks ls z : List Int} {mn n i : Nat} (hk : In2 ks) (h1 : i < mn) (h2 : mn ≤ n) : be2 (rows ks ls mn n ++ z) (4 * (i : Int)) = ks.getD i 0 := by
  obtain ⟨r, hr⟩ := rows_split (ks := ks) (ls := ls) (mn := (mn : Int)) (i := i) (n := n) (by omega)
  unfold row at hr
  rw [hr, if_pos (by omega)]
  simp only [List.append_assoc]
  exact be2_at (by rw [rows_len (by omega)]; omega) (in2_getD hk i).1 (in2_getD hk i).2
theorem at_left {ks ls z : List Int} {mn n i : Nat} (hl : In2 ls) (h1 : i < mn) (h2 : mn ≤ n) : be2 (rows ks ls mn n ++ z) (4 * (i : Int) + 2) = ls.getD i 0 := by
  obtain ⟨r, hr⟩ := rows_split (ks := ks) (ls := ls) (mn := (mn : Int)) (i := i) (n := n) (by omega)
  unfold row at hr
  rw [hr, if_pos (by omega)]
  have : rows ks ls mn i ++ (b2 (ks.getD i 0) ++ b2 (ls.getD i 0) ++ r) ++ z = (rows ks ls mn i ++ b2 (ks.getD i 0)) ++ (b2 (ls.getD i 0) ++ (r ++ z)) := by simp only [List.append_assoc]
  rw [this]
  exact be2_at (by rw [List.length_append, rows_len (by omega), b2_l]; omega) (in2_getD hl i).1 (in2_getD hl i).2
theorem at_tail {ks ls z : List Int} {mn n j : Nat} (hl : In2 ls) (h1 : mn + j < n) : be2 (rows ks ls mn n ++ z) (4 * (mn : Int) + 2 * (j : Int)) = ls.getD (mn + j) 0 := by
  obtain ⟨r, hr⟩ := rows_split (ks := ks) (ls := ls) (mn := (mn : Int)) (i := mn + j) (n := n) (by omega)
  unfold row at hr
  rw [hr, if_neg (by omega)]
  simp only [List.append_assoc, List.nil_append]
  exact be2_at (by rw [rows_len2]; omega) (in2_getD hl _).1 (in2_getD hl _).2
theorem tabs_eq {l : List Int} {f : Nat → Int} : ∀ {n : Nat}, tabs l f n = l ++ (List.range n).map f
  | 0 => by rw [List.range_zero, List.map_nil, List.append_nil]; rfl
  | n + 1 => by
    show tabs l f n ++ [f n] = _
    rw [tabs_eq, List.range_succ, List.map_append, List.append_assoc]
    rfl
theorem two_part {f g t : Nat → Int} {mn n : Nat} (h : mn ≤ n) (h1 : ∀ i, i < mn → f i = t i) (h2 : ∀ j, mn + j < n → g j = t (mn + j)) : (List.range mn).map f ++ (List.range (n - mn)).map g = (List.range n).map t := by
  refine List.ext_getElem (by simp; omega) fun i a b => ?_
  simp only [List.length_append, List.length_map, List.length_range] at a b
  rw [List.getElem_append]
  split
  · rename_i c
    simp only [List.length_map, List.length_range] at c
    simp [h1 i c]
  · rename_i c
    simp only [List.length_map, List.length_range, Nat.not_lt] at c
    simp only [List.getElem_map, List.getElem_range, List.length_map, List.length_range]
    rw [h2 (i - mn) (by omega), show mn + (i - mn) = i by omega]
theorem list_of {l : List Int} {n : Nat} {t : Nat → Int} (hl : l.length = n) (h : ∀ i, i < n → l.getD i 0 = t i) : (List.range n).map t = l := by
  refine List.ext_getElem (by simp [hl]) fun i a b => ?_
  have := h i (by omega)
  rw [List.getD_eq_getElem?_getD, List.getElem?_eq_getElem b] at this
  simpa using this.symm
theorem advs_law {ks ls z tw : List Int} {mn n : Nat} (hk : In2 ks) (h1 : 1 ≤ mn) (h2 : mn ≤ n) (hl : tw.length = n) (ht : ∀ i, i < n → tw.getD i 0 = ks.getD (min i (mn - 1)) 0) : advs (rows ks ls mn n ++ z) mn n = tw := by
  unfold advs adv1
  rw [tabs_eq, tabs_eq, List.nil_append, ← list_of hl ht]
  refine two_part h2 (fun i hi => ?_) fun j hj => ?_
  · rw [at_wide hk hi h2, Nat.min_eq_left (by omega)]
  · have := at_wide (z := z) (ls := ls) hk (show mn - 1 < mn by omega) h2
    rw [show ((mn - 1 : Nat) : Int) = (mn : Int) - 1 by omega] at this
    rw [this, Nat.min_eq_right (by omega)]
theorem bers_law {ks ls z : List Int} {mn n : Nat} (hl : In2 ls) (h2 : mn ≤ n) (hn : ls.length = n) : bers (rows ks ls mn n ++ z) mn n = ls.map sg := by
  unfold bers ber1
  rw [tabs_eq, tabs_eq, List.nil_append, ← list_of (l := ls.map sg) (n := n) (t := fun i => sg (ls.getD i 0)) (by simpa using hn) (fun i hi => by
    rw [List.getD_eq_getElem?_getD, List.getD_eq_getElem?_getD, List.getElem?_map, List.getElem?_eq_getElem (by omega)]; rfl)]
  refine two_part h2 (fun i hi => ?_) fun j hj => ?_
  · rw [at_left hl hi h2]
  · rw [at_tail hl hj]
theorem firstF_filter : ∀ l : List Int, firstF l = (l.filter fun x => decide (0 ≤ x)).head?
  | [] => rfl
  | x :: r => by
    unfold firstF
    by_cases h : 0 ≤ x
    · rw [if_pos h, List.filter_cons_of_pos (by simpa using h)]; rfl
    · rw [if_neg h, List.filter_cons_of_neg (by simpa using h)]; exact firstF_filter r
theorem firstF_same {a b c x y : Int} {many count : Int} (h : 0 < many → many ≤ count → x = y) : firstF [a, b, c, faultC many count, x] = firstF [a, b, c, faultC many count, y] := by
  by_cases e : 0 < many ∧ many ≤ count
  · rw [h e.1 e.2]
  · have : faultC many count = 34 := if_pos e
    rw [this]
    simp only [firstF]
    split
    · rfl
    · split
      · rfl
      · split
        · rfl
        · rfl
theorem rows_any {ks ls : List Int} {mn : Int} : ∀ {n : Nat}, (rows ks ls mn n).length ≤ 4 * n ∧ 2 * n ≤ (rows ks ls mn n).length
  | 0 => ⟨Nat.le_refl _, Nat.le_refl _⟩
  | n + 1 => by
    have ih := rows_any (ks := ks) (ls := ls) (mn := mn) (n := n)
    have : (row ks ls mn n).length = 4 ∨ (row ks ls mn n).length = 2 := by
      unfold row
      split
      · exact .inl rfl
      · exact .inr rfl
    show (rows ks ls mn n ++ row ks ls mn n).length ≤ _ ∧ _ ≤ (rows ks ls mn n ++ row ks ls mn n).length
    rw [List.length_append]
    omega
theorem maxp_fin {v c : Int} {z : Nat} {d : Array UInt8} (hb : KBw.bInts d = (b4 v ++ b2 c) ++ List.replicate z 0) (hv : 0 ≤ v ∧ v < 4294967296) (hc : 0 ≤ c ∧ c < 65536) :
    ∃ km, KBw.bInts d = km ∧ km.length = 6 + z ∧ be4 km 0 = v ∧ be2 km 4 = c := by
  refine ⟨_, hb, ?_, ?_, ?_⟩
  · simp only [List.length_append, b2_l, b4_l, List.length_replicate]
  · simp only [List.append_assoc]
    exact be4_at (pre := []) rfl hv.1 hv.2
  · have : (b4 v ++ b2 c) ++ List.replicate z 0 = b4 v ++ (b2 c ++ List.replicate z 0) := by simp only [List.append_assoc]
    rw [this]
    exact be2_at (by rw [b4_l]; rfl) hc.1 hc.2
end

section
section
variable {prog : Program} {w : World} {A : Around} {E : Value → Shared → Prop} {s : Shared} {h₀ : Heap} {L : Addr} {m : Str → Option Value} {env : Env} {ct elt : Expr} {x : Str} {scope : Scope} {cl : List (Str × Addr)} {S : List (Addr × Obj) → Prop} {P : Nat → Value → Prop} {Fin : List Value → List (Addr × Obj) → Prop} {news : List (Addr × Obj)}
theorem crestT {n : Nat} (J : Nat → List Value → List (Addr × Obj) → Prop) (hj : J 0 [] news)
    (turn : ∀ i v I oI C oC D m₂ ys nw h tk (E' : Value → Shared → Prop), i < n → P i v → J i ys nw → LCg.NsObj oC m₂ → m₂ x = some v → Fr h₀ L h m → News h₀ L h ((I, oI) :: (C, oC) :: (D, LCg.lst ys) :: nw) → LCg.Off3 I C D nw → ((@Ne Nat I C) ∧ (@Ne Nat I D) ∧ (@Ne Nat C D)) →
      wpAny (model prog w) A (isTrue ct (compEnvC scope cl C env) (eval ct (compEnvC scope cl C env))) (fun ok s' => if ok = true then
        wpAny (model prog w) A (eval elt (compEnvC scope cl C env)) (LCg.CompEnd h₀ L m { s with heap := h, toks := tk } I oI C oC D (LCg.lst ys) S (fun y news' => J (i + 1) (ys ++ [y]) news')) E' s'
        else LCg.CompEnd h₀ L m { s with heap := h, toks := tk } I oI C oC D (LCg.lst ys) S (fun _ news' => J (i + 1) ys news') Value.none s') E' { s with heap := h, toks := tk })
    (fin : ∀ ys nw, J n ys nw → Fin ys nw) : LCt.CompRestT prog w A h₀ L m env ct elt x scope cl s S P Fin n 0 [] news := by
  have key : ∀ (j i : Nat) (ys : List Value) (nw : List (Addr × Obj)), i + j = n → J i ys nw → LCt.CompRestT prog w A h₀ L m env ct elt x scope cl s S P Fin j i ys nw := by
    intro j
    induction j with
    | zero =>
      intro i ys nw hi hy
      have e : i = n := by omega
      subst e
      exact LCt.CompRestT.zero (fin ys nw hy)
    | succ j ih =>
      intro i ys nw hi hy
      refine LCt.CompRestT.succ fun v I oI C oC D m₂ h tk E' hv hC hx F N off ne => ?_
      refine wpAny_mono (turn i v I oI C oC D m₂ ys nw h tk E' (by omega) hv hy hC hx F N off ne) (fun ok s₂ hq => ?_) fun _ _ e => e
      cases ok with
      | true =>
        simp only [if_true] at hq ⊢
        refine wpAny_mono hq (fun y s₃ hr => ?_) fun _ _ e => e
        obtain ⟨h', tk', nw', e, F', N', off', hS, hJ⟩ := hr
        exact ⟨h', tk', nw', e, F', N', off', hS, ih (i + 1) _ nw' (by omega) hJ⟩
      | false =>
        simp only [Bool.false_eq_true, if_false] at hq ⊢
        obtain ⟨h', tk', nw', e, F', N', off', hS, hJ⟩ := hq
        exact ⟨h', tk', nw', e, F', N', off', hS, ih (i + 1) _ nw' (by omega) hJ⟩
  exact key n 0 [] news (by omega) hj
end
def pos (l : List Int) : List Int := l.filter fun x => decide (0 ≤ x)
theorem pos_up {l : List Int} {i : Nat} {n : Int} (h : l[i]? = some n) (h0 : 0 ≤ n) : pos (l.take (i + 1)) = pos (l.take i) ++ [n] := by
  unfold pos
  rw [List.take_add_one, h, List.filter_append]
  simp [h0]
theorem pos_skip {l : List Int} {i : Nat} {n : Int} (h : l[i]? = some n) (h0 : ¬ 0 ≤ n) : pos (l.take (i + 1)) = pos (l.take i) := by
  unfold pos
  rw [List.take_add_one, h, List.filter_append]
  simp [h0]
end

section
section
variable {prog : Program} {w : World} {A : Around} {s : Shared} {K : Frag} {p : Program} {loose : List Str} {mean : ExcName → Option Value} {mg mb : Str → Option Value}
theorem code_topC {R : Result → Shared → Prop} {name qual : Str} {params : Arguments} {body : List Stmt} {scope : Scope} {dV kV doc pm cdv ct oc : Value} {an od : Option Addr} {osl : Array (Option Value)} {f : Addr} {args : Args} {binds : List (Str × Value)}
    (X₀ : K.In s.heap) (T : Top p loose mean mg mb s.heap)
    (ho : K.lookup f = some ⟨oc, od, .func (fnOf name qual params body scope dV kV doc pm an cdv ct), osl⟩) (hcd : codeIn K cdv qual = true) (hroom : A.depth < recursionLimit)
    (hbind : BindsTo s (fnOf name qual params body scope dV kV doc pm an cdv ct) args binds) (hkind : (binds.all fun y => scope.names.lookup y.1 == some .local || scope.names.lookup y.1 == some .cell) = true)
    (hnd : ((cellsFrom 0 scope.names []).map (·.1)).Nodup)
    (h : ∀ L' h₁ tk cells, Fr s.heap L' h₁ (bindL (envOfC qual scope L' f cdv).kindOf binds fun _ => none) → News s.heap L' h₁ cells →
      CellsAre (bindC (envOfC qual scope L' f cdv).kindOf binds fun _ => none) (cellsFrom (L' + 1) scope.names []) cells →
      wpAny (model prog w) (A.deeper (envOfC qual scope L' f cdv)) (execs body (envOfC qual scope L' f cdv))
        (fun fl s' => R (.ok (.ret (match fl with | .ret v => v | _ => .none))) s')
        (fun e s' => wpAny (model prog w) (A.deeper (envOfC qual scope L' f cdv)) (leaving (envOfC qual scope L' f cdv) e) (fun _ s'' => R (.error e) s'') (fun e' s'' => R (.error e') s'') s')
        { s with heap := h₁, toks := tk })
    (hco : scope.isCoroutine = false) (hgen : scope.isGenerator = false) (hk : scope.kind = .function) : codeAny (model prog w) A (.call (.ref f) args) R s := by
  refine codeAny_call_function hroom (X₀ _ _ ho) rfl hco hgen rfl (codeRec_of X₀ hcd) (hbind _ _ _ _ ?_)
  refine wpAny_newFunctionEnv_cells hk (kindsX hkind _) fun env' he s' x => ?_
  subst he
  refine ⟨T.nolimit.keeps x.toInCall.keep, codeAny_func ?_⟩
  obtain ⟨h₁, tk, rfl, _⟩ := x.done
  obtain ⟨cells, NC, Y⟩ := Cl.news (h₀ := s.heap) (Nat.le_refl _) fun n c hm => ⟨x.cell n c (lookup_of_mem_nodup (cellsFrom_names scope.names 0 (s.heap.objs.size + 1) [] [] rfl ▸ hnd) hm), x.above n c hm⟩
  exact h s.heap.objs.size h₁ tk cells ⟨x.toInCall.ns, x.toInCall.keep, Nat.le_refl _⟩ NC Y
end
abbrev ktr0 (dp un : Nat) (gd : Option (List Code)) : Around := { handled := none, depth := dp, frames := some [], guards := gd, units := un }
end

section
section
variable {prog : Program} {w : World} {A : Around} {E : Value → Shared → Prop} {s : Shared} {h₀ : Heap} {L : Addr} {m : Str → Option Value} {news : List (Addr × Obj)}
theorem min_any {a b : Int} {t u : Tok} {Q : Value → Shared → Prop} (hh : A.handled = none) (F : Fr h₀ L s.heap m) (N : News h₀ L s.heap news)
    (h : ∀ x tx h' tk, (x = a ∧ a ≤ b) ∨ (x = b ∧ b < a) → Fr h₀ L h' m → News h₀ L h' news → Q (.int x tx) { s with heap := h', toks := tk }) :
    wpAny (model prog w) A (call (.builtin "min") [.int a t, .int b u]) Q E s :=
  min_two_N hh F N fun h' tk F' N' => h _ _ _ _ (by split <;> omega) F' N'
theorem item_any {value slice : PySem.Expr} {l : Addr} {vs : List Value} {ns : List Int} {u : Tok} {i : Int} {Q : Value → Shared → Prop} (N : News h₀ L s.heap news) (hm : (l, LCg.lst vs) ∈ news) (hi : IntsAre vs ns) (h0 : 0 < ns.length) (h1 : -1 ≤ i) (h2 : i < ns.length) (h3 : ns.length ≤ 1000)
    (h : ∀ x t, (0 ≤ i → x = ns.getD i.toNat 0) → Q (.int x t) s)
    (hs : ∀ i, subscripted slice false (.ref l) (.int i u) = operate [.ref l, .int i u] (getItem (.ref l) (.int i u)) := by intro _; with_unfolding_all rfl) (hg : ∀ r, letTemporaryGo value (.ref l) r = pure () := by intro _; with_unfolding_all rfl) :
    wpAny (model prog w) A (subscriptTail value slice (.ref l) (.int i u)) Q E s := by
  have hl : s.heap.IsList l vs.toArray := ⟨_, (N _ hm).1, rfl, _, rfl⟩
  by_cases e : 0 ≤ i
  · exact item_list_ints hl hi e h2 (by omega) (fun t => h _ t fun _ => rfl) (hs i) hg
  · have e1 : i = -1 := by omega
    subst e1
    obtain ⟨x, hx⟩ : ∃ x, ns.getLast? = some x := by
      cases ns with
      | nil => exact absurd h0 (by decide)
      | cons a r => exact ⟨_, List.getLast?_eq_some_getLast (by simp)⟩
    exact item_back (its := vs.toArray) (n := vs.length) N hm (by simpa using hi) hx (fun t => h x t fun q => absurd q (by decide)) (hs (-1))
theorem tup_item {value slice : PySem.Expr} {a : Addr} {l : List Value} {k : Int} {u : Tok} {v : Value} {Q : Value → Shared → Prop} (N : News h₀ L s.heap news) (hm : (a, tupo l) ∈ news) (h0 : 0 ≤ k) (h1 : k < 100) (hj : seqIndex? k l.length = some k.toNat) (hx : l[k.toNat]? = some v) (h : Q v s)
    (hs : subscripted slice false (.ref a) (.int k u) = operate [.ref a, .int k u] (getItem (.ref a) (.int k u)) := by with_unfolding_all rfl) :
    wpAny (model prog w) A (subscriptTail value slice (.ref a) (.int k u)) Q E s :=
  item_tupleT ⟨_, (N _ hm).1, rfl, _, rfl⟩ (by omega) (by omega) hj hx h hs
end
end
local macro_rules | `(tactic| walk_at "subscriptTail Name Constant ref int") => `(tactic| (k_here; k_dflt (refine item_list_ints (News.isList (by k_asm) (by k_mem)) (by with_reducible assumption) (by omega) (by simp only [List.length_cons]; omega) (by omega) ?_); intro it'))
local macro_rules | `(tactic| walk_at "subscriptTail Name Constant ref int") => `(tactic| (k_here; k_dflt (refine tup_item (by k_asm) (by k_mem) (by decide) (by decide) (by rfl) (by rfl) ?_)))
local macro_rules | `(tactic| walk_at "call builtin:min") => `(tactic| (k_here; k_dflt (refine' min_any ?z1 ?z2 ?z3 ?_; (case z1 => rfl); (case z2 => k_asm); (case z3 => k_asm); k_whole); intro mx' mt' h' tk' mc' F' N'; (try k_sweep)))
local macro_rules | `(tactic| walk_at "subscriptTail Name Call ref int") => `(tactic| (k_here; k_dflt (refine item_any (by k_asm) (by k_mem) (by with_reducible assumption) (by omega) (by omega) (by omega) (by omega) ?_); intro ix' it' ic'))

section
def toldD (u a d : Int) (tw sl : List Int) : PyData := .tuple [.int u, .int a, .int d, .tuple (tw.map PyData.int), .tuple (sl.map PyData.int)]
theorem told_eqv (u a d : Int) (tw sl : List Int) : PyData.eqv (toldD u a d tw sl) (toldD u a d tw sl) = true := by
  simp [toldD, PyData.eqv, PyData.eqvAll, ked_eqvAll]
theorem told_shaped (u a d : Int) (tw sl : List Int) : SeqAt.shaped (toldD u a d tw sl) = true := by
  simp [toldD, SeqAt.shaped, PyData.canLay0, PyData.canLayAll0, PyData.depth, PyData.depthAll, ke_canLayAll0, ke_depthAll]
theorem told_reads {h₀ h : Heap} {L : Addr} {news : List (Addr × Obj)} {T TW TL : Addr} {u a d : Int} {t1 t2 t3 : Tok} {vs ws : List Value} {tw sl : List Int} (N : News h₀ L h news) (m1 : (T, tupo [.int u t1, .int a t2, .int d t3, .ref TW, .ref TL]) ∈ news)
    (m2 : (TW, tupo vs) ∈ news) (m3 : (TL, tupo ws) ∈ news) (hv : IntsAre vs tw) (hw : IntsAre ws sl) : ∃ as, Reads h (.ref T) (toldD u a d tw sl) as :=
  ⟨_, reads_tuple_at (N _ m1).1 rfl rfl (.cons (.int _ _) (.cons (.int _ _) (.cons (.int _ _) (.cons (reads_tuple_at (N _ m2).1 rfl rfl ((ke_carried hv).reads h)) (.cons (reads_tuple_at (N _ m3).1 rfl rfl ((ke_carried hw).reads h)) .nil)))))⟩
section
variable {prog : Program} {w : World} {A : Around} {E : Value → Shared → Prop} {s : Shared} {h₀ : Heap} {L : Addr} {news : List (Addr × Obj)}
theorem eq_told {T TW TL D DW DS : Addr} {u a d : Int} {t1 t2 t3 t4 t5 t6 : Tok} {vs ws vs' ws' : List Value} {tw sl : List Int} {Q : Value → Shared → Prop} (N : News h₀ L s.heap news) (m1 : (T, tupo [.int u t1, .int a t2, .int d t3, .ref TW, .ref TL]) ∈ news)
    (m2 : (TW, tupo vs) ∈ news) (m3 : (TL, tupo ws) ∈ news) (m4 : (D, tupo [.int u t4, .int a t5, .int d t6, .ref DW, .ref DS]) ∈ news) (m5 : (DW, tupo vs') ∈ news) (m6 : (DS, tupo ws') ∈ news)
    (hv : IntsAre vs tw) (hw : IntsAre ws sl) (hv' : IntsAre vs' tw) (hw' : IntsAre ws' sl) (hu : A.units + 64 < cLine) (h : Q (.bool true) s) : wpAny (model prog w) A (compareOp .Eq (.ref T) (.ref D)) Q E s := by
  obtain ⟨as, r1⟩ := told_reads N m1 m2 m3 hv hw
  obtain ⟨bs, r2⟩ := told_reads N m4 m5 m6 hv' hw'
  exact eq_dataH r1 r2 (told_shaped _ _ _ _ _) (told_shaped _ _ _ _ _) hu (by rw [told_eqv]; exact h)
end
theorem maxp_way {way : Nat} {z : Int} {km : List Int} (hw : (way : Int) < 4) (hz : z = if way = 1 then 26 else 0) (l : km.length = 6 + z.toNat) (v : be4 km 0 = [20480, 65536, 20480, 65537].getD (way : Int).toNat 0) :
    (be4 km 0 = 65536 → 32 ≤ km.length) ∧ faultV km = if way = 3 then 0 else -1 := by
  have h : way = 0 ∨ way = 1 ∨ way = 2 ∨ way = 3 := by omega
  unfold faultV
  rcases h with rfl | rfl | rfl | rfl
  · have v' : be4 km 0 = 20480 := v
    rw [v']
    exact ⟨fun q => absurd q (by decide), rfl⟩
  · have v' : be4 km 0 = 65536 := v
    have hz' : z = 26 := hz
    rw [v', l, hz']
    exact ⟨fun _ => by decide, rfl⟩
  · have v' : be4 km 0 = 20480 := v
    rw [v']
    exact ⟨fun q => absurd q (by decide), rfl⟩
  · have v' : be4 km 0 = 65537 := v
    rw [v']
    exact ⟨fun q => absurd q (by decide), rfl⟩
theorem rows_both {ks ls : List Int} {mn n : Nat} (h : mn ≤ n) : (rows ks ls mn n).length = 2 * (mn + n) := by
  obtain ⟨j, rfl⟩ : ∃ j, n = mn + j := ⟨n - mn, by omega⟩
  rw [rows_len2]
  omega
abbrev Cut (c : Int) (rx qx : List Int) : Prop := (c = 1 ∧ qx.length + 1 = rx.length) ∨ (c = 0 ∧ ∃ a2 : List Int, a2.length = 2 ∧ qx = rx ++ a2)
theorem cut_len {c : Int} {rx qx : List Int} (h : Cut c rx qx) : rx.length ≤ qx.length + 1 ∧ qx.length ≤ rx.length + 2 := by
  rcases h with ⟨_, h⟩ | ⟨_, a2, l, rfl⟩
  · omega
  · rw [List.length_append]; omega
theorem cut_low {c : Int} {ks ls rx qx : List Int} {many : Int} {n : Nat} (h : Cut c rx qx) (hr : rx = rows ks ls many n) (h0 : 0 < many) (h1 : many ≤ n) : 2 * (many + n) - 1 ≤ (qx.length : Int) := by
  obtain ⟨mn, rfl⟩ : ∃ mn : Nat, many = mn := ⟨many.toNat, by omega⟩
  have := cut_len h
  rw [hr, rows_both (by omega)] at this
  omega
theorem cut_fault {c : Int} {ks ls rx qx : List Int} {many : Int} {n : Nat} (h : Cut c rx qx) (hr : rx = rows ks ls many n) (h0 : 0 < many) (h1 : many ≤ n) : (if c = 1 then 2 * (many + n) - 2 else -1) = faultX qx many n := by
  obtain ⟨mn, rfl⟩ : ∃ mn : Nat, many = mn := ⟨many.toNat, by omega⟩
  have l := rows_both (ks := ks) (ls := ls) (mn := mn) (n := n) (by omega)
  unfold faultX
  rcases h with ⟨hc, h⟩ | ⟨hc, a2, l2, rfl⟩
  · rw [if_pos hc, if_pos (by rw [hr, l] at h; omega)]
  · rw [if_neg (by omega), if_neg (by rw [List.length_append, hr, l]; omega)]
theorem law_first {c : Int} {kh ka km ks ls rx qx : List Int} {fv fx : Int} {n way : Nat} (h : Cut c rx qx) (hr : rx = rows ks ls (be2 ka 34) n) (hn : be2 km 4 = n) (hv : fv = if way = 3 then 0 else -1) (hV : faultV km = if way = 3 then 0 else -1) (hx : fx = if c = 1 then 2 * (be2 ka 34 + n) - 2 else -1) :
    firstF (faults kh ka km qx) = (pos [faultH kh, faultA ka, fv, faultC (be2 ka 34) n, fx]).head? := by
  have e := firstF_filter [faultH kh, faultA ka, fv, faultC (be2 ka 34) n, fx]
  refine Eq.trans ?_ e
  unfold faults
  rw [hV, ← hv, hn]
  exact (firstF_same fun a b => by rw [hx]; exact cut_fault h hr a b).symm
theorem law_none {c : Int} {kh ka km ks ls rx qx tw : List Int} {n : Nat} (hk : In2 ks) (hl : In2 ls) (h : Cut c rx qx) (hr : rx = rows ks ls (be2 ka 34) n) (hn : be2 km 4 = n) (lks : ls.length = n) (ltw : tw.length = n)
    (ht : 1 ≤ be2 ka 34 → ∀ i, i < n → tw.getD i 0 = ks.getD (min i ((be2 ka 34).toNat - 1)) 0) (hno : firstF (faults kh ka km qx) = none) {mn ct : Nat} (hm : be2 ka 34 = mn) (hc : be2 km 4 = ct) :
    advs qx mn ct = tw ∧ bers qx mn ct = ls.map sg := by
  have hC : 0 < be2 ka 34 ∧ be2 ka 34 ≤ be2 km 4 := by
    refine Decidable.byContradiction fun q => ?_
    have e : faultC (be2 ka 34) (be2 km 4) = 34 := if_pos q
    unfold faults at hno
    rw [e] at hno
    simp only [firstF] at hno
    split at hno
    · cases hno
    · split at hno
      · cases hno
      · split at hno
        · cases hno
        · cases hno
  have ec : ct = n := by omega
  subst ec
  have hX : faultX qx (be2 ka 34) (be2 km 4) = -1 := by
    have : ∀ a b d e : Int, firstF [a, b, d, e, faultX qx (be2 ka 34) (be2 km 4)] = none → faultX qx (be2 ka 34) (be2 km 4) = -1 := by
      intro a b d e q
      have := Nat.le_refl 0
      simp only [firstF] at q
      split at q
      · cases q
      · split at q
        · cases q
        · split at q
          · cases q
          · split at q
            · cases q
            · split at q
              · cases q
              · rename_i z
                unfold faultX at z ⊢
                split
                · rename_i y; rw [if_pos y] at z; exact absurd (by omega) z
                · rfl
    exact this _ _ _ _ hno
  have hz : ∃ a2, qx = rows ks ls mn ct ++ a2 := by
    rw [hm] at hr
    rcases h with ⟨hc1, h⟩ | ⟨_, a2, _, rfl⟩
    · unfold faultX at hX
      rw [hr, rows_both (by omega)] at h
      rw [if_pos (by omega)] at hX
      omega
    · exact ⟨a2, by rw [hr]⟩
  obtain ⟨a2, hz⟩ := hz
  rw [hz]
  refine ⟨advs_law hk (by omega) (by omega) ltw fun i hi => ?_, bers_law hl (by omega) lks⟩
  have := ht (by omega) i hi
  rw [hm] at this
  simpa using this
theorem maxp_len {z : Int} {km : List Int} (h1 : 0 ≤ z) (h2 : z ≤ 26) (l : km.length = 6 + z.toNat) : 6 ≤ km.length ∧ km.length ≤ 1000 := by
  have h3 : z.toNat ≤ 26 := Int.toNat_le.mpr h2
  generalize z.toNat = y at l h3
  omega
theorem ints_cons {vs : List Value} {n : Int} {r : List Int} (h : IntsAre vs (n :: r)) : ∃ t vs', vs = .int n t :: vs' ∧ IntsAre vs' r := by
  cases h with
  | cons _ t h => exact ⟨t, _, rfl, h⟩
theorem ints_nil {vs : List Value} (h : IntsAre vs []) : vs = [] := by cases h; rfl
theorem head_cons {l : List Int} {n : Int} (h : l.head? = some n) : ∃ r, l = n :: r := by
  cases l with
  | nil => cases h
  | cons a r => cases h; exact ⟨r, rfl⟩
end

section
local macro_rules | `(tactic| walk_at "eval ListComp") => `(tactic| (k_here; (with_reducible show wpAny _ _ (eval (PySem.Expr.ListComp (PySem.Expr.Call (PySem.Expr.Name (Str.ofString "_law_signed") _) _ _ _) _ _ _) _) _ _ _); refine halt ?_))
local macro_rules | `(tactic| walk_at "call ref") => `(tactic| (k_here; (with_reducible show wpAny _ _ (call (Value.ref 294) _) _ _ _); k_dflt (refine' sgn_ok ?cB ?cF ?cX ?cN ?cT ?ck ?cd ?cu ?_; (case cB => k_asm); (case cF => k_asm); (case cX => k_asm); (case cN => k_asm); (case cT => k_asm); (case ck => walk_at "hk"); (case cd => walk_at "hr"); (case cu => walk_at "hr"); k_whole); intro t' h' tk' F' N'; (try k_sweep); (try dsimp only); (try k_fold)))
local macro_rules | `(tactic| walk_at "eval IfExp") => `(tactic| (k_here; refine halt ?_))
local macro_rules | `(tactic| size_fits) => `(tactic| (rw [PySem.sizeLine_eq]; first | exact Nat.le_of_ble_eq_true rfl | omega))
theorem un_halt {p : Prop} (h : p) : Halt p := h
theorem list_join {M : Model} {A : Around} {E : Value → Shared → Prop} {s : Shared} {g : Heap} {L : Addr} {mf : Str → Option Value} {news : List (Addr × Obj)} {e : PySem.Expr} {env : Env} {Q : Value → Shared → Prop} (_F : Fr g L s.heap mf) (_N : News g L s.heap news)
    (h1 : wpAny M A (eval e env) (fun v s' => Halt (∃ ca vs ns n2 h' tk', v = .ref ca ∧ IntsAre vs ns ∧ 0 < ns.length ∧ ns.length ≤ 60 ∧ s' = { s with heap := h', toks := tk' } ∧ Fr g L h' mf ∧ News g L h' ((ca, PySem.W.listOf vs.toArray n2) :: news) ∧ ∀ q ∈ news, q.1 < ca)) E s)
    (h2 : ∀ ca vs ns n2 h' tk', IntsAre vs ns → 0 < ns.length → ns.length ≤ 60 → Fr g L h' mf → News g L h' ((ca, PySem.W.listOf vs.toArray n2) :: news) → (∀ q ∈ news, q.1 < ca) → Q (.ref ca) { s with heap := h', toks := tk' }) : wpAny M A (eval e env) Q E s :=
  wpAny_mono h1 (fun v s' h => by
    obtain ⟨ca, vs, ns, n2, h', tk', rfl, hi, h0, h6, rfl, F', N', l⟩ := h
    exact h2 ca vs ns n2 h' tk' hi h0 h6 F' N' l) fun _ _ e => e
local macro_rules | `(tactic| walk_at "CompEnd") => `(tactic| (refine halt ?_))
local macro_rules | `(tactic| walk_at "CompSrcT") => `(tactic| (refine halt ?_))
local macro_rules | `(tactic| walk_at "CompSrc") => `(tactic| (refine halt ?_))
local macro_rules | `(tactic| walk_at "compareOp Eq ref ref") => `(tactic| (k_here; (with_reducible show wpAny _ _ (compareOp CmpOp.Eq (Value.ref _) (Value.ref _)) _ _ _); refine halt ?_))
local macro_rules | `(tactic| walk_at "eval BoolOp") => `(tactic| (k_here; refine halt ?_))
theorem rg_small {k : Nat} (h : (k : Int) < 5) : Builtin.Range.small 0 (1 + (k : Int)) 1 = true := small_one (by omega) (by omega) (by omega) (by omega)
theorem rg_size {k : Nat} (_ : (k : Int) < 5) : Builtin.Range.rangeSize 0 (1 + (k : Int)) 1 = ((k + 1 : Nat) : Int) := by rw [rangeSize_nat]; omega
theorem rg_line {k : Nat} (h : (k : Int) < 5) : k + 1 ≤ sizeLine := by rw [PySem.sizeLine_eq]; omega
theorem nat_of {v b : Int} (h0 : 0 ≤ v) (h : v < b) : ∃ k : Nat, v = (k : Int) ∧ (k : Int) < b := ⟨v.toNat, by omega, by omega⟩
theorem nm_ka {ka : List Int} (_ : be4 ka 0 = 65536) : ∃ kb, kb = ka := ⟨_, rfl⟩
theorem trim5 {α : Type} {a b c d e q : α} {l : List α} (h : q ∈ c :: l) : q ∈ a :: b :: c :: d :: e :: l := by
  rcases List.mem_cons.mp h with rfl | h
  · exact .tail _ (.tail _ (.head _))
  · exact .tail _ (.tail _ (.tail _ (.tail _ (.tail _ h))))
theorem if_joinV {M : Model} {A : Around} {E : Value → Shared → Prop} {s : Shared} {g : Heap} {L : Addr} {mf : Str → Option Value} {news : List (Addr × Obj)} {e : PySem.Expr} {env : Env} {Q : Value → Shared → Prop} (_F : Fr g L s.heap mf) (_N : News g L s.heap news) (P : Value → Prop)
    (h1 : wpAny M A (eval e env) (fun v s' => Halt (∃ h' tk', P v ∧ s' = { s with heap := h', toks := tk' } ∧ Fr g L h' mf ∧ News g L h' news)) E s)
    (h2 : ∀ v h' tk', P v → Fr g L h' mf → News g L h' news → Q v { s with heap := h', toks := tk' }) : wpAny M A (eval e env) Q E s :=
  wpAny_mono h1 (fun v s' h => by
    obtain ⟨h', tk', hp, rfl, F', N'⟩ := h
    exact h2 v h' tk' hp F' N') fun _ _ e => e
theorem glueI_snoc (bs : List (Array UInt8 × Tok)) (p : Array UInt8 × Tok) : glueI (bs ++ [p]) = glueI bs ++ KBw.bInts p.1 := by simp [glueI]
theorem wide_len {c : Prop} [Decidable c] {n : Int} : (if c then b2 n else []).length ≤ 2 := by
  split
  · exact Nat.le_refl 2
  · exact Nat.zero_le 2
theorem if_joinW {M : Model} {A : Around} {E : Value → Shared → Prop} {s : Shared} {g : Heap} {L : Addr} {mf : Str → Option Value} {a b c d e' : Addr × Obj} {news : List (Addr × Obj)} {e : PySem.Expr} {env : Env} {Q : Value → Shared → Prop} (_F : Fr g L s.heap mf) (_N : News g L s.heap (a :: b :: c :: d :: e' :: news)) (P : Value → Prop)
    (h1 : wpAny M A (eval e env) (fun v s' => Halt (∃ h' tk', P v ∧ s' = { s with heap := h', toks := tk' } ∧ Fr g L h' mf ∧ News g L h' (a :: b :: c :: news))) E s)
    (h2 : ∀ v h' tk', P v → Fr g L h' mf → News g L h' (a :: b :: c :: news) → Q v { s with heap := h', toks := tk' }) : wpAny M A (eval e env) Q E s :=
  wpAny_mono h1 (fun v s' h => by
    obtain ⟨h', tk', hp, rfl, F', N'⟩ := h
    exact h2 v h' tk' hp F' N') fun _ _ e => e
theorem fdiv8 {c : Nat} (h : (c : Int) < 9) : (c : Int).fdiv 8 = 0 ∨ (c : Int).fdiv 8 = 1 := by
  rw [Int.fdiv_eq_ediv_of_nonneg _ (by decide)]
  omega
theorem snoc_lt {l : List Int} {x : Int} {i : Nat} (h : i < l.length) : (l ++ [x]).getD i 0 = l.getD i 0 := by
  rw [List.getD_eq_getElem?_getD, List.getD_eq_getElem?_getD, List.getElem?_append_left h]
theorem snoc_eq {l : List Int} {x : Int} : (l ++ [x]).getD l.length 0 = x := by
  rw [List.getD_eq_getElem?_getD, List.getElem?_append_right (Nat.le_refl _), Nat.sub_self]
  rfl
theorem map_up {l : List Int} {i : Nat} {n : Int} {f : Int → Int} (h : l[i]? = some n) : (l.take (i + 1)).map f = (l.take i).map f ++ [f n] := by
  rw [List.take_add_one, h, List.map_append]
  rfl
local macro_rules | `(tactic| walk_at "exec Assign cons ListComp") => `(tactic| (k_here; refine halt ?_))
theorem nm_kh {kh : List Int} (_ : kh.length = 54) : ∃ kb, kb = kh := ⟨_, rfl⟩
theorem arr_at {its : Array Value} {i : Nat} {v : Value} (h : its[i]? = some v) : its.toList[i]? = some v := by rw [Array.getElem?_toList]; exact h
theorem min_pick {mx m : Int} {j n : Nat} (h : (mx = 0 + (j : Int) * 1 ∧ 0 + (j : Int) * 1 ≤ m - 1) ∨ (mx = m - 1 ∧ m - 1 < 0 + (j : Int) * 1)) (e : j = n) : mx.toNat = min n (m.toNat - 1) := by
  subst e
  rcases h with ⟨rfl, h⟩ | ⟨rfl, h⟩
  · rw [Nat.min_eq_left (by omega)]; omega
  · rw [Nat.min_eq_right (by omega)]; omega
section
variable {w : World} {loose : List Str} {mean : ExcName → Option Value} {mg mb : Str → Option Value} {dp un : Nat} {gd : Option (List Code)} {s : Shared} {R : Result → Shared → Prop}
theorem law_ok {sc : Addr} {vs : List Value} {ns : List Int} (X : (K w.params).In s.heap) (T : Top vw loose mean mg mb s.heap) (hdp : dp + 30 < recursionLimit) (hun : un + 300 < cLine)
    (hsc : s.heap.IsList sc vs.toArray) (hi : IntsAre vs ns) (hlen : ns.length ≤ 63)
    (ret : ∀ L' h' m' tk', Fr s.heap L' h' m' → R (.ok (.ret (.bool true))) { s with heap := h', toks := tk' }) :
    codeAny (model prog w) (ktr0 dp un gd) (.call (.ref 320) ⟨[.ref sc], []⟩) R s := by
  have B : Below (ktr0 dp un gd) s.heap [] s.heap := ⟨rfl, fun _ _ e => e, trivial⟩
  (k_dflt (refine' code_topC ?k3 ?k5 ?k6 ?k7 ?k8 ?k9 ?kB ?kD ?_ ?c2 ?c3 ?c4; (case k3 => exact X); (case k5 => exact T); (case k6 => k_is); (case k7 => k_is); (case k8 => (show dp < recursionLimit; omega)); (case k9 => first | exact BindsTo.of_eq rfl | exact binds_K (by k_in) rfl (by k_is) rfl rfl rfl | fail "enter: no rule for these arguments"); (case kB => exact rfl); (case kD => decide +kernel); (case c2 => exact rfl); (case c3 => exact rfl); (case c4 => exact rfl); k_whole; intro L' h' tk' cells' F' N' Y'; k_cells Y'; (try dsimp only); (try k_fold)))
  rename_i d1 d2 d3 d4
  replace d1 : _ = Data.cell none := d1
  replace d2 : _ = Data.cell none := d2
  replace d3 : _ = Data.cell none := d3
  replace d4 : _ = Data.cell none := d4
  k_steps
  unfold Halt
  rename Fr _ _ _ _ => F1
  rename News _ _ _ _ => N1
  refine list_join F1 N1 ?_ ?_
  · refine BoolOp_or ?_
    k_steps
    all_goals refine un_halt ?_
    · rename Fr _ _ _ _ => Fz
      rename News _ _ _ _ => Nz
      refine ⟨_, _, _, _, _, _, rfl, by with_reducible assumption, by assumption, by omega, rfl, Fz, news_keep1 Nz fun q hq => .tail _ (.tail _ hq), ?_⟩
      intro q hq
      simp only [List.mem_cons, List.not_mem_nil, or_false] at hq
      rcases hq with rfl | rfl | rfl | rfl <;> (refine bl_lt ?_; dsimp only; with_reducible assumption)
    · refine BoolOp_one ?_
      k_steps
      refine un_halt ?_
      rename Fr _ _ _ _ => Fz
      rename News _ _ _ _ => Nz
      refine ⟨_, [.int 5 _], [5], _, _, _, rfl, .cons _ _ .nil, by decide, by decide, rfl, Fz, news_keep1 Nz fun q hq => .tail _ (.tail _ (.tail _ hq)), ?_⟩
      intro q hq
      simp only [List.mem_cons, List.not_mem_nil, or_false] at hq
      rcases hq with rfl | rfl | rfl | rfl <;> (refine bl_lt ?_; dsimp only; with_reducible assumption)
  · intro ca vs' ns' n2 h4 tk4 hi4 h04 h64 F4 N4 l4
    clear F1 N1
    k_lt l4
    k_steps
    rename IsRange _ _ _ _ _ _ _ _ => rg
    rename Fr _ _ _ _ => F1
    rename News _ _ _ _ => N1
    rename (_ < (5 : Int)) => hc5
    obtain ⟨k, rfl, hk5⟩ := nat_of (by assumption) hc5
    clear hc5
    refine ⟨_, _, _, _, _, _, _, k + 1, _, rfl, rfl, F1, N1, rg, rg_small hk5, rg_size hk5, rg_line hk5, ?_⟩
    rintro s₂ ⟨hp, rfl⟩
    refine crest (fun j ys nw => ∃ i2 t2 ks, i2 = 0 + 1 + (j : Int) ∧ nw = (_, tape ca i2 t2 0) :: (ca, PySem.W.listOf vs'.toArray n2) :: _ ∧ IntsAre ys ks ∧ ks.length = j ∧ ∀ k ∈ ks, 0 ≤ k ∧ k < 65536) ⟨0 + 1, _, [], by omega, rfl, .nil, rfl, fun _ h => nomatch h⟩ ?_ ?_
    · rintro j v I oI C oC D m₂ ys nw h tk E' hj ⟨tv, rfl⟩ ⟨i2, t2, ks, hi2, rfl, hy, hk, hin⟩ hC hx F2 N2 off ne
      clear F1 N1
      have off' := Kept.mk off
      refine ap3_k ne fun _ _ _ => ?_
      refine off3_k off ?_
      clear off ne
      dsimp only [Off3K]
      intros
      k_steps
      refine un_halt ?_
      rename Fr _ _ _ _ => F3
      rename News _ _ _ _ => N3
      refine ⟨_, _, _, rfl, F3, N3, off'.h, trivial, _, _, ks ++ [_], ?_, rfl, hy.append (.cons _ _ .nil), ?_, ?_⟩
      · omega
      · simp [hk]
      · intro x hx
        rcases List.mem_append.mp hx with hx | hx
        · exact hin x hx
        · rw [List.mem_singleton.mp hx]
          exact ⟨by assumption, by assumption⟩
    · rintro ys nw ⟨i2, t2, ks, hi2, rfl, hy, hk, hin⟩
      intro D h tk F2 N2 o1
      clear F1 N1 rg
      refine off1_k o1 ?_
      clear o1
      dsimp only [Off1K]
      intros
      k_steps
      rename IsRange _ _ _ _ _ _ _ _ => rg
      rename Fr _ _ _ _ => F1
      rename News _ _ _ _ => N1
      refine ⟨_, _, _, _, _, _, _, k + 1, _, rfl, rfl, F1, N1, rg, rg_small hk5, rg_size hk5, rg_line hk5, ?_⟩
      rintro s₂ ⟨hp, rfl⟩
      refine crest (fun j zs nw => ∃ i3 t3 ls, i3 = i2 + (j : Int) ∧ nw = (D, LCg.lst ys) :: (_, tape ca i3 t3 0) :: (ca, PySem.W.listOf vs'.toArray n2) :: _ ∧ IntsAre zs ls ∧ ls.length = j ∧ ∀ k ∈ ls, 0 ≤ k ∧ k < 65536) ⟨i2, _, [], by omega, rfl, .nil, rfl, fun _ h => nomatch h⟩ ?_ ?_
      · rintro j v I oI C oC D' m₂ zs nw h tk E' hj ⟨tv, rfl⟩ ⟨i3, t3, ls, hi3, rfl, hz, hl, hin2⟩ hC hx F2 N2 off ne
        clear F1 N1
        have off' := Kept.mk off
        refine ap3_k ne fun _ _ _ => ?_
        refine off3_k off ?_
        clear off ne
        dsimp only [Off3K]
        intros
        k_steps
        refine un_halt ?_
        rename Fr _ _ _ _ => F3
        rename News _ _ _ _ => N3
        refine ⟨_, _, _, rfl, F3, N3, off'.h, trivial, _, _, ls ++ [_], ?_, rfl, hz.append (.cons _ _ .nil), ?_, ?_⟩
        · omega
        · simp [hl]
        · intro x hx
          rcases List.mem_append.mp hx with hx | hx
          · exact hin2 x hx
          · rw [List.mem_singleton.mp hx]
            exact ⟨by assumption, by assumption⟩
      · rintro zs nw ⟨i3, t3, ls, hi3, rfl, hz, hl, hin2⟩
        intro D2 h tk F2 N2 o2
        clear F1 N1 rg
        refine off1_k o2 ?_
        clear o2
        dsimp only [Off1K]
        intros
        k_steps
        refine un_halt ?_
        rename (_ < (4 : Int)) => hw4
        obtain ⟨way, rfl, hw4'⟩ := nat_of (by assumption) hw4
        rename Fr _ _ _ _ => F1
        rename News _ _ _ _ => N1
        refine if_join0 F1 N1 (fun z => z = if way = 1 then 26 else 0) ?_ ?_
        · refine IfExp_ ?_
          k_steps
          all_goals refine un_halt ?_
          all_goals refine ⟨_, _, _, _, rfl, ?_, rfl, by assumption, by assumption⟩
          · rw [if_pos (by omega)]
          · rw [if_neg (by omega)]
        · rintro z tz hpz tkz hz0 Fz Nz
          clear F1 N1
          have hz1 : 0 ≤ z ∧ z ≤ 26 := by rw [hz0]; split <;> omega
          obtain ⟨hz1, hz2⟩ := hz1
          k_steps
          rename IsRange _ _ _ _ _ _ _ _ => rg
          rename Fr _ _ _ _ => F1
          rename News _ _ _ _ => N1
          replace N1 := news_sub N1 fun q hq => trim5 hq
          obtain ⟨km, hkm, lkm, vkm, ckm⟩ := maxp_fin (by with_reducible assumption) (getD_lt (by decide) (by decide)) ⟨by omega, by omega⟩
          rename (be4 _ 0 = 65536) => hva
          obtain ⟨ka, rfl⟩ := nm_ka hva
          refine ⟨_, _, _, _, _, _, _, k + 1, _, rfl, rfl, F1, N1, rg, rg_small hk5, rg_size hk5, rg_line hk5, ?_⟩
          rintro s₂ ⟨hp, rfl⟩
          refine crest (fun j ys2 nw => ∃ bs : List (Array UInt8 × Tok), ys2 = bs.map mkB ∧ bs.length = j ∧ glueI bs = rows ks ls (be2 ka 34) j ∧ nw = _) ⟨[], rfl, rfl, rfl, rfl⟩ ?_ ?_
          · rintro j v I oI C oC Dj m₂ ys2 nw h tk E' hj ⟨tv, rfl⟩ ⟨bs, rfl, hbl, hbg, rfl⟩ hC hx F2 N2 off ne
            clear F1 N1
            have off' := Kept.mk off
            refine ap3_k ne fun _ _ _ => ?_
            refine off3_k off ?_
            clear off ne
            dsimp only [Off3K]
            intros
            k_steps
            refine un_halt ?_
            rename Fr _ _ _ _ => F3
            rename News _ _ _ _ => N3
            refine if_joinV F3 N3 (fun v => ∃ d t, v = .bytes d t ∧ KBw.bInts d = if (j : Int) < be2 ka 34 then b2 (ks.getD j 0) else []) ?_ ?_
            · refine IfExp_ ?_
              k_steps
              all_goals refine un_halt ?_
              all_goals refine ⟨_, _, ⟨_, _, rfl, ?_⟩, rfl, by assumption, by assumption⟩
              · rw [if_pos (by omega), ← show (0 + (j : Int) * 1).toNat = j by omega]
                assumption
              · rw [if_neg (by omega)]
                rfl
            · rintro v hv tkv ⟨d1, t1, rfl, hd1⟩ F4 N4
              clear F3 N3
              obtain ⟨w1, hw1, hw1l⟩ : ∃ w1 : List Int, w1 = (if (j : Int) < be2 ka 34 then b2 (ks.getD j 0) else []) ∧ w1.length ≤ 2 := ⟨_, rfl, wide_len⟩
              rw [← hw1] at hd1
              k_steps
              refine un_halt ?_
              rename Fr _ _ _ _ => F5
              rename News _ _ _ _ => N5
              refine' ⟨_, _, _, rfl, F5, N5, off'.h, trivial, bs ++ [(?zd, ?zt)], ?_, ?_, ?_, rfl⟩
              rotate_left 2
              · rw [List.map_append]; rfl
              · rw [List.length_append, hbl]; rfl
              · rw [glueI_snoc, hbg]
                refine congrArg (rows ks ls (be2 ka 34) j ++ ·) (Eq.trans (by with_reducible assumption) ?_)
                rw [hw1, show (0 + (j : Int) * 1).toNat = j by omega]
                rfl
          · rintro ys2 nw ⟨bs, rfl, hbl, hbg, rfl⟩
            intro Dj h tk F2 N2 o3
            clear F1 N1 rg
            k_steps
            refine join_call (bs := bs) (by omega) ⟨_, (N2 _ (.head _)).1, rfl, _, rfl⟩ ?_ ?_
            · rw [hbg]
              have := (rows_any (ks := ks) (ls := ls) (mn := be2 ka 34) (n := k + 1)).1
              omega
            intro dx tx kx hdx
            rw [hbg] at hdx
            have hrl := rows_any (ks := ks) (ls := ls) (mn := be2 ka 34) (n := k + 1)
            obtain ⟨rx, hrx⟩ : ∃ rx, rx = rows ks ls (be2 ka 34) (k + 1) := ⟨_, rfl⟩
            rw [← hrx] at hdx hrl
            obtain ⟨hrl1, hrl2⟩ := hrl
            replace N2 := news_sub N2 fun q hq => .tail _ hq
            k_steps
            refine un_halt ?_
            rename (_ < (9 : Int)) => h9
            obtain ⟨c9, rfl, h9'⟩ := nat_of (by assumption) h9
            have hc01 := fdiv8 h9'
            rename Fr _ _ _ _ => F1
            rename News _ _ _ _ => N1
            refine if_joinW F1 N1 (fun v => ∃ d t qx, v = .bytes d t ∧ KBw.bInts d = qx ∧ Cut ((c9 : Int).fdiv 8) rx qx) ?_ ?_
            · refine IfExp_ ?_
              k_steps
              all_goals refine un_halt ?_
              · rename Fr _ _ _ _ => Fz
                rename News _ _ _ _ => Nz
                refine ⟨_, _, ⟨_, _, _, rfl, by with_reducible assumption, .inl ⟨by assumption, ?_⟩⟩, rfl, Fz, news_sub Nz fun q hq => mem3 hq⟩
                rw [List.length_take, clipAt_mid (by omega) (by omega)]
                omega
              · rename Fr _ _ _ _ => Fz
                rename News _ _ _ _ => Nz
                exact ⟨_, _, ⟨_, _, _, rfl, by with_reducible assumption, .inr ⟨by omega, _, by assumption, rfl⟩⟩, rfl, Fz, news_sub Nz fun q hq => mem3 hq⟩
            · rintro v hq tkq ⟨dq, tq, qx, rfl, hdq, hq1⟩ F2 N2
              clear F1 N1
              k_steps
              refine un_halt ?_
              rename Fr _ _ _ _ => F1
              rename News _ _ _ _ => N1
              refine if_join0 F1 N1 (fun z => z = if way = 3 then 0 else -1) ?_ ?_
              · refine IfExp_ ?_
                k_steps
                all_goals refine un_halt ?_
                all_goals refine ⟨_, _, _, _, rfl, ?_, rfl, by assumption, by assumption⟩
                · rw [if_pos (by omega)]
                · rw [if_neg (by omega)]
              · rintro fv t4 h4' tk4' hfv F2 N2
                clear F1 N1
                k_steps
                refine un_halt ?_
                rename Fr _ _ _ _ => F1
                rename News _ _ _ _ => N1
                refine if_join0 F1 N1 (fun z => z = if (c9 : Int).fdiv 8 = 1 then 2 * (be2 ka 34 + (1 + (k : Int))) - 2 else -1) ?_ ?_
                · refine IfExp_ ?_
                  k_steps
                  all_goals refine un_halt ?_
                  all_goals refine ⟨_, _, _, _, rfl, ?_, rfl, by assumption, by assumption⟩
                  · rw [if_pos (by omega)]
                  · rw [if_neg (by omega)]
                · rintro fx t5 h5' tk5' hfx F2 N2
                  clear F1 N1
                  k_steps
                  refine un_halt ?_
                  rename (_ = faultH _) => hfH
                  subst hfH
                  obtain ⟨kh, rfl⟩ := nm_kh (by assumption)
                  rename (be2 _ 18 = _) => hem
                  subst hem
                  rename Fr _ _ _ _ => F1
                  rename News _ _ _ _ => N1
                  refine LCt.Assign_ListComp_T F1 (by rfl) (by with_unfolding_all rfl) (by with_unfolding_all rfl) (by decide) (by rfl) (by decide) (by rfl) (by rfl) (by rfl) ?_
                  k_steps
                  refine un_halt ?_
                  rename Fr _ _ _ _ => F2
                  rename News _ _ _ _ => N2
                  refine LCt.CompSrcT.ledger rfl F2 N2 (.head _) (by rw [PySem.sizeLine_eq]; exact Nat.le_of_ble_eq_true rfl) fun g => ?_
                  refine crestT (fun j ys nw => IntsAre ys (pos (List.take j [faultH kh, faultA ka, fv, faultC (be2 ka 34) (1 + (k : Int)), fx])) ∧ nw = _) ⟨.nil, rfl⟩ ?_ ?_
                  · rintro i v I oI C oC Dc m₂ ys3 nw h tk E' hj hv ⟨hy3, rfl⟩ hC hx F3 N3 off ne
                    clear F2 N2
                    have off' := Kept.mk off
                    refine ap3_k ne fun _ _ _ => ?_
                    refine off3_k off ?_
                    clear off ne
                    dsimp only [Off3K]
                    intros
                    obtain ⟨n, t, rfl, hn⟩ := IntsAre.at (ns := [faultH kh, faultA ka, fv, faultC (be2 ka 34) (1 + (k : Int)), fx]) (.cons _ _ (.cons _ _ (.cons _ _ (.cons _ _ (.cons _ _ .nil))))) i v (arr_at hv)
                    by_cases hn0 : 0 ≤ n
                    · k_steps
                      refine un_halt ?_
                      rename Fr _ _ _ _ => F4
                      rename News _ _ _ _ => N4
                      refine ⟨_, _, _, rfl, F4, N4, off'.h, .inr ⟨_, .head _, rfl, _, rfl⟩, ?_, rfl⟩
                      rw [pos_up hn hn0]
                      exact hy3.append (.cons _ _ .nil)
                    · k_steps
                      refine un_halt ?_
                      rename Fr _ _ _ _ => F4
                      rename News _ _ _ _ => N4
                      refine ⟨_, _, _, rfl, F4, N4, off'.h, .inr ⟨_, .head _, rfl, _, rfl⟩, ?_, rfl⟩
                      rw [pos_skip hn hn0]
                      exact hy3
                  · rintro ys3 nw ⟨hy3, rfl⟩
                    intro Df h tk F3 N3 o4
                    clear F2 N2
                    have hy5 : IntsAre ys3 (pos [faultH kh, faultA ka, fv, faultC (be2 ka 34) (1 + (k : Int)), fx]) := hy3
                    clear hy3
                    replace N3 := news_cut N3
                    refine off1_k o4 ?_
                    clear o4
                    dsimp only [Off1K]
                    intros
                    k_steps
                    rename IsRange _ _ _ _ _ _ _ _ => rg
                    rename Fr _ _ _ _ => F1
                    rename News _ _ _ _ => N1
                    refine ⟨_, _, _, _, _, _, _, k + 1, _, rfl, rfl, F1, N1, rg, rg_small hk5, rg_size hk5, rg_line hk5, ?_⟩
                    rintro s₂ ⟨hp5, rfl⟩
                    refine crest (fun j ys4 nw => ∃ tw : List Int, IntsAre ys4 tw ∧ tw.length = j ∧ (1 ≤ be2 ka 34 → ∀ i, i < j → tw.getD i 0 = ks.getD (min i ((be2 ka 34).toNat - 1)) 0) ∧ nw = _) ⟨[], .nil, rfl, fun _ i hi => absurd hi (by omega), rfl⟩ ?_ ?_
                    · rintro j v I oI C oC Dj2 m₂ ys4 nw h tk E' hj ⟨tv, rfl⟩ ⟨tw, hy4, hl4, ht4, rfl⟩ hC hx F2 N2 off ne
                      clear F1 N1
                      have off' := Kept.mk off
                      refine ap3_k ne fun _ _ _ => ?_
                      refine off3_k off ?_
                      clear off ne
                      dsimp only [Off3K]
                      intros
                      k_steps
                      refine un_halt ?_
                      rename Fr _ _ _ _ => F4
                      rename News _ _ _ _ => N4
                      rename (0 ≤ _ → _ = _) => hic
                      rename ((_ ∧ _) ∨ (_ ∧ _)) => hmc
                      refine' ⟨_, _, _, rfl, F4, N4, off'.h, trivial, tw ++ [?zx], hy4.append (.cons _ _ .nil), ?_, ?_, rfl⟩
                      · rw [List.length_append, hl4]; rfl
                      · intro h1 i hi
                        rcases Nat.lt_or_ge i j with hij | hij
                        · rw [snoc_lt (by omega)]
                          exact ht4 h1 i hij
                        · have e : i = tw.length := by omega
                          rw [e, snoc_eq, hic (by omega)]
                          exact congrArg (ks.getD · 0) (min_pick hmc (hl4.symm ▸ rfl))
                    · rintro ys4 nw ⟨tw, hy4, hl4, ht4, rfl⟩
                      intro Dt h tk F2 N2 o5
                      clear F1 N1 rg
                      refine off1_k o5 ?_
                      clear o5
                      dsimp only [Off1K]
                      intros
                      k_steps
                      refine un_halt ?_
                      rename Fr _ _ _ _ => F1
                      rename News _ _ _ _ => N1
                      refine LCg.ListComp_U F1 (by with_unfolding_all rfl) (by decide) (by rfl) (by decide) (by rfl) ?_
                      k_steps
                      refine un_halt ?_
                      rename Fr _ _ _ _ => F2
                      rename News _ _ _ _ => N2
                      refine LCg.CompSrc.ledger rfl F2 N2 (show (D2, LCg.lst zs) ∈ _ by k_mem) (by rw [PySem.sizeLine_eq, List.size_toArray, hz.length]; omega) fun g => ?_
                      refine crest (fun j ys nw => IntsAre ys ((ls.take j).map sg) ∧ nw = _) ⟨.nil, rfl⟩ ?_ ?_
                      · rintro i v I oI C oC Dc m₂ ys5 nw h tk E' hj hv ⟨hy5', rfl⟩ hC hx F3 N3 off ne
                        clear F2 N2
                        have off' := Kept.mk off
                        refine ap3_k ne fun _ _ _ => ?_
                        refine off3_k off ?_
                        clear off ne
                        dsimp only [Off3K]
                        intros
                        obtain ⟨n, t, rfl, hn⟩ := IntsAre.at hz i v (arr_at hv)
                        k_steps
                        refine un_halt ?_
                        rename Fr _ _ _ _ => F4
                        rename News _ _ _ _ => N4
                        refine ⟨_, _, _, rfl, F4, N4, off'.h, .inr ⟨_, (show (D2, LCg.lst zs) ∈ _ by k_mem), rfl, _, rfl⟩, ?_, rfl⟩
                        rw [map_up hn]
                        exact hy5'.append (.cons _ _ .nil)
                      · rintro ys5 nw ⟨hy6, rfl⟩
                        intro Ds h tk F3 N3 o6
                        clear F2 N2
                        have hy7 : IntsAre ys5 (ls.map sg) := by
                          rw [List.size_toArray, hz.length, List.take_length] at hy6
                          exact hy6
                        clear hy6
                        refine off1_k o6 ?_
                        clear o6
                        dsimp only [Off1K]
                        intros
                        k_steps
                        rename News _ _ _ _ => N1
                        have en : (1 + (k : Int)) = ((k + 1 : Nat) : Int) := by omega
                        obtain ⟨hw1, hw2⟩ := maxp_way hw4' hz0 lkm vkm
                        have hcl := cut_len hq1
                        obtain ⟨hm5, hm6⟩ := maxp_len hz1 hz2 lkm
                        have hfx' : fx = if (c9 : Int).fdiv 8 = 1 then 2 * (be2 ka 34 + ((k + 1 : Nat) : Int)) - 2 else -1 := by
                          rw [← en]
                          exact hfx
                        have hfirst := law_first (kh := kh) hq1 hrx (ckm.trans en) hfv hw2 hfx'
                        rw [en] at hy5
                        k_dflt (refine' seen_law ?yB ?yF ?yX ?yN ?yT ?yk ?yd ?yu ?yo ?yD ?ylo ?yhd ?yh1 ?yh2 ?yh3 ?yh4 ?yl1 ?yl2 ?yl3 ?yl4 ?yl5 ?yl6 ?yl7 ?yl8 ?yl9 ?yl10 ?yret ?yflt)
                        case yB => k_asm
                        case yF => k_asm
                        case yX => k_asm
                        case yN => k_asm
                        case yT => k_asm
                        case yk => first | exact rfl | assumption
                        case yd => first | omega | (dsimp only [ktrTop]; omega)
                        case yu => first | omega | (dsimp only [ktrTop]; omega)
                        case yo => exact rfl
                        case yD => k_mem
                        case ylo => assumption
                        case yhd => assumption
                        case yh1 => with_reducible assumption
                        case yh2 => with_reducible assumption
                        case yh3 => with_reducible assumption
                        case yh4 => with_reducible assumption
                        case yl1 => assumption
                        case yl2 => assumption
                        case yl3 => exact hva
                        case yl4 => exact hm5
                        case yl5 => exact hm6
                        case yl6 => exact hw1
                        case yl7 => omega
                        case yl8 => omega
                        case yl9 => omega
                        case yl10 =>
                          intro q1 q2
                          have := cut_low hq1 hrx q1 (by omega)
                          omega
                        case yret =>
                          intro hno mn ct hmn hct T1 TW TL vs9 ws9 tu tup tdn h9x tk9 hv9 hw9 F9 N9 la lb lc
                          obtain ⟨ea, eb⟩ := law_none hin hin2 hq1 hrx (ckm.trans en) hl hl4 ht4 hno hmn hct
                          rw [ea] at hv9
                          rw [eb] at hw9
                          rw [hno] at hfirst
                          rw [List.head?_eq_none_iff.mp hfirst.symm] at hy5
                          obtain rfl := ints_nil hy5
                          k_steps
                          refine un_halt ?_
                          refine IfExp_ ?_
                          k_steps
                          refine un_halt ?_
                          rename News _ _ _ _ => N2
                          refine eq_told N2 (by k_mem) (by k_mem) (by k_mem) (by k_mem) (by k_mem) (by k_mem) hv9 hw9 hy4 hy7 ?_ ?_
                          · first | omega | (dsimp only [ktrTop]; omega) | ((try simp only [units_in1, units_deeper, Around.mark_units, units_caller]); (try dsimp only [ktrTop]); omega)
                          · k_steps
                            exact ret _ _ _ _ (by assumption)
                        case yflt =>
                          intro n hn tn h9x tk9 F9 N9
                          rw [hn] at hfirst
                          obtain ⟨rest, e0⟩ := head_cons hfirst.symm
                          rw [e0] at hy5
                          obtain ⟨tn1, vs1, rfl, hr1⟩ := ints_cons hy5
                          have hr9 := IntsAre.cons n tn1 hr1
                          k_steps
                          refine un_halt ?_
                          refine IfExp_ ?_
                          k_steps
                          · rename (decide (_ = _) = true) => hbad
                            exact absurd (of_decide_eq_true hbad) (List.cons_ne_nil _ _)
                          · rw [show (n == (n :: rest).getD (Int.toNat 0) 0) = true from beq_self_eq_true n]
                            exact ret _ _ _ _ (by assumption)
end
end

section
theorem walk {d : DefRec} (_ : PySem.W.defOf vw lawRow.name = some (d, [])) : WalkO vw [Str.ofString "ShapeError"] (XL vw []) (Hook.says hook) lawRow.toRowW d [] fun f vs => PySem.call f vs := by
  intro w s₀ s₁ mg mb G Y fa o pm cd doc dV kV ho hdd hcd hD hmg hg args vals as hpre hlay hrd hwl hlo
  have KX := kIn_of Y
  rename PySem.W.defOf vw lawRow.name = some _ => hdef
  have hn : d.name = Str.ofString "law" := defOf_name hdef
  rw [hn] at hmg
  clear hdd hcd hD
  refine Ground.open G ?_
  intro T B D TE TW
  have e := mg_of (n := Str.ofString "law") (v := .ref 320) KX (Top.g T) (by kernel_rfl)
  have e2 : some (Value.ref fa) = some (Value.ref 320) := hmg.symm.trans e
  clear hmg
  cases e2
  wrow_args hpre hlay hrd hwl hlo
  refine enter_call ?_
  rename Heap.IsList _ _ _ => hL
  rename IntsAre _ _ => hI
  rename (¬ ((63 : Nat) : Int) < _) => hc
  exact law_ok (dp := 1 + claimMargin) (un := 4) (gd := some []) KX T (by decide) (by decide) hL hI (by omega) fun L' h' m' tk' F =>
    ⟨.inl ⟨_, _, [], rfl, fun _ => rfl, ReadsW.bool true, by first | rfl | wrow_post, fun _ => ⟨List.nodup_nil, fun _ hm => (nomatch hm)⟩⟩, .of_keep F.keep, rfl, .of_eq hg⟩
theorem holds : PySem.Challenge.rw_pb0177_01.Holds := by
  obtain ⟨d, h1, h2, h3⟩ := topD
  exact top h1 h2 h3 (walk h1)
end
end Pb
theorem PySem.Challenge.cw_pb0177_01_holds : PySem.Challenge.rw_pb0177_01.Holds := by
  exact Pb.holds
