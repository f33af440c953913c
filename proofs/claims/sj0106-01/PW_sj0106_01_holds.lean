import PyProof.Rows.All
import Wide.All
import OpenK.AllK
import Wide.FinOn
import Lean
import PySem.Challenge.RW_sj0106_01
open PySem PySem.W PyProof.Rows
set_option Elab.async false
set_option maxRecDepth 100000
set_option maxHeartbeats 8000000
set_option rowWalk.seconds 0
set_option linter.all false
namespace Mine
section
noncomputable def hSt (i : Nat) : Stmt := PySem.Challenge.pw_sj0106_01.main.body.getD i (.Pass ⟨0, 0, 0, 0⟩)
noncomputable def hIn : Stmt → Nat → Stmt
  | .ClassDef _ _ _ b _ _ _ _ _ _ _, i => b.getD i (.Pass ⟨0, 0, 0, 0⟩)
  | s, _ => s
noncomputable def hB : Stmt → List Stmt
  | .FunctionDef _ _ b _ _ _ _ _ _ _ => b
  | _ => []
noncomputable def hS : Stmt → PySem.Scope
  | .FunctionDef _ _ _ _ _ _ sc _ _ _ => sc
  | _ => { kind := .function, names := [], isGenerator := false, isCoroutine := false, more := [] }
noncomputable def hP : Stmt → Arguments
  | .FunctionDef _ a _ _ _ _ _ _ _ _ => a
  | _ => { posonlyargs := [], args := [], vararg := none, kwonlyargs := [], kw_defaults := [], kwarg := none, defaults := [] }
noncomputable def hd.o_3 (P : Params) : Obj :=
  { cls := Value.type "dict", data := Data.dict #[{ hash := PyData.keyHash P (Str.ofString "__name__"), key := Value.str (Str.ofString "__name__") 165, val := Value.str (Str.ofString "law_sj0106_01") 401 }, { hash := PyData.keyHash P (Str.ofString "__doc__"), key := Value.str (Str.ofString "__doc__") 166, val := Value.none }, { hash := PyData.keyHash P (Str.ofString "__package__"), key := Value.str (Str.ofString "__package__") 167, val := Value.none }, { hash := PyData.keyHash P (Str.ofString "__loader__"), key := Value.str (Str.ofString "__loader__") 168, val := Value.builtin "__main__.__loader__#opaque" }, { hash := PyData.keyHash P (Str.ofString "__spec__"), key := Value.str (Str.ofString "__spec__") 169, val := Value.none }, { hash := PyData.keyHash P (Str.ofString "__annotations__"), key := Value.str (Str.ofString "__annotations__") 170, val := Value.ref 6 }, { hash := PyData.keyHash P (Str.ofString "__builtins__"), key := Value.str (Str.ofString "__builtins__") 171, val := Value.ref 4 }, { hash := PyData.keyHash P (Str.ofString "__file__"), key := Value.str (Str.ofString "__file__") 173, val := Value.str (Str.ofString "/claim/cut.py") 172 }, { hash := PyData.keyHash P (Str.ofString "__cached__"), key := Value.str (Str.ofString "__cached__") 174, val := Value.none }, { hash := PyData.keyHash P (Str.ofString "_wall"), key := Value.str (Str.ofString "_wall") 193, val := Value.ref 21 }, { hash := PyData.keyHash P (Str.ofString "LEAST_PROBES"), key := Value.str (Str.ofString "LEAST_PROBES") 197, val := Value.int 3 196 }, { hash := PyData.keyHash P (Str.ofString "idle_wait"), key := Value.str (Str.ofString "idle_wait") 203, val := Value.ref 26 }, { hash := PyData.keyHash P (Str.ofString "Idle"), key := Value.str (Str.ofString "Idle") 291, val := Value.ref 85 }, { hash := PyData.keyHash P (Str.ofString "OPEN"), key := Value.str (Str.ofString "OPEN") 295, val := Value.str (Str.ofString "open") 294 }, { hash := PyData.keyHash P (Str.ofString "CLOSING"), key := Value.str (Str.ofString "CLOSING") 297, val := Value.str (Str.ofString "closing") 296 }, { hash := PyData.keyHash P (Str.ofString "DRAINING"), key := Value.str (Str.ofString "DRAINING") 299, val := Value.str (Str.ofString "draining") 298 }, { hash := PyData.keyHash P (Str.ofString "CLOSED"), key := Value.str (Str.ofString "CLOSED") 301, val := Value.str (Str.ofString "closed") 300 }, { hash := PyData.keyHash P (Str.ofString "PERIODS"), key := Value.str (Str.ofString "PERIODS") 303, val := Value.int 3 302 }, { hash := PyData.keyHash P (Str.ofString "Closing"), key := Value.str (Str.ofString "Closing") 400, val := Value.ref 162 }, { hash := PyData.keyHash P (Str.ofString "_law_drawn"), key := Value.str (Str.ofString "_law_drawn") 410, val := Value.ref 173 }, { hash := PyData.keyHash P (Str.ofString "_law_events"), key := Value.str (Str.ofString "_law_events") 416, val := Value.ref 178 }, { hash := PyData.keyHash P (Str.ofString "_law_run"), key := Value.str (Str.ofString "_law_run") 422, val := Value.ref 183 }, { hash := PyData.keyHash P (Str.ofString "_law_closes"), key := Value.str (Str.ofString "_law_closes") 434, val := Value.ref 190 }, { hash := PyData.keyHash P (Str.ofString "law"), key := Value.str (Str.ofString "law") 440, val := Value.ref 195 }] 24 }
noncomputable def hd.o_11 (P : Params) : Obj :=
  { cls := Value.type "tuple", data := Data.seq #[] }
noncomputable def hd.o_12 (P : Params) : Obj :=
  { cls := Value.none, data := Data.fields #[Value.int 1 0, Value.int 0 0, Value.ref 20, Value.int 6 0, Value.int 0 0, Value.ref 25, Value.int 9 0, Value.int 0 0, Value.ref 32, Value.int 45 0, Value.int 0 0, Value.ref 95, Value.int 101 0, Value.int 0 0, Value.ref 172, Value.int 106 0, Value.int 0 0, Value.ref 177, Value.int 114 0, Value.int 0 0, Value.ref 182, Value.int 129 0, Value.int 0 0, Value.ref 189, Value.int 139 0, Value.int 0 0, Value.ref 194] }
noncomputable def hd.o_13 (P : Params) : Obj :=
  { cls := Value.type "code", data := Data.fields #[Value.str (Str.ofString "<module>") 182, Value.str (Str.ofString "<module>") 183, Value.str (Str.ofString "/claim/cut.py") 184, Value.int 1 0, Value.int 0 0, Value.int 0 0, Value.int 0 0, Value.int 0 0, Value.ref 11, Value.bool false, Value.int 181 0, Value.ref 12, Value.none, Value.none, Value.none, Value.none, Value.int 185 0, Value.int 1 0, Value.str (Str.ofString "/claim/cut.py") 186] }
noncomputable def hd.o_14 (P : Params) : Obj :=
  { cls := Value.type "frame", slots := #[some (Value.ref 13), some (Value.ref 3), some (Value.ref 3), none, some (Value.str (Str.ofString "__main__") 164), none, some (Value.ref 0)] }
noncomputable def hd.o_15 (P : Params) : Obj :=
  { cls := Value.type "tuple", data := Data.seq #[] }
noncomputable def hd.o_16 (P : Params) : Obj :=
  { cls := Value.none, data := Data.fields #[] }
noncomputable def hd.o_17 (P : Params) : Obj :=
  { cls := Value.type "tuple", data := Data.seq #[Value.str (Str.ofString "k") 190] }
noncomputable def hd.o_18 (P : Params) : Obj :=
  { cls := Value.type "tuple", data := Data.seq #[] }
noncomputable def hd.o_19 (P : Params) : Obj :=
  { cls := Value.none, data := Data.func { name := Str.ofString "_wall", qualname := Str.ofString "_wall", params := hP (hSt 0), body := .stmts (hB (hSt 0)), scope := hS (hSt 0), globals := 0, closure := [], defaults := Value.none, kwdefaults := Value.none } }
noncomputable def hd.o_20 (P : Params) : Obj :=
  { cls := Value.type "code", data := Data.fields #[Value.str (Str.ofString "_wall") 187, Value.str (Str.ofString "_wall") 188, Value.str (Str.ofString "/claim/cut.py") 189, Value.int 1 0, Value.int 1 0, Value.int 0 0, Value.int 0 0, Value.int 3 0, Value.ref 15, Value.bool true, Value.int 181 0, Value.ref 16, Value.none, Value.ref 17, Value.ref 18, Value.ref 19, Value.int 191 0, Value.int 1 0, Value.str (Str.ofString "/claim/cut.py") 192] }
noncomputable def hd.o_21 (P : Params) : Obj :=
  { cls := Value.type "function", data := Data.func { name := Str.ofString "_wall", qualname := Str.ofString "_wall", params := hP (hSt 0), body := .stmts (hB (hSt 0)), scope := hS (hSt 0), globals := 3, closure := [], defaults := Value.none, kwdefaults := Value.none, pyModule := Value.str (Str.ofString "__main__") 164, code := Value.ref 20 } }
noncomputable def hd.o_22 (P : Params) : Obj :=
  { cls := Value.type "tuple", data := Data.seq #[] }
noncomputable def hd.o_23 (P : Params) : Obj :=
  { cls := Value.none, data := Data.fields #[] }
noncomputable def hd.o_24 (P : Params) : Obj :=
  { cls := Value.none, data := Data.func { name := Str.ofString "idle_wait", qualname := Str.ofString "idle_wait", params := hP (hSt 3), body := .stmts (hB (hSt 3)), scope := hS (hSt 3), globals := 0, closure := [], defaults := Value.none, kwdefaults := Value.none } }
noncomputable def hd.o_25 (P : Params) : Obj :=
  { cls := Value.type "code", data := Data.fields #[Value.str (Str.ofString "idle_wait") 198, Value.str (Str.ofString "idle_wait") 199, Value.str (Str.ofString "/claim/cut.py") 200, Value.int 6 0, Value.int 3 0, Value.int 0 0, Value.int 0 0, Value.int 3 0, Value.ref 22, Value.bool true, Value.int 181 0, Value.ref 23, Value.none, Value.none, Value.none, Value.ref 24, Value.int 201 0, Value.int 6 0, Value.str (Str.ofString "/claim/cut.py") 202] }
noncomputable def hd.o_26 (P : Params) : Obj :=
  { cls := Value.type "function", data := Data.func { name := Str.ofString "idle_wait", qualname := Str.ofString "idle_wait", params := hP (hSt 3), body := .stmts (hB (hSt 3)), scope := hS (hSt 3), globals := 3, closure := [], defaults := Value.none, kwdefaults := Value.none, pyModule := Value.str (Str.ofString "quic.idle") 194, code := Value.ref 25 } }
noncomputable def hd.o_27 (P : Params) : Obj :=
  { cls := Value.type "tuple", data := Data.seq #[] }
noncomputable def hd.o_28 (P : Params) : Obj :=
  { cls := Value.type "builtin_function_or_method", data := Data.fields #[Value.builtin "type.__prepare__", Value.type "type"] }
noncomputable def hd.o_29 (P : Params) : Obj :=
  { cls := Value.type "dict", data := Data.dict #[{ hash := PyData.keyHash P (Str.ofString "__module__"), key := Value.str (Str.ofString "__module__") 211, val := Value.str (Str.ofString "quic.idle") 194 }, { hash := PyData.keyHash P (Str.ofString "__qualname__"), key := Value.str (Str.ofString "__qualname__") 213, val := Value.str (Str.ofString "Idle") 212 }, { hash := PyData.keyHash P (Str.ofString "__firstlineno__"), key := Value.str (Str.ofString "__firstlineno__") 215, val := Value.int 9 214 }, { hash := PyData.keyHash P (Str.ofString "__init__"), key := Value.str (Str.ofString "__init__") 225, val := Value.ref 40 }, { hash := PyData.keyHash P (Str.ofString "tell_peer"), key := Value.str (Str.ofString "tell_peer") 233, val := Value.ref 47 }, { hash := PyData.keyHash P (Str.ofString "on_received"), key := Value.str (Str.ofString "on_received") 241, val := Value.ref 54 }, { hash := PyData.keyHash P (Str.ofString "on_sent"), key := Value.str (Str.ofString "on_sent") 250, val := Value.ref 61 }, { hash := PyData.keyHash P (Str.ofString "deadline"), key := Value.str (Str.ofString "deadline") 259, val := Value.ref 68 }, { hash := PyData.keyHash P (Str.ofString "is_over"), key := Value.str (Str.ofString "is_over") 269, val := Value.ref 75 }, { hash := PyData.keyHash P (Str.ofString "wants_ping"), key := Value.str (Str.ofString "wants_ping") 279, val := Value.ref 82 }, { hash := PyData.keyHash P (Str.ofString "__static_attributes__"), key := Value.str (Str.ofString "__static_attributes__") 284, val := Value.ref 83 }] 11 }
noncomputable def hd.o_30 (P : Params) : Obj :=
  { cls := Value.type "tuple", data := Data.seq #[] }
noncomputable def hd.o_31 (P : Params) : Obj :=
  { cls := Value.none, data := Data.fields #[Value.int 11 0, Value.int 4 0, Value.ref 39, Value.int 17 0, Value.int 4 0, Value.ref 46, Value.int 20 0, Value.int 4 0, Value.ref 53, Value.int 24 0, Value.int 4 0, Value.ref 60, Value.int 29 0, Value.int 4 0, Value.ref 67, Value.int 33 0, Value.int 4 0, Value.ref 74, Value.int 37 0, Value.int 4 0, Value.ref 81] }
noncomputable def hd.o_32 (P : Params) : Obj :=
  { cls := Value.type "code", data := Data.fields #[Value.str (Str.ofString "Idle") 206, Value.str (Str.ofString "Idle") 207, Value.str (Str.ofString "/claim/cut.py") 208, Value.int 9 0, Value.int 0 0, Value.int 0 0, Value.int 0 0, Value.int 0 0, Value.ref 30, Value.bool false, Value.int 181 0, Value.ref 31, Value.none, Value.none, Value.none, Value.none, Value.int 209 0, Value.int 9 0, Value.str (Str.ofString "/claim/cut.py") 210] }
noncomputable def hd.o_33 (P : Params) : Obj :=
  { cls := Value.type "frame", slots := #[some (Value.ref 32), some (Value.ref 3), some (Value.ref 29), none, some (Value.str (Str.ofString "quic.idle") 194), none, some (Value.ref 0)] }
noncomputable def hd.o_34 (P : Params) : Obj :=
  { cls := Value.type "tuple", data := Data.seq #[] }
noncomputable def hd.o_35 (P : Params) : Obj :=
  { cls := Value.none, data := Data.fields #[] }
noncomputable def hd.o_36 (P : Params) : Obj :=
  { cls := Value.type "tuple", data := Data.seq #[Value.str (Str.ofString "self") 219, Value.str (Str.ofString "own") 220, Value.str (Str.ofString "peer") 221, Value.str (Str.ofString "now") 222] }
noncomputable def hd.o_37 (P : Params) : Obj :=
  { cls := Value.type "tuple", data := Data.seq #[] }
noncomputable def hd.o_38 (P : Params) : Obj :=
  { cls := Value.none, data := Data.func { name := Str.ofString "__init__", qualname := Str.ofString "Idle.__init__", params := hP (hIn (hSt 4) 0), body := .stmts (hB (hIn (hSt 4) 0)), scope := hS (hIn (hSt 4) 0), globals := 0, closure := [], defaults := Value.none, kwdefaults := Value.none } }
noncomputable def hd.o_39 (P : Params) : Obj :=
  { cls := Value.type "code", data := Data.fields #[Value.str (Str.ofString "__init__") 216, Value.str (Str.ofString "Idle.__init__") 217, Value.str (Str.ofString "/claim/cut.py") 218, Value.int 11 0, Value.int 4 0, Value.int 0 0, Value.int 0 0, Value.int 3 0, Value.ref 34, Value.bool true, Value.int 181 0, Value.ref 35, Value.none, Value.ref 36, Value.ref 37, Value.ref 38, Value.int 223 0, Value.int 11 0, Value.str (Str.ofString "/claim/cut.py") 224] }
noncomputable def hd.o_40 (P : Params) : Obj :=
  { cls := Value.type "function", data := Data.func { name := Str.ofString "__init__", qualname := Str.ofString "Idle.__init__", params := hP (hIn (hSt 4) 0), body := .stmts (hB (hIn (hSt 4) 0)), scope := hS (hIn (hSt 4) 0), globals := 3, closure := [], defaults := Value.none, kwdefaults := Value.none, pyModule := Value.str (Str.ofString "quic.idle") 194, code := Value.ref 39 } }
noncomputable def hd.o_41 (P : Params) : Obj :=
  { cls := Value.type "tuple", data := Data.seq #[] }
noncomputable def hd.o_42 (P : Params) : Obj :=
  { cls := Value.none, data := Data.fields #[] }
noncomputable def hd.o_43 (P : Params) : Obj :=
  { cls := Value.type "tuple", data := Data.seq #[Value.str (Str.ofString "self") 229, Value.str (Str.ofString "peer") 230] }
noncomputable def hd.o_44 (P : Params) : Obj :=
  { cls := Value.type "tuple", data := Data.seq #[] }
noncomputable def hd.o_45 (P : Params) : Obj :=
  { cls := Value.none, data := Data.func { name := Str.ofString "tell_peer", qualname := Str.ofString "Idle.tell_peer", params := hP (hIn (hSt 4) 1), body := .stmts (hB (hIn (hSt 4) 1)), scope := hS (hIn (hSt 4) 1), globals := 0, closure := [], defaults := Value.none, kwdefaults := Value.none } }
noncomputable def hd.o_46 (P : Params) : Obj :=
  { cls := Value.type "code", data := Data.fields #[Value.str (Str.ofString "tell_peer") 226, Value.str (Str.ofString "Idle.tell_peer") 227, Value.str (Str.ofString "/claim/cut.py") 228, Value.int 17 0, Value.int 2 0, Value.int 0 0, Value.int 0 0, Value.int 3 0, Value.ref 41, Value.bool true, Value.int 181 0, Value.ref 42, Value.none, Value.ref 43, Value.ref 44, Value.ref 45, Value.int 231 0, Value.int 17 0, Value.str (Str.ofString "/claim/cut.py") 232] }
noncomputable def hd.o_47 (P : Params) : Obj :=
  { cls := Value.type "function", data := Data.func { name := Str.ofString "tell_peer", qualname := Str.ofString "Idle.tell_peer", params := hP (hIn (hSt 4) 1), body := .stmts (hB (hIn (hSt 4) 1)), scope := hS (hIn (hSt 4) 1), globals := 3, closure := [], defaults := Value.none, kwdefaults := Value.none, pyModule := Value.str (Str.ofString "quic.idle") 194, code := Value.ref 46 } }
noncomputable def hd.o_48 (P : Params) : Obj :=
  { cls := Value.type "tuple", data := Data.seq #[] }
noncomputable def hd.o_49 (P : Params) : Obj :=
  { cls := Value.none, data := Data.fields #[] }
noncomputable def hd.o_50 (P : Params) : Obj :=
  { cls := Value.type "tuple", data := Data.seq #[Value.str (Str.ofString "self") 237, Value.str (Str.ofString "now") 238] }
noncomputable def hd.o_51 (P : Params) : Obj :=
  { cls := Value.type "tuple", data := Data.seq #[] }
noncomputable def hd.o_52 (P : Params) : Obj :=
  { cls := Value.none, data := Data.func { name := Str.ofString "on_received", qualname := Str.ofString "Idle.on_received", params := hP (hIn (hSt 4) 2), body := .stmts (hB (hIn (hSt 4) 2)), scope := hS (hIn (hSt 4) 2), globals := 0, closure := [], defaults := Value.none, kwdefaults := Value.none } }
noncomputable def hd.o_53 (P : Params) : Obj :=
  { cls := Value.type "code", data := Data.fields #[Value.str (Str.ofString "on_received") 234, Value.str (Str.ofString "Idle.on_received") 235, Value.str (Str.ofString "/claim/cut.py") 236, Value.int 20 0, Value.int 2 0, Value.int 0 0, Value.int 0 0, Value.int 3 0, Value.ref 48, Value.bool true, Value.int 181 0, Value.ref 49, Value.none, Value.ref 50, Value.ref 51, Value.ref 52, Value.int 239 0, Value.int 20 0, Value.str (Str.ofString "/claim/cut.py") 240] }
noncomputable def hd.o_54 (P : Params) : Obj :=
  { cls := Value.type "function", data := Data.func { name := Str.ofString "on_received", qualname := Str.ofString "Idle.on_received", params := hP (hIn (hSt 4) 2), body := .stmts (hB (hIn (hSt 4) 2)), scope := hS (hIn (hSt 4) 2), globals := 3, closure := [], defaults := Value.none, kwdefaults := Value.none, pyModule := Value.str (Str.ofString "quic.idle") 194, code := Value.ref 53 } }
noncomputable def hd.o_55 (P : Params) : Obj :=
  { cls := Value.type "tuple", data := Data.seq #[] }
noncomputable def hd.o_56 (P : Params) : Obj :=
  { cls := Value.none, data := Data.fields #[] }
noncomputable def hd.o_57 (P : Params) : Obj :=
  { cls := Value.type "tuple", data := Data.seq #[Value.str (Str.ofString "self") 245, Value.str (Str.ofString "now") 246, Value.str (Str.ofString "is_eliciting") 247] }
noncomputable def hd.o_58 (P : Params) : Obj :=
  { cls := Value.type "tuple", data := Data.seq #[] }
noncomputable def hd.o_59 (P : Params) : Obj :=
  { cls := Value.none, data := Data.func { name := Str.ofString "on_sent", qualname := Str.ofString "Idle.on_sent", params := hP (hIn (hSt 4) 3), body := .stmts (hB (hIn (hSt 4) 3)), scope := hS (hIn (hSt 4) 3), globals := 0, closure := [], defaults := Value.none, kwdefaults := Value.none } }
noncomputable def hd.o_60 (P : Params) : Obj :=
  { cls := Value.type "code", data := Data.fields #[Value.str (Str.ofString "on_sent") 242, Value.str (Str.ofString "Idle.on_sent") 243, Value.str (Str.ofString "/claim/cut.py") 244, Value.int 24 0, Value.int 3 0, Value.int 0 0, Value.int 0 0, Value.int 3 0, Value.ref 55, Value.bool true, Value.int 181 0, Value.ref 56, Value.none, Value.ref 57, Value.ref 58, Value.ref 59, Value.int 248 0, Value.int 24 0, Value.str (Str.ofString "/claim/cut.py") 249] }
noncomputable def hd.o_61 (P : Params) : Obj :=
  { cls := Value.type "function", data := Data.func { name := Str.ofString "on_sent", qualname := Str.ofString "Idle.on_sent", params := hP (hIn (hSt 4) 3), body := .stmts (hB (hIn (hSt 4) 3)), scope := hS (hIn (hSt 4) 3), globals := 3, closure := [], defaults := Value.none, kwdefaults := Value.none, pyModule := Value.str (Str.ofString "quic.idle") 194, code := Value.ref 60 } }
noncomputable def hd.o_62 (P : Params) : Obj :=
  { cls := Value.type "tuple", data := Data.seq #[] }
noncomputable def hd.o_63 (P : Params) : Obj :=
  { cls := Value.none, data := Data.fields #[] }
noncomputable def hd.o_64 (P : Params) : Obj :=
  { cls := Value.type "tuple", data := Data.seq #[Value.str (Str.ofString "self") 254, Value.str (Str.ofString "probe_wait") 255, Value.str (Str.ofString "wait") 256] }
noncomputable def hd.o_65 (P : Params) : Obj :=
  { cls := Value.type "tuple", data := Data.seq #[] }
noncomputable def hd.o_66 (P : Params) : Obj :=
  { cls := Value.none, data := Data.func { name := Str.ofString "deadline", qualname := Str.ofString "Idle.deadline", params := hP (hIn (hSt 4) 4), body := .stmts (hB (hIn (hSt 4) 4)), scope := hS (hIn (hSt 4) 4), globals := 0, closure := [], defaults := Value.none, kwdefaults := Value.none } }
noncomputable def hd.o_67 (P : Params) : Obj :=
  { cls := Value.type "code", data := Data.fields #[Value.str (Str.ofString "deadline") 251, Value.str (Str.ofString "Idle.deadline") 252, Value.str (Str.ofString "/claim/cut.py") 253, Value.int 29 0, Value.int 2 0, Value.int 0 0, Value.int 0 0, Value.int 3 0, Value.ref 62, Value.bool true, Value.int 181 0, Value.ref 63, Value.none, Value.ref 64, Value.ref 65, Value.ref 66, Value.int 257 0, Value.int 29 0, Value.str (Str.ofString "/claim/cut.py") 258] }
noncomputable def hd.o_68 (P : Params) : Obj :=
  { cls := Value.type "function", data := Data.func { name := Str.ofString "deadline", qualname := Str.ofString "Idle.deadline", params := hP (hIn (hSt 4) 4), body := .stmts (hB (hIn (hSt 4) 4)), scope := hS (hIn (hSt 4) 4), globals := 3, closure := [], defaults := Value.none, kwdefaults := Value.none, pyModule := Value.str (Str.ofString "quic.idle") 194, code := Value.ref 67 } }
noncomputable def hd.o_69 (P : Params) : Obj :=
  { cls := Value.type "tuple", data := Data.seq #[] }
noncomputable def hd.o_70 (P : Params) : Obj :=
  { cls := Value.none, data := Data.fields #[] }
noncomputable def hd.o_71 (P : Params) : Obj :=
  { cls := Value.type "tuple", data := Data.seq #[Value.str (Str.ofString "self") 263, Value.str (Str.ofString "now") 264, Value.str (Str.ofString "probe_wait") 265, Value.str (Str.ofString "end") 266] }
noncomputable def hd.o_72 (P : Params) : Obj :=
  { cls := Value.type "tuple", data := Data.seq #[] }
noncomputable def hd.o_73 (P : Params) : Obj :=
  { cls := Value.none, data := Data.func { name := Str.ofString "is_over", qualname := Str.ofString "Idle.is_over", params := hP (hIn (hSt 4) 5), body := .stmts (hB (hIn (hSt 4) 5)), scope := hS (hIn (hSt 4) 5), globals := 0, closure := [], defaults := Value.none, kwdefaults := Value.none } }
noncomputable def hd.o_74 (P : Params) : Obj :=
  { cls := Value.type "code", data := Data.fields #[Value.str (Str.ofString "is_over") 260, Value.str (Str.ofString "Idle.is_over") 261, Value.str (Str.ofString "/claim/cut.py") 262, Value.int 33 0, Value.int 3 0, Value.int 0 0, Value.int 0 0, Value.int 3 0, Value.ref 69, Value.bool true, Value.int 181 0, Value.ref 70, Value.none, Value.ref 71, Value.ref 72, Value.ref 73, Value.int 267 0, Value.int 33 0, Value.str (Str.ofString "/claim/cut.py") 268] }
noncomputable def hd.o_75 (P : Params) : Obj :=
  { cls := Value.type "function", data := Data.func { name := Str.ofString "is_over", qualname := Str.ofString "Idle.is_over", params := hP (hIn (hSt 4) 5), body := .stmts (hB (hIn (hSt 4) 5)), scope := hS (hIn (hSt 4) 5), globals := 3, closure := [], defaults := Value.none, kwdefaults := Value.none, pyModule := Value.str (Str.ofString "quic.idle") 194, code := Value.ref 74 } }
noncomputable def hd.o_76 (P : Params) : Obj :=
  { cls := Value.type "tuple", data := Data.seq #[] }
noncomputable def hd.o_77 (P : Params) : Obj :=
  { cls := Value.none, data := Data.fields #[] }
noncomputable def hd.o_78 (P : Params) : Obj :=
  { cls := Value.type "tuple", data := Data.seq #[Value.str (Str.ofString "self") 273, Value.str (Str.ofString "now") 274, Value.str (Str.ofString "probe_wait") 275, Value.str (Str.ofString "reserve") 276] }
noncomputable def hd.o_79 (P : Params) : Obj :=
  { cls := Value.type "tuple", data := Data.seq #[] }
noncomputable def hd.o_80 (P : Params) : Obj :=
  { cls := Value.none, data := Data.func { name := Str.ofString "wants_ping", qualname := Str.ofString "Idle.wants_ping", params := hP (hIn (hSt 4) 6), body := .stmts (hB (hIn (hSt 4) 6)), scope := hS (hIn (hSt 4) 6), globals := 0, closure := [], defaults := Value.none, kwdefaults := Value.none } }
noncomputable def hd.o_81 (P : Params) : Obj :=
  { cls := Value.type "code", data := Data.fields #[Value.str (Str.ofString "wants_ping") 270, Value.str (Str.ofString "Idle.wants_ping") 271, Value.str (Str.ofString "/claim/cut.py") 272, Value.int 37 0, Value.int 4 0, Value.int 0 0, Value.int 0 0, Value.int 3 0, Value.ref 76, Value.bool true, Value.int 181 0, Value.ref 77, Value.none, Value.ref 78, Value.ref 79, Value.ref 80, Value.int 277 0, Value.int 37 0, Value.str (Str.ofString "/claim/cut.py") 278] }
noncomputable def hd.o_82 (P : Params) : Obj :=
  { cls := Value.type "function", data := Data.func { name := Str.ofString "wants_ping", qualname := Str.ofString "Idle.wants_ping", params := hP (hIn (hSt 4) 6), body := .stmts (hB (hIn (hSt 4) 6)), scope := hS (hIn (hSt 4) 6), globals := 3, closure := [], defaults := Value.none, kwdefaults := Value.none, pyModule := Value.str (Str.ofString "quic.idle") 194, code := Value.ref 81 } }
noncomputable def hd.o_83 (P : Params) : Obj :=
  { cls := Value.type "tuple", data := Data.seq #[Value.str (Str.ofString "has_asked") 280, Value.str (Str.ofString "own") 281, Value.str (Str.ofString "peer") 282, Value.str (Str.ofString "since") 283] }
noncomputable def hd.o_84 (P : Params) : Obj :=
  { cls := Value.type "dict", data := Data.dict #[{ hash := PyData.keyHash P (Str.ofString "__module__"), key := Value.str (Str.ofString "__module__") 211, val := Value.str (Str.ofString "quic.idle") 194 }, { hash := PyData.keyHash P (Str.ofString "__firstlineno__"), key := Value.str (Str.ofString "__firstlineno__") 215, val := Value.int 9 214 }, { hash := PyData.keyHash P (Str.ofString "__init__"), key := Value.str (Str.ofString "__init__") 225, val := Value.ref 40 }, { hash := PyData.keyHash P (Str.ofString "tell_peer"), key := Value.str (Str.ofString "tell_peer") 233, val := Value.ref 47 }, { hash := PyData.keyHash P (Str.ofString "on_received"), key := Value.str (Str.ofString "on_received") 241, val := Value.ref 54 }, { hash := PyData.keyHash P (Str.ofString "on_sent"), key := Value.str (Str.ofString "on_sent") 250, val := Value.ref 61 }, { hash := PyData.keyHash P (Str.ofString "deadline"), key := Value.str (Str.ofString "deadline") 259, val := Value.ref 68 }, { hash := PyData.keyHash P (Str.ofString "is_over"), key := Value.str (Str.ofString "is_over") 269, val := Value.ref 75 }, { hash := PyData.keyHash P (Str.ofString "wants_ping"), key := Value.str (Str.ofString "wants_ping") 279, val := Value.ref 82 }, { hash := PyData.keyHash P (Str.ofString "__static_attributes__"), key := Value.str (Str.ofString "__static_attributes__") 284, val := Value.ref 83 }, { hash := PyData.keyHash P (Str.ofString "__dict__"), key := Value.str (Str.ofString "__dict__") 286, val := Value.ref 86 }, { hash := PyData.keyHash P (Str.ofString "__weakref__"), key := Value.str (Str.ofString "__weakref__") 288, val := Value.ref 87 }, { hash := PyData.keyHash P (Str.ofString "__doc__"), key := Value.str (Str.ofString "__doc__") 289, val := Value.none }] 4 }
noncomputable def hd.o_85 (P : Params) : Obj :=
  { cls := Value.type "type", data := Data.cls { name := Str.ofString "Idle", bases := [Value.type "object"], mro := [Value.ref 85, Value.type "object"], ns := 84, qualname := Str.ofString "Idle" }, slots := #[none, none, some (Value.str (Str.ofString "Idle") 204), some (Value.str (Str.ofString "Idle") 212), some (Value.builtin "object.__new__"), some (Value.bool true)] }
noncomputable def hd.o_86 (P : Params) : Obj :=
  { cls := Value.type "getset_descriptor", data := Data.fields #[Value.str (Str.ofString "__dict__") 285, Value.ref 85, Value.builtin "function.__dict__", Value.builtin "function.__dict__#set"] }
noncomputable def hd.o_87 (P : Params) : Obj :=
  { cls := Value.type "getset_descriptor", data := Data.fields #[Value.str (Str.ofString "__weakref__") 287, Value.ref 85, Value.builtin "ExceptionGroup.__weakref__", Value.none] }
noncomputable def hd.o_88 (P : Params) : Obj :=
  { cls := Value.type "super", data := Data.fields #[Value.ref 85, Value.ref 85, Value.ref 85] }
noncomputable def hd.o_89 (P : Params) : Obj :=
  { cls := Value.type "builtin_function_or_method", data := Data.fields #[Value.builtin "object.__init_subclass__", Value.ref 85] }
noncomputable def hd.o_90 (P : Params) : Obj :=
  { cls := Value.type "tuple", data := Data.seq #[] }
noncomputable def hd.o_91 (P : Params) : Obj :=
  { cls := Value.type "builtin_function_or_method", data := Data.fields #[Value.builtin "type.__prepare__", Value.type "type"] }
noncomputable def hd.o_92 (P : Params) : Obj :=
  { cls := Value.type "dict", data := Data.dict #[{ hash := PyData.keyHash P (Str.ofString "__module__"), key := Value.str (Str.ofString "__module__") 311, val := Value.str (Str.ofString "quic.closing") 292 }, { hash := PyData.keyHash P (Str.ofString "__qualname__"), key := Value.str (Str.ofString "__qualname__") 313, val := Value.str (Str.ofString "Closing") 312 }, { hash := PyData.keyHash P (Str.ofString "__firstlineno__"), key := Value.str (Str.ofString "__firstlineno__") 315, val := Value.int 45 314 }, { hash := PyData.keyHash P (Str.ofString "__init__"), key := Value.str (Str.ofString "__init__") 322, val := Value.ref 103 }, { hash := PyData.keyHash P (Str.ofString "is_open"), key := Value.str (Str.ofString "is_open") 329, val := Value.ref 110 }, { hash := PyData.keyHash P (Str.ofString "close_now"), key := Value.str (Str.ofString "close_now") 339, val := Value.ref 117 }, { hash := PyData.keyHash P (Str.ofString "on_close"), key := Value.str (Str.ofString "on_close") 349, val := Value.ref 124 }, { hash := PyData.keyHash P (Str.ofString "on_reset"), key := Value.str (Str.ofString "on_reset") 358, val := Value.ref 131 }, { hash := PyData.keyHash P (Str.ofString "on_packet"), key := Value.str (Str.ofString "on_packet") 365, val := Value.ref 138 }, { hash := PyData.keyHash P (Str.ofString "on_time"), key := Value.str (Str.ofString "on_time") 373, val := Value.ref 145 }, { hash := PyData.keyHash P (Str.ofString "give_up"), key := Value.str (Str.ofString "give_up") 380, val := Value.ref 152 }, { hash := PyData.keyHash P (Str.ofString "next_time"), key := Value.str (Str.ofString "next_time") 387, val := Value.ref 159 }, { hash := PyData.keyHash P (Str.ofString "__static_attributes__"), key := Value.str (Str.ofString "__static_attributes__") 393, val := Value.ref 160 }] 13 }
noncomputable def hd.o_93 (P : Params) : Obj :=
  { cls := Value.type "tuple", data := Data.seq #[] }
noncomputable def hd.o_94 (P : Params) : Obj :=
  { cls := Value.none, data := Data.fields #[Value.int 47 0, Value.int 4 0, Value.ref 102, Value.int 54 0, Value.int 4 0, Value.ref 109, Value.int 57 0, Value.int 4 0, Value.ref 116, Value.int 65 0, Value.int 4 0, Value.ref 123, Value.int 74 0, Value.int 4 0, Value.ref 130, Value.int 79 0, Value.int 4 0, Value.ref 137, Value.int 88 0, Value.int 4 0, Value.ref 144, Value.int 94 0, Value.int 4 0, Value.ref 151, Value.int 98 0, Value.int 4 0, Value.ref 158] }
noncomputable def hd.o_95 (P : Params) : Obj :=
  { cls := Value.type "code", data := Data.fields #[Value.str (Str.ofString "Closing") 306, Value.str (Str.ofString "Closing") 307, Value.str (Str.ofString "/claim/cut.py") 308, Value.int 45 0, Value.int 0 0, Value.int 0 0, Value.int 0 0, Value.int 0 0, Value.ref 93, Value.bool false, Value.int 181 0, Value.ref 94, Value.none, Value.none, Value.none, Value.none, Value.int 309 0, Value.int 45 0, Value.str (Str.ofString "/claim/cut.py") 310] }
noncomputable def hd.o_96 (P : Params) : Obj :=
  { cls := Value.type "frame", slots := #[some (Value.ref 95), some (Value.ref 3), some (Value.ref 92), none, some (Value.str (Str.ofString "quic.closing") 292), none, some (Value.ref 0)] }
noncomputable def hd.o_97 (P : Params) : Obj :=
  { cls := Value.type "tuple", data := Data.seq #[] }
noncomputable def hd.o_98 (P : Params) : Obj :=
  { cls := Value.none, data := Data.fields #[] }
noncomputable def hd.o_99 (P : Params) : Obj :=
  { cls := Value.type "tuple", data := Data.seq #[Value.str (Str.ofString "self") 319] }
noncomputable def hd.o_100 (P : Params) : Obj :=
  { cls := Value.type "tuple", data := Data.seq #[] }
noncomputable def hd.o_101 (P : Params) : Obj :=
  { cls := Value.none, data := Data.func { name := Str.ofString "__init__", qualname := Str.ofString "Closing.__init__", params := hP (hIn (hSt 11) 0), body := .stmts (hB (hIn (hSt 11) 0)), scope := hS (hIn (hSt 11) 0), globals := 0, closure := [], defaults := Value.none, kwdefaults := Value.none } }
noncomputable def hd.o_102 (P : Params) : Obj :=
  { cls := Value.type "code", data := Data.fields #[Value.str (Str.ofString "__init__") 316, Value.str (Str.ofString "Closing.__init__") 317, Value.str (Str.ofString "/claim/cut.py") 318, Value.int 47 0, Value.int 1 0, Value.int 0 0, Value.int 0 0, Value.int 3 0, Value.ref 97, Value.bool true, Value.int 181 0, Value.ref 98, Value.none, Value.ref 99, Value.ref 100, Value.ref 101, Value.int 320 0, Value.int 47 0, Value.str (Str.ofString "/claim/cut.py") 321] }
noncomputable def hd.o_103 (P : Params) : Obj :=
  { cls := Value.type "function", data := Data.func { name := Str.ofString "__init__", qualname := Str.ofString "Closing.__init__", params := hP (hIn (hSt 11) 0), body := .stmts (hB (hIn (hSt 11) 0)), scope := hS (hIn (hSt 11) 0), globals := 3, closure := [], defaults := Value.none, kwdefaults := Value.none, pyModule := Value.str (Str.ofString "quic.closing") 292, code := Value.ref 102 } }
noncomputable def hd.o_104 (P : Params) : Obj :=
  { cls := Value.type "tuple", data := Data.seq #[] }
noncomputable def hd.o_105 (P : Params) : Obj :=
  { cls := Value.none, data := Data.fields #[] }
noncomputable def hd.o_106 (P : Params) : Obj :=
  { cls := Value.type "tuple", data := Data.seq #[Value.str (Str.ofString "self") 326] }
noncomputable def hd.o_107 (P : Params) : Obj :=
  { cls := Value.type "tuple", data := Data.seq #[] }
noncomputable def hd.o_108 (P : Params) : Obj :=
  { cls := Value.none, data := Data.func { name := Str.ofString "is_open", qualname := Str.ofString "Closing.is_open", params := hP (hIn (hSt 11) 1), body := .stmts (hB (hIn (hSt 11) 1)), scope := hS (hIn (hSt 11) 1), globals := 0, closure := [], defaults := Value.none, kwdefaults := Value.none } }
noncomputable def hd.o_109 (P : Params) : Obj :=
  { cls := Value.type "code", data := Data.fields #[Value.str (Str.ofString "is_open") 323, Value.str (Str.ofString "Closing.is_open") 324, Value.str (Str.ofString "/claim/cut.py") 325, Value.int 54 0, Value.int 1 0, Value.int 0 0, Value.int 0 0, Value.int 3 0, Value.ref 104, Value.bool true, Value.int 181 0, Value.ref 105, Value.none, Value.ref 106, Value.ref 107, Value.ref 108, Value.int 327 0, Value.int 54 0, Value.str (Str.ofString "/claim/cut.py") 328] }
noncomputable def hd.o_110 (P : Params) : Obj :=
  { cls := Value.type "function", data := Data.func { name := Str.ofString "is_open", qualname := Str.ofString "Closing.is_open", params := hP (hIn (hSt 11) 1), body := .stmts (hB (hIn (hSt 11) 1)), scope := hS (hIn (hSt 11) 1), globals := 3, closure := [], defaults := Value.none, kwdefaults := Value.none, pyModule := Value.str (Str.ofString "quic.closing") 292, code := Value.ref 109 } }
noncomputable def hd.o_111 (P : Params) : Obj :=
  { cls := Value.type "tuple", data := Data.seq #[] }
noncomputable def hd.o_112 (P : Params) : Obj :=
  { cls := Value.none, data := Data.fields #[] }
noncomputable def hd.o_113 (P : Params) : Obj :=
  { cls := Value.type "tuple", data := Data.seq #[Value.str (Str.ofString "self") 333, Value.str (Str.ofString "frame") 334, Value.str (Str.ofString "now") 335, Value.str (Str.ofString "probe_wait") 336] }
noncomputable def hd.o_114 (P : Params) : Obj :=
  { cls := Value.type "tuple", data := Data.seq #[] }
noncomputable def hd.o_115 (P : Params) : Obj :=
  { cls := Value.none, data := Data.func { name := Str.ofString "close_now", qualname := Str.ofString "Closing.close_now", params := hP (hIn (hSt 11) 2), body := .stmts (hB (hIn (hSt 11) 2)), scope := hS (hIn (hSt 11) 2), globals := 0, closure := [], defaults := Value.none, kwdefaults := Value.none } }
noncomputable def hd.o_116 (P : Params) : Obj :=
  { cls := Value.type "code", data := Data.fields #[Value.str (Str.ofString "close_now") 330, Value.str (Str.ofString "Closing.close_now") 331, Value.str (Str.ofString "/claim/cut.py") 332, Value.int 57 0, Value.int 4 0, Value.int 0 0, Value.int 0 0, Value.int 3 0, Value.ref 111, Value.bool true, Value.int 181 0, Value.ref 112, Value.none, Value.ref 113, Value.ref 114, Value.ref 115, Value.int 337 0, Value.int 57 0, Value.str (Str.ofString "/claim/cut.py") 338] }
noncomputable def hd.o_117 (P : Params) : Obj :=
  { cls := Value.type "function", data := Data.func { name := Str.ofString "close_now", qualname := Str.ofString "Closing.close_now", params := hP (hIn (hSt 11) 2), body := .stmts (hB (hIn (hSt 11) 2)), scope := hS (hIn (hSt 11) 2), globals := 3, closure := [], defaults := Value.none, kwdefaults := Value.none, pyModule := Value.str (Str.ofString "quic.closing") 292, code := Value.ref 116 } }
noncomputable def hd.o_118 (P : Params) : Obj :=
  { cls := Value.type "tuple", data := Data.seq #[] }
noncomputable def hd.o_119 (P : Params) : Obj :=
  { cls := Value.none, data := Data.fields #[] }
noncomputable def hd.o_120 (P : Params) : Obj :=
  { cls := Value.type "tuple", data := Data.seq #[Value.str (Str.ofString "self") 343, Value.str (Str.ofString "now") 344, Value.str (Str.ofString "probe_wait") 345, Value.str (Str.ofString "was_open") 346] }
noncomputable def hd.o_121 (P : Params) : Obj :=
  { cls := Value.type "tuple", data := Data.seq #[] }
noncomputable def hd.o_122 (P : Params) : Obj :=
  { cls := Value.none, data := Data.func { name := Str.ofString "on_close", qualname := Str.ofString "Closing.on_close", params := hP (hIn (hSt 11) 3), body := .stmts (hB (hIn (hSt 11) 3)), scope := hS (hIn (hSt 11) 3), globals := 0, closure := [], defaults := Value.none, kwdefaults := Value.none } }
noncomputable def hd.o_123 (P : Params) : Obj :=
  { cls := Value.type "code", data := Data.fields #[Value.str (Str.ofString "on_close") 340, Value.str (Str.ofString "Closing.on_close") 341, Value.str (Str.ofString "/claim/cut.py") 342, Value.int 65 0, Value.int 3 0, Value.int 0 0, Value.int 0 0, Value.int 3 0, Value.ref 118, Value.bool true, Value.int 181 0, Value.ref 119, Value.none, Value.ref 120, Value.ref 121, Value.ref 122, Value.int 347 0, Value.int 65 0, Value.str (Str.ofString "/claim/cut.py") 348] }
noncomputable def hd.o_124 (P : Params) : Obj :=
  { cls := Value.type "function", data := Data.func { name := Str.ofString "on_close", qualname := Str.ofString "Closing.on_close", params := hP (hIn (hSt 11) 3), body := .stmts (hB (hIn (hSt 11) 3)), scope := hS (hIn (hSt 11) 3), globals := 3, closure := [], defaults := Value.none, kwdefaults := Value.none, pyModule := Value.str (Str.ofString "quic.closing") 292, code := Value.ref 123 } }
noncomputable def hd.o_125 (P : Params) : Obj :=
  { cls := Value.type "tuple", data := Data.seq #[] }
noncomputable def hd.o_126 (P : Params) : Obj :=
  { cls := Value.none, data := Data.fields #[] }
noncomputable def hd.o_127 (P : Params) : Obj :=
  { cls := Value.type "tuple", data := Data.seq #[Value.str (Str.ofString "self") 353, Value.str (Str.ofString "now") 354, Value.str (Str.ofString "probe_wait") 355] }
noncomputable def hd.o_128 (P : Params) : Obj :=
  { cls := Value.type "tuple", data := Data.seq #[] }
noncomputable def hd.o_129 (P : Params) : Obj :=
  { cls := Value.none, data := Data.func { name := Str.ofString "on_reset", qualname := Str.ofString "Closing.on_reset", params := hP (hIn (hSt 11) 4), body := .stmts (hB (hIn (hSt 11) 4)), scope := hS (hIn (hSt 11) 4), globals := 0, closure := [], defaults := Value.none, kwdefaults := Value.none } }
noncomputable def hd.o_130 (P : Params) : Obj :=
  { cls := Value.type "code", data := Data.fields #[Value.str (Str.ofString "on_reset") 350, Value.str (Str.ofString "Closing.on_reset") 351, Value.str (Str.ofString "/claim/cut.py") 352, Value.int 74 0, Value.int 3 0, Value.int 0 0, Value.int 0 0, Value.int 3 0, Value.ref 125, Value.bool true, Value.int 181 0, Value.ref 126, Value.none, Value.ref 127, Value.ref 128, Value.ref 129, Value.int 356 0, Value.int 74 0, Value.str (Str.ofString "/claim/cut.py") 357] }
noncomputable def hd.o_131 (P : Params) : Obj :=
  { cls := Value.type "function", data := Data.func { name := Str.ofString "on_reset", qualname := Str.ofString "Closing.on_reset", params := hP (hIn (hSt 11) 4), body := .stmts (hB (hIn (hSt 11) 4)), scope := hS (hIn (hSt 11) 4), globals := 3, closure := [], defaults := Value.none, kwdefaults := Value.none, pyModule := Value.str (Str.ofString "quic.closing") 292, code := Value.ref 130 } }
noncomputable def hd.o_132 (P : Params) : Obj :=
  { cls := Value.type "tuple", data := Data.seq #[] }
noncomputable def hd.o_133 (P : Params) : Obj :=
  { cls := Value.none, data := Data.fields #[] }
noncomputable def hd.o_134 (P : Params) : Obj :=
  { cls := Value.type "tuple", data := Data.seq #[Value.str (Str.ofString "self") 362] }
noncomputable def hd.o_135 (P : Params) : Obj :=
  { cls := Value.type "tuple", data := Data.seq #[] }
noncomputable def hd.o_136 (P : Params) : Obj :=
  { cls := Value.none, data := Data.func { name := Str.ofString "on_packet", qualname := Str.ofString "Closing.on_packet", params := hP (hIn (hSt 11) 5), body := .stmts (hB (hIn (hSt 11) 5)), scope := hS (hIn (hSt 11) 5), globals := 0, closure := [], defaults := Value.none, kwdefaults := Value.none } }
noncomputable def hd.o_137 (P : Params) : Obj :=
  { cls := Value.type "code", data := Data.fields #[Value.str (Str.ofString "on_packet") 359, Value.str (Str.ofString "Closing.on_packet") 360, Value.str (Str.ofString "/claim/cut.py") 361, Value.int 79 0, Value.int 1 0, Value.int 0 0, Value.int 0 0, Value.int 3 0, Value.ref 132, Value.bool true, Value.int 181 0, Value.ref 133, Value.none, Value.ref 134, Value.ref 135, Value.ref 136, Value.int 363 0, Value.int 79 0, Value.str (Str.ofString "/claim/cut.py") 364] }
noncomputable def hd.o_138 (P : Params) : Obj :=
  { cls := Value.type "function", data := Data.func { name := Str.ofString "on_packet", qualname := Str.ofString "Closing.on_packet", params := hP (hIn (hSt 11) 5), body := .stmts (hB (hIn (hSt 11) 5)), scope := hS (hIn (hSt 11) 5), globals := 3, closure := [], defaults := Value.none, kwdefaults := Value.none, pyModule := Value.str (Str.ofString "quic.closing") 292, code := Value.ref 137 } }
noncomputable def hd.o_139 (P : Params) : Obj :=
  { cls := Value.type "tuple", data := Data.seq #[] }
noncomputable def hd.o_140 (P : Params) : Obj :=
  { cls := Value.none, data := Data.fields #[] }
noncomputable def hd.o_141 (P : Params) : Obj :=
  { cls := Value.type "tuple", data := Data.seq #[Value.str (Str.ofString "self") 369, Value.str (Str.ofString "now") 370] }
noncomputable def hd.o_142 (P : Params) : Obj :=
  { cls := Value.type "tuple", data := Data.seq #[] }
noncomputable def hd.o_143 (P : Params) : Obj :=
  { cls := Value.none, data := Data.func { name := Str.ofString "on_time", qualname := Str.ofString "Closing.on_time", params := hP (hIn (hSt 11) 6), body := .stmts (hB (hIn (hSt 11) 6)), scope := hS (hIn (hSt 11) 6), globals := 0, closure := [], defaults := Value.none, kwdefaults := Value.none } }
noncomputable def hd.o_144 (P : Params) : Obj :=
  { cls := Value.type "code", data := Data.fields #[Value.str (Str.ofString "on_time") 366, Value.str (Str.ofString "Closing.on_time") 367, Value.str (Str.ofString "/claim/cut.py") 368, Value.int 88 0, Value.int 2 0, Value.int 0 0, Value.int 0 0, Value.int 3 0, Value.ref 139, Value.bool true, Value.int 181 0, Value.ref 140, Value.none, Value.ref 141, Value.ref 142, Value.ref 143, Value.int 371 0, Value.int 88 0, Value.str (Str.ofString "/claim/cut.py") 372] }
noncomputable def hd.o_145 (P : Params) : Obj :=
  { cls := Value.type "function", data := Data.func { name := Str.ofString "on_time", qualname := Str.ofString "Closing.on_time", params := hP (hIn (hSt 11) 6), body := .stmts (hB (hIn (hSt 11) 6)), scope := hS (hIn (hSt 11) 6), globals := 3, closure := [], defaults := Value.none, kwdefaults := Value.none, pyModule := Value.str (Str.ofString "quic.closing") 292, code := Value.ref 144 } }
noncomputable def hd.o_146 (P : Params) : Obj :=
  { cls := Value.type "tuple", data := Data.seq #[] }
noncomputable def hd.o_147 (P : Params) : Obj :=
  { cls := Value.none, data := Data.fields #[] }
noncomputable def hd.o_148 (P : Params) : Obj :=
  { cls := Value.type "tuple", data := Data.seq #[Value.str (Str.ofString "self") 377] }
noncomputable def hd.o_149 (P : Params) : Obj :=
  { cls := Value.type "tuple", data := Data.seq #[] }
noncomputable def hd.o_150 (P : Params) : Obj :=
  { cls := Value.none, data := Data.func { name := Str.ofString "give_up", qualname := Str.ofString "Closing.give_up", params := hP (hIn (hSt 11) 7), body := .stmts (hB (hIn (hSt 11) 7)), scope := hS (hIn (hSt 11) 7), globals := 0, closure := [], defaults := Value.none, kwdefaults := Value.none } }
noncomputable def hd.o_151 (P : Params) : Obj :=
  { cls := Value.type "code", data := Data.fields #[Value.str (Str.ofString "give_up") 374, Value.str (Str.ofString "Closing.give_up") 375, Value.str (Str.ofString "/claim/cut.py") 376, Value.int 94 0, Value.int 1 0, Value.int 0 0, Value.int 0 0, Value.int 3 0, Value.ref 146, Value.bool true, Value.int 181 0, Value.ref 147, Value.none, Value.ref 148, Value.ref 149, Value.ref 150, Value.int 378 0, Value.int 94 0, Value.str (Str.ofString "/claim/cut.py") 379] }
noncomputable def hd.o_152 (P : Params) : Obj :=
  { cls := Value.type "function", data := Data.func { name := Str.ofString "give_up", qualname := Str.ofString "Closing.give_up", params := hP (hIn (hSt 11) 7), body := .stmts (hB (hIn (hSt 11) 7)), scope := hS (hIn (hSt 11) 7), globals := 3, closure := [], defaults := Value.none, kwdefaults := Value.none, pyModule := Value.str (Str.ofString "quic.closing") 292, code := Value.ref 151 } }
noncomputable def hd.o_153 (P : Params) : Obj :=
  { cls := Value.type "tuple", data := Data.seq #[] }
noncomputable def hd.o_154 (P : Params) : Obj :=
  { cls := Value.none, data := Data.fields #[] }
noncomputable def hd.o_155 (P : Params) : Obj :=
  { cls := Value.type "tuple", data := Data.seq #[Value.str (Str.ofString "self") 384] }
noncomputable def hd.o_156 (P : Params) : Obj :=
  { cls := Value.type "tuple", data := Data.seq #[] }
noncomputable def hd.o_157 (P : Params) : Obj :=
  { cls := Value.none, data := Data.func { name := Str.ofString "next_time", qualname := Str.ofString "Closing.next_time", params := hP (hIn (hSt 11) 8), body := .stmts (hB (hIn (hSt 11) 8)), scope := hS (hIn (hSt 11) 8), globals := 0, closure := [], defaults := Value.none, kwdefaults := Value.none } }
noncomputable def hd.o_158 (P : Params) : Obj :=
  { cls := Value.type "code", data := Data.fields #[Value.str (Str.ofString "next_time") 381, Value.str (Str.ofString "Closing.next_time") 382, Value.str (Str.ofString "/claim/cut.py") 383, Value.int 98 0, Value.int 1 0, Value.int 0 0, Value.int 0 0, Value.int 3 0, Value.ref 153, Value.bool true, Value.int 181 0, Value.ref 154, Value.none, Value.ref 155, Value.ref 156, Value.ref 157, Value.int 385 0, Value.int 98 0, Value.str (Str.ofString "/claim/cut.py") 386] }
noncomputable def hd.o_159 (P : Params) : Obj :=
  { cls := Value.type "function", data := Data.func { name := Str.ofString "next_time", qualname := Str.ofString "Closing.next_time", params := hP (hIn (hSt 11) 8), body := .stmts (hB (hIn (hSt 11) 8)), scope := hS (hIn (hSt 11) 8), globals := 3, closure := [], defaults := Value.none, kwdefaults := Value.none, pyModule := Value.str (Str.ofString "quic.closing") 292, code := Value.ref 158 } }
noncomputable def hd.o_160 (P : Params) : Obj :=
  { cls := Value.type "tuple", data := Data.seq #[Value.str (Str.ofString "came") 388, Value.str (Str.ofString "end") 389, Value.str (Str.ofString "frame") 390, Value.str (Str.ofString "next_reply") 391, Value.str (Str.ofString "state") 392] }
noncomputable def hd.o_161 (P : Params) : Obj :=
  { cls := Value.type "dict", data := Data.dict #[{ hash := PyData.keyHash P (Str.ofString "__module__"), key := Value.str (Str.ofString "__module__") 311, val := Value.str (Str.ofString "quic.closing") 292 }, { hash := PyData.keyHash P (Str.ofString "__firstlineno__"), key := Value.str (Str.ofString "__firstlineno__") 315, val := Value.int 45 314 }, { hash := PyData.keyHash P (Str.ofString "__init__"), key := Value.str (Str.ofString "__init__") 322, val := Value.ref 103 }, { hash := PyData.keyHash P (Str.ofString "is_open"), key := Value.str (Str.ofString "is_open") 329, val := Value.ref 110 }, { hash := PyData.keyHash P (Str.ofString "close_now"), key := Value.str (Str.ofString "close_now") 339, val := Value.ref 117 }, { hash := PyData.keyHash P (Str.ofString "on_close"), key := Value.str (Str.ofString "on_close") 349, val := Value.ref 124 }, { hash := PyData.keyHash P (Str.ofString "on_reset"), key := Value.str (Str.ofString "on_reset") 358, val := Value.ref 131 }, { hash := PyData.keyHash P (Str.ofString "on_packet"), key := Value.str (Str.ofString "on_packet") 365, val := Value.ref 138 }, { hash := PyData.keyHash P (Str.ofString "on_time"), key := Value.str (Str.ofString "on_time") 373, val := Value.ref 145 }, { hash := PyData.keyHash P (Str.ofString "give_up"), key := Value.str (Str.ofString "give_up") 380, val := Value.ref 152 }, { hash := PyData.keyHash P (Str.ofString "next_time"), key := Value.str (Str.ofString "next_time") 387, val := Value.ref 159 }, { hash := PyData.keyHash P (Str.ofString "__static_attributes__"), key := Value.str (Str.ofString "__static_attributes__") 393, val := Value.ref 160 }, { hash := PyData.keyHash P (Str.ofString "__dict__"), key := Value.str (Str.ofString "__dict__") 395, val := Value.ref 163 }, { hash := PyData.keyHash P (Str.ofString "__weakref__"), key := Value.str (Str.ofString "__weakref__") 397, val := Value.ref 164 }, { hash := PyData.keyHash P (Str.ofString "__doc__"), key := Value.str (Str.ofString "__doc__") 398, val := Value.none }] 4 }
noncomputable def hd.o_162 (P : Params) : Obj :=
  { cls := Value.type "type", data := Data.cls { name := Str.ofString "Closing", bases := [Value.type "object"], mro := [Value.ref 162, Value.type "object"], ns := 161, qualname := Str.ofString "Closing" }, slots := #[none, none, some (Value.str (Str.ofString "Closing") 304), some (Value.str (Str.ofString "Closing") 312), some (Value.builtin "object.__new__"), some (Value.bool true)] }
noncomputable def hd.o_163 (P : Params) : Obj :=
  { cls := Value.type "getset_descriptor", data := Data.fields #[Value.str (Str.ofString "__dict__") 394, Value.ref 162, Value.builtin "function.__dict__", Value.builtin "function.__dict__#set"] }
noncomputable def hd.o_164 (P : Params) : Obj :=
  { cls := Value.type "getset_descriptor", data := Data.fields #[Value.str (Str.ofString "__weakref__") 396, Value.ref 162, Value.builtin "ExceptionGroup.__weakref__", Value.none] }
noncomputable def hd.o_165 (P : Params) : Obj :=
  { cls := Value.type "super", data := Data.fields #[Value.ref 162, Value.ref 162, Value.ref 162] }
noncomputable def hd.o_166 (P : Params) : Obj :=
  { cls := Value.type "builtin_function_or_method", data := Data.fields #[Value.builtin "object.__init_subclass__", Value.ref 162] }
noncomputable def hd.o_167 (P : Params) : Obj :=
  { cls := Value.type "tuple", data := Data.seq #[] }
noncomputable def hd.o_168 (P : Params) : Obj :=
  { cls := Value.none, data := Data.fields #[] }
noncomputable def hd.o_169 (P : Params) : Obj :=
  { cls := Value.type "tuple", data := Data.seq #[Value.str (Str.ofString "box") 406, Value.str (Str.ofString "many") 407] }
noncomputable def hd.o_170 (P : Params) : Obj :=
  { cls := Value.type "tuple", data := Data.seq #[] }
noncomputable def hd.o_171 (P : Params) : Obj :=
  { cls := Value.none, data := Data.func { name := Str.ofString "_law_drawn", qualname := Str.ofString "_law_drawn", params := hP (hSt 13), body := .stmts (hB (hSt 13)), scope := hS (hSt 13), globals := 0, closure := [], defaults := Value.none, kwdefaults := Value.none } }
noncomputable def hd.o_172 (P : Params) : Obj :=
  { cls := Value.type "code", data := Data.fields #[Value.str (Str.ofString "_law_drawn") 403, Value.str (Str.ofString "_law_drawn") 404, Value.str (Str.ofString "/claim/cut.py") 405, Value.int 101 0, Value.int 2 0, Value.int 0 0, Value.int 0 0, Value.int 3 0, Value.ref 167, Value.bool true, Value.int 181 0, Value.ref 168, Value.none, Value.ref 169, Value.ref 170, Value.ref 171, Value.int 408 0, Value.int 101 0, Value.str (Str.ofString "/claim/cut.py") 409] }
noncomputable def hd.o_173 (P : Params) : Obj :=
  { cls := Value.type "function", data := Data.func { name := Str.ofString "_law_drawn", qualname := Str.ofString "_law_drawn", params := hP (hSt 13), body := .stmts (hB (hSt 13)), scope := hS (hSt 13), globals := 3, closure := [], defaults := Value.none, kwdefaults := Value.none, pyModule := Value.str (Str.ofString "law_sj0106_01") 401, code := Value.ref 172 } }
noncomputable def hd.o_174 (P : Params) : Obj :=
  { cls := Value.type "tuple", data := Data.seq #[] }
noncomputable def hd.o_175 (P : Params) : Obj :=
  { cls := Value.none, data := Data.fields #[] }
noncomputable def hd.o_176 (P : Params) : Obj :=
  { cls := Value.none, data := Data.func { name := Str.ofString "_law_events", qualname := Str.ofString "_law_events", params := hP (hSt 14), body := .stmts (hB (hSt 14)), scope := hS (hSt 14), globals := 0, closure := [], defaults := Value.none, kwdefaults := Value.none } }
noncomputable def hd.o_177 (P : Params) : Obj :=
  { cls := Value.type "code", data := Data.fields #[Value.str (Str.ofString "_law_events") 411, Value.str (Str.ofString "_law_events") 412, Value.str (Str.ofString "/claim/cut.py") 413, Value.int 106 0, Value.int 2 0, Value.int 0 0, Value.int 0 0, Value.int 3 0, Value.ref 174, Value.bool true, Value.int 181 0, Value.ref 175, Value.none, Value.none, Value.none, Value.ref 176, Value.int 414 0, Value.int 106 0, Value.str (Str.ofString "/claim/cut.py") 415] }
noncomputable def hd.o_178 (P : Params) : Obj :=
  { cls := Value.type "function", data := Data.func { name := Str.ofString "_law_events", qualname := Str.ofString "_law_events", params := hP (hSt 14), body := .stmts (hB (hSt 14)), scope := hS (hSt 14), globals := 3, closure := [], defaults := Value.none, kwdefaults := Value.none, pyModule := Value.str (Str.ofString "law_sj0106_01") 401, code := Value.ref 177 } }
noncomputable def hd.o_179 (P : Params) : Obj :=
  { cls := Value.type "tuple", data := Data.seq #[] }
noncomputable def hd.o_180 (P : Params) : Obj :=
  { cls := Value.none, data := Data.fields #[] }
noncomputable def hd.o_181 (P : Params) : Obj :=
  { cls := Value.none, data := Data.func { name := Str.ofString "_law_run", qualname := Str.ofString "_law_run", params := hP (hSt 15), body := .stmts (hB (hSt 15)), scope := hS (hSt 15), globals := 0, closure := [], defaults := Value.none, kwdefaults := Value.none } }
noncomputable def hd.o_182 (P : Params) : Obj :=
  { cls := Value.type "code", data := Data.fields #[Value.str (Str.ofString "_law_run") 417, Value.str (Str.ofString "_law_run") 418, Value.str (Str.ofString "/claim/cut.py") 419, Value.int 114 0, Value.int 4 0, Value.int 0 0, Value.int 0 0, Value.int 3 0, Value.ref 179, Value.bool true, Value.int 181 0, Value.ref 180, Value.none, Value.none, Value.none, Value.ref 181, Value.int 420 0, Value.int 114 0, Value.str (Str.ofString "/claim/cut.py") 421] }
noncomputable def hd.o_183 (P : Params) : Obj :=
  { cls := Value.type "function", data := Data.func { name := Str.ofString "_law_run", qualname := Str.ofString "_law_run", params := hP (hSt 15), body := .stmts (hB (hSt 15)), scope := hS (hSt 15), globals := 3, closure := [], defaults := Value.none, kwdefaults := Value.none, pyModule := Value.str (Str.ofString "law_sj0106_01") 401, code := Value.ref 182 } }
noncomputable def hd.o_184 (P : Params) : Obj :=
  { cls := Value.type "tuple", data := Data.seq #[] }
noncomputable def hd.o_185 (P : Params) : Obj :=
  { cls := Value.none, data := Data.fields #[] }
noncomputable def hd.o_186 (P : Params) : Obj :=
  { cls := Value.type "tuple", data := Data.seq #[Value.str (Str.ofString "idle") 426, Value.str (Str.ofString "end") 427, Value.str (Str.ofString "probe") 428, Value.str (Str.ofString "door") 429, Value.str (Str.ofString "seen") 430, Value.str (Str.ofString "time") 431] }
noncomputable def hd.o_187 (P : Params) : Obj :=
  { cls := Value.type "tuple", data := Data.seq #[] }
noncomputable def hd.o_188 (P : Params) : Obj :=
  { cls := Value.none, data := Data.func { name := Str.ofString "_law_closes", qualname := Str.ofString "_law_closes", params := hP (hSt 16), body := .stmts (hB (hSt 16)), scope := hS (hSt 16), globals := 0, closure := [], defaults := Value.none, kwdefaults := Value.none } }
noncomputable def hd.o_189 (P : Params) : Obj :=
  { cls := Value.type "code", data := Data.fields #[Value.str (Str.ofString "_law_closes") 423, Value.str (Str.ofString "_law_closes") 424, Value.str (Str.ofString "/claim/cut.py") 425, Value.int 129 0, Value.int 3 0, Value.int 0 0, Value.int 0 0, Value.int 3 0, Value.ref 184, Value.bool true, Value.int 181 0, Value.ref 185, Value.none, Value.ref 186, Value.ref 187, Value.ref 188, Value.int 432 0, Value.int 129 0, Value.str (Str.ofString "/claim/cut.py") 433] }
noncomputable def hd.o_190 (P : Params) : Obj :=
  { cls := Value.type "function", data := Data.func { name := Str.ofString "_law_closes", qualname := Str.ofString "_law_closes", params := hP (hSt 16), body := .stmts (hB (hSt 16)), scope := hS (hSt 16), globals := 3, closure := [], defaults := Value.none, kwdefaults := Value.none, pyModule := Value.str (Str.ofString "law_sj0106_01") 401, code := Value.ref 189 } }
noncomputable def hd.o_191 (P : Params) : Obj :=
  { cls := Value.type "tuple", data := Data.seq #[] }
noncomputable def hd.o_192 (P : Params) : Obj :=
  { cls := Value.none, data := Data.fields #[] }
noncomputable def hd.o_193 (P : Params) : Obj :=
  { cls := Value.none, data := Data.func { name := Str.ofString "law", qualname := Str.ofString "law", params := hP (hSt 17), body := .stmts (hB (hSt 17)), scope := hS (hSt 17), globals := 0, closure := [], defaults := Value.none, kwdefaults := Value.none } }
noncomputable def hd.o_194 (P : Params) : Obj :=
  { cls := Value.type "code", data := Data.fields #[Value.str (Str.ofString "law") 435, Value.str (Str.ofString "law") 436, Value.str (Str.ofString "/claim/cut.py") 437, Value.int 139 0, Value.int 1 0, Value.int 0 0, Value.int 0 0, Value.int 3 0, Value.ref 191, Value.bool true, Value.int 181 0, Value.ref 192, Value.none, Value.none, Value.none, Value.ref 193, Value.int 438 0, Value.int 139 0, Value.str (Str.ofString "/claim/cut.py") 439] }
noncomputable def hd.o_195 (P : Params) : Obj :=
  { cls := Value.type "function", data := Data.func { name := Str.ofString "law", qualname := Str.ofString "law", params := hP (hSt 17), body := .stmts (hB (hSt 17)), scope := hS (hSt 17), globals := 3, closure := [], defaults := Value.none, kwdefaults := Value.none, pyModule := Value.str (Str.ofString "law_sj0106_01") 401, code := Value.ref 194 } }
noncomputable def hd.o_3_2 (P : Params) : Obj :=
  { cls := Value.type "dict", data := Data.dict #[{ hash := PyData.keyHash P (Str.ofString "__name__"), key := Value.str (Str.ofString "__name__") 165, val := Value.str (Str.ofString "quic.closing") 292 }, { hash := PyData.keyHash P (Str.ofString "__doc__"), key := Value.str (Str.ofString "__doc__") 166, val := Value.none }, { hash := PyData.keyHash P (Str.ofString "__package__"), key := Value.str (Str.ofString "__package__") 167, val := Value.none }, { hash := PyData.keyHash P (Str.ofString "__loader__"), key := Value.str (Str.ofString "__loader__") 168, val := Value.builtin "__main__.__loader__#opaque" }, { hash := PyData.keyHash P (Str.ofString "__spec__"), key := Value.str (Str.ofString "__spec__") 169, val := Value.none }, { hash := PyData.keyHash P (Str.ofString "__annotations__"), key := Value.str (Str.ofString "__annotations__") 170, val := Value.ref 6 }, { hash := PyData.keyHash P (Str.ofString "__builtins__"), key := Value.str (Str.ofString "__builtins__") 171, val := Value.ref 4 }, { hash := PyData.keyHash P (Str.ofString "__file__"), key := Value.str (Str.ofString "__file__") 173, val := Value.str (Str.ofString "/claim/cut.py") 172 }, { hash := PyData.keyHash P (Str.ofString "__cached__"), key := Value.str (Str.ofString "__cached__") 174, val := Value.none }, { hash := PyData.keyHash P (Str.ofString "_wall"), key := Value.str (Str.ofString "_wall") 193, val := Value.ref 21 }, { hash := PyData.keyHash P (Str.ofString "LEAST_PROBES"), key := Value.str (Str.ofString "LEAST_PROBES") 197, val := Value.int 3 196 }, { hash := PyData.keyHash P (Str.ofString "idle_wait"), key := Value.str (Str.ofString "idle_wait") 203, val := Value.ref 26 }, { hash := PyData.keyHash P (Str.ofString "Idle"), key := Value.str (Str.ofString "Idle") 291, val := Value.ref 85 }, { hash := PyData.keyHash P (Str.ofString "OPEN"), key := Value.str (Str.ofString "OPEN") 295, val := Value.str (Str.ofString "open") 294 }, { hash := PyData.keyHash P (Str.ofString "CLOSING"), key := Value.str (Str.ofString "CLOSING") 297, val := Value.str (Str.ofString "closing") 296 }, { hash := PyData.keyHash P (Str.ofString "DRAINING"), key := Value.str (Str.ofString "DRAINING") 299, val := Value.str (Str.ofString "draining") 298 }, { hash := PyData.keyHash P (Str.ofString "CLOSED"), key := Value.str (Str.ofString "CLOSED") 301, val := Value.str (Str.ofString "closed") 300 }, { hash := PyData.keyHash P (Str.ofString "PERIODS"), key := Value.str (Str.ofString "PERIODS") 303, val := Value.int 3 302 }, { hash := PyData.keyHash P (Str.ofString "Closing"), key := Value.str (Str.ofString "Closing") 400, val := Value.ref 162 }] 19 }
noncomputable def hd.o_12_2 (P : Params) : Obj :=
  { cls := Value.none, data := Data.fields #[Value.int 1 0, Value.int 0 0, Value.ref 20, Value.int 6 0, Value.int 0 0, Value.ref 25, Value.int 9 0, Value.int 0 0, Value.ref 32, Value.int 45 0, Value.int 0 0, Value.ref 95] }
noncomputable def hd.o_3_1 (P : Params) : Obj :=
  { cls := Value.type "dict", data := Data.dict #[{ hash := PyData.keyHash P (Str.ofString "__name__"), key := Value.str (Str.ofString "__name__") 165, val := Value.str (Str.ofString "quic.idle") 194 }, { hash := PyData.keyHash P (Str.ofString "__doc__"), key := Value.str (Str.ofString "__doc__") 166, val := Value.none }, { hash := PyData.keyHash P (Str.ofString "__package__"), key := Value.str (Str.ofString "__package__") 167, val := Value.none }, { hash := PyData.keyHash P (Str.ofString "__loader__"), key := Value.str (Str.ofString "__loader__") 168, val := Value.builtin "__main__.__loader__#opaque" }, { hash := PyData.keyHash P (Str.ofString "__spec__"), key := Value.str (Str.ofString "__spec__") 169, val := Value.none }, { hash := PyData.keyHash P (Str.ofString "__annotations__"), key := Value.str (Str.ofString "__annotations__") 170, val := Value.ref 6 }, { hash := PyData.keyHash P (Str.ofString "__builtins__"), key := Value.str (Str.ofString "__builtins__") 171, val := Value.ref 4 }, { hash := PyData.keyHash P (Str.ofString "__file__"), key := Value.str (Str.ofString "__file__") 173, val := Value.str (Str.ofString "/claim/cut.py") 172 }, { hash := PyData.keyHash P (Str.ofString "__cached__"), key := Value.str (Str.ofString "__cached__") 174, val := Value.none }, { hash := PyData.keyHash P (Str.ofString "_wall"), key := Value.str (Str.ofString "_wall") 193, val := Value.ref 21 }, { hash := PyData.keyHash P (Str.ofString "LEAST_PROBES"), key := Value.str (Str.ofString "LEAST_PROBES") 197, val := Value.int 3 196 }, { hash := PyData.keyHash P (Str.ofString "idle_wait"), key := Value.str (Str.ofString "idle_wait") 203, val := Value.ref 26 }, { hash := PyData.keyHash P (Str.ofString "Idle"), key := Value.str (Str.ofString "Idle") 291, val := Value.ref 85 }] 13 }
noncomputable def hd.o_12_1 (P : Params) : Obj :=
  { cls := Value.none, data := Data.fields #[Value.int 1 0, Value.int 0 0, Value.ref 20, Value.int 6 0, Value.int 0 0, Value.ref 25, Value.int 9 0, Value.int 0 0, Value.ref 32] }
noncomputable def hd.o_12_0 (P : Params) : Obj :=
  { cls := Value.none, data := Data.fields #[] }
noncomputable def hd.H0 (P : Params) : Heap := Heap.mk (Array.mk (boot_o_0 P :: boot_o_1 P :: boot_o_2 P :: boot_o_3 P :: boot_o_4 P :: boot_o_5 P :: boot_o_6 P :: boot_o_7 P :: boot_o_8 P :: boot_o_9 P :: boot_o_10 P :: hd.o_11 P :: hd.o_12_0 P :: hd.o_13 P :: hd.o_14 P :: [])) ({ })
noncomputable def hd.H3 (P : Params) : Heap := Heap.mk (Array.mk (boot_o_0 P :: boot_o_1 P :: boot_o_2 P :: hd.o_3 P :: boot_o_4 P :: boot_o_5 P :: boot_o_6 P :: boot_o_7 P :: boot_o_8 P :: boot_o_9 P :: boot_o_10 P :: hd.o_11 P :: hd.o_12 P :: hd.o_13 P :: hd.o_14 P :: hd.o_15 P :: hd.o_16 P :: hd.o_17 P :: hd.o_18 P :: hd.o_19 P :: hd.o_20 P :: hd.o_21 P :: hd.o_22 P :: hd.o_23 P :: hd.o_24 P :: hd.o_25 P :: hd.o_26 P :: hd.o_27 P :: hd.o_28 P :: hd.o_29 P :: hd.o_30 P :: hd.o_31 P :: hd.o_32 P :: hd.o_33 P :: hd.o_34 P :: hd.o_35 P :: hd.o_36 P :: hd.o_37 P :: hd.o_38 P :: hd.o_39 P :: hd.o_40 P :: hd.o_41 P :: hd.o_42 P :: hd.o_43 P :: hd.o_44 P :: hd.o_45 P :: hd.o_46 P :: hd.o_47 P :: hd.o_48 P :: hd.o_49 P :: hd.o_50 P :: hd.o_51 P :: hd.o_52 P :: hd.o_53 P :: hd.o_54 P :: hd.o_55 P :: hd.o_56 P :: hd.o_57 P :: hd.o_58 P :: hd.o_59 P :: hd.o_60 P :: hd.o_61 P :: hd.o_62 P :: hd.o_63 P :: hd.o_64 P :: hd.o_65 P :: hd.o_66 P :: hd.o_67 P :: hd.o_68 P :: hd.o_69 P :: hd.o_70 P :: hd.o_71 P :: hd.o_72 P :: hd.o_73 P :: hd.o_74 P :: hd.o_75 P :: hd.o_76 P :: hd.o_77 P :: hd.o_78 P :: hd.o_79 P :: hd.o_80 P :: hd.o_81 P :: hd.o_82 P :: hd.o_83 P :: hd.o_84 P :: hd.o_85 P :: hd.o_86 P :: hd.o_87 P :: hd.o_88 P :: hd.o_89 P :: hd.o_90 P :: hd.o_91 P :: hd.o_92 P :: hd.o_93 P :: hd.o_94 P :: hd.o_95 P :: hd.o_96 P :: hd.o_97 P :: hd.o_98 P :: hd.o_99 P :: hd.o_100 P :: hd.o_101 P :: hd.o_102 P :: hd.o_103 P :: hd.o_104 P :: hd.o_105 P :: hd.o_106 P :: hd.o_107 P :: hd.o_108 P :: hd.o_109 P :: hd.o_110 P :: hd.o_111 P :: hd.o_112 P :: hd.o_113 P :: hd.o_114 P :: hd.o_115 P :: hd.o_116 P :: hd.o_117 P :: hd.o_118 P :: hd.o_119 P :: hd.o_120 P :: hd.o_121 P :: hd.o_122 P :: hd.o_123 P :: hd.o_124 P :: hd.o_125 P :: hd.o_126 P :: hd.o_127 P :: hd.o_128 P :: hd.o_129 P :: hd.o_130 P :: hd.o_131 P :: hd.o_132 P :: hd.o_133 P :: hd.o_134 P :: hd.o_135 P :: hd.o_136 P :: hd.o_137 P :: hd.o_138 P :: hd.o_139 P :: hd.o_140 P :: hd.o_141 P :: hd.o_142 P :: hd.o_143 P :: hd.o_144 P :: hd.o_145 P :: hd.o_146 P :: hd.o_147 P :: hd.o_148 P :: hd.o_149 P :: hd.o_150 P :: hd.o_151 P :: hd.o_152 P :: hd.o_153 P :: hd.o_154 P :: hd.o_155 P :: hd.o_156 P :: hd.o_157 P :: hd.o_158 P :: hd.o_159 P :: hd.o_160 P :: hd.o_161 P :: hd.o_162 P :: hd.o_163 P :: hd.o_164 P :: hd.o_165 P :: hd.o_166 P :: hd.o_167 P :: hd.o_168 P :: hd.o_169 P :: hd.o_170 P :: hd.o_171 P :: hd.o_172 P :: hd.o_173 P :: hd.o_174 P :: hd.o_175 P :: hd.o_176 P :: hd.o_177 P :: hd.o_178 P :: hd.o_179 P :: hd.o_180 P :: hd.o_181 P :: hd.o_182 P :: hd.o_183 P :: hd.o_184 P :: hd.o_185 P :: hd.o_186 P :: hd.o_187 P :: hd.o_188 P :: hd.o_189 P :: hd.o_190 P :: hd.o_191 P :: hd.o_192 P :: hd.o_193 P :: hd.o_194 P :: hd.o_195 P :: [])) ({ })
noncomputable def hd.heap_39 : Params → Frag := fun P => (nat_lit 2, boot_o_2 P) :: (nat_lit 3, hd.o_3 P) :: (nat_lit 15, hd.o_15 P) :: (nat_lit 17, hd.o_17 P) :: (nat_lit 18, hd.o_18 P) :: (nat_lit 20, hd.o_20 P) :: (nat_lit 21, hd.o_21 P) :: (nat_lit 22, hd.o_22 P) :: (nat_lit 25, hd.o_25 P) :: (nat_lit 26, hd.o_26 P) :: (nat_lit 34, hd.o_34 P) :: (nat_lit 36, hd.o_36 P) :: (nat_lit 37, hd.o_37 P) :: (nat_lit 39, hd.o_39 P) :: (nat_lit 40, hd.o_40 P) :: (nat_lit 41, hd.o_41 P) :: (nat_lit 43, hd.o_43 P) :: (nat_lit 44, hd.o_44 P) :: (nat_lit 46, hd.o_46 P) :: (nat_lit 47, hd.o_47 P) :: (nat_lit 48, hd.o_48 P) :: (nat_lit 50, hd.o_50 P) :: (nat_lit 51, hd.o_51 P) :: (nat_lit 53, hd.o_53 P) :: (nat_lit 54, hd.o_54 P) :: (nat_lit 55, hd.o_55 P) :: (nat_lit 57, hd.o_57 P) :: (nat_lit 58, hd.o_58 P) :: (nat_lit 60, hd.o_60 P) :: (nat_lit 61, hd.o_61 P) :: (nat_lit 62, hd.o_62 P) :: (nat_lit 64, hd.o_64 P) :: (nat_lit 65, hd.o_65 P) :: (nat_lit 67, hd.o_67 P) :: (nat_lit 68, hd.o_68 P) :: (nat_lit 69, hd.o_69 P) :: (nat_lit 71, hd.o_71 P) :: (nat_lit 72, hd.o_72 P) :: (nat_lit 74, hd.o_74 P) :: (nat_lit 75, hd.o_75 P) :: (nat_lit 76, hd.o_76 P) :: (nat_lit 78, hd.o_78 P) :: (nat_lit 79, hd.o_79 P) :: (nat_lit 81, hd.o_81 P) :: (nat_lit 82, hd.o_82 P) :: (nat_lit 83, hd.o_83 P) :: (nat_lit 84, hd.o_84 P) :: (nat_lit 85, hd.o_85 P) :: (nat_lit 86, hd.o_86 P) :: (nat_lit 87, hd.o_87 P) :: (nat_lit 97, hd.o_97 P) :: (nat_lit 99, hd.o_99 P) :: (nat_lit 100, hd.o_100 P) :: (nat_lit 102, hd.o_102 P) :: (nat_lit 103, hd.o_103 P) :: (nat_lit 104, hd.o_104 P) :: (nat_lit 106, hd.o_106 P) :: (nat_lit 107, hd.o_107 P) :: (nat_lit 109, hd.o_109 P) :: (nat_lit 110, hd.o_110 P) :: (nat_lit 111, hd.o_111 P) :: (nat_lit 113, hd.o_113 P) :: (nat_lit 114, hd.o_114 P) :: (nat_lit 116, hd.o_116 P) :: (nat_lit 117, hd.o_117 P) :: (nat_lit 118, hd.o_118 P) :: (nat_lit 120, hd.o_120 P) :: (nat_lit 121, hd.o_121 P) :: (nat_lit 123, hd.o_123 P) :: (nat_lit 124, hd.o_124 P) :: (nat_lit 125, hd.o_125 P) :: (nat_lit 127, hd.o_127 P) :: (nat_lit 128, hd.o_128 P) :: (nat_lit 130, hd.o_130 P) :: (nat_lit 131, hd.o_131 P) :: (nat_lit 132, hd.o_132 P) :: (nat_lit 134, hd.o_134 P) :: (nat_lit 135, hd.o_135 P) :: (nat_lit 137, hd.o_137 P) :: (nat_lit 138, hd.o_138 P) :: (nat_lit 139, hd.o_139 P) :: (nat_lit 141, hd.o_141 P) :: (nat_lit 142, hd.o_142 P) :: (nat_lit 144, hd.o_144 P) :: (nat_lit 145, hd.o_145 P) :: (nat_lit 146, hd.o_146 P) :: (nat_lit 148, hd.o_148 P) :: (nat_lit 149, hd.o_149 P) :: (nat_lit 151, hd.o_151 P) :: (nat_lit 152, hd.o_152 P) :: (nat_lit 153, hd.o_153 P) :: (nat_lit 155, hd.o_155 P) :: (nat_lit 156, hd.o_156 P) :: (nat_lit 158, hd.o_158 P) :: (nat_lit 159, hd.o_159 P) :: (nat_lit 160, hd.o_160 P) :: (nat_lit 161, hd.o_161 P) :: (nat_lit 162, hd.o_162 P) :: (nat_lit 163, hd.o_163 P) :: (nat_lit 164, hd.o_164 P) :: (nat_lit 167, hd.o_167 P) :: (nat_lit 169, hd.o_169 P) :: (nat_lit 170, hd.o_170 P) :: (nat_lit 172, hd.o_172 P) :: (nat_lit 173, hd.o_173 P) :: (nat_lit 174, hd.o_174 P) :: (nat_lit 177, hd.o_177 P) :: (nat_lit 178, hd.o_178 P) :: (nat_lit 179, hd.o_179 P) :: (nat_lit 182, hd.o_182 P) :: (nat_lit 183, hd.o_183 P) :: (nat_lit 184, hd.o_184 P) :: (nat_lit 186, hd.o_186 P) :: (nat_lit 187, hd.o_187 P) :: (nat_lit 189, hd.o_189 P) :: (nat_lit 190, hd.o_190 P) :: (nat_lit 191, hd.o_191 P) :: (nat_lit 194, hd.o_194 P) :: (nat_lit 195, hd.o_195 P) :: []
noncomputable def hd.T0 (P : Params) : BT := .node (boot_o_0 P) (.node (boot_o_1 P) (.node (boot_o_3 P) (.node (boot_o_7 P) .nil .nil) (.node (hd.o_11 P) .nil .nil)) (.node (boot_o_5 P) (.node (boot_o_9 P) .nil .nil) (.node (hd.o_13 P) .nil .nil))) (.node (boot_o_2 P) (.node (boot_o_4 P) (.node (boot_o_8 P) .nil .nil) (.node (hd.o_12_0 P) .nil .nil)) (.node (boot_o_6 P) (.node (boot_o_10 P) .nil .nil) (.node (hd.o_14 P) .nil .nil)))
noncomputable def hd.T1 (P : Params) : BT := .node (boot_o_0 P) (.node (boot_o_1 P) (.node (hd.o_3_1 P) (.node (boot_o_7 P) (.node (hd.o_15 P) (.node (hd.o_31 P) (.node (hd.o_63 P) .nil .nil) .nil) (.node (hd.o_47 P) (.node (hd.o_79 P) .nil .nil) .nil)) (.node (hd.o_23 P) (.node (hd.o_39 P) (.node (hd.o_71 P) .nil .nil) .nil) (.node (hd.o_55 P) (.node (hd.o_87 P) .nil .nil) .nil))) (.node (hd.o_11 P) (.node (hd.o_19 P) (.node (hd.o_35 P) (.node (hd.o_67 P) .nil .nil) .nil) (.node (hd.o_51 P) (.node (hd.o_83 P) .nil .nil) .nil)) (.node (hd.o_27 P) (.node (hd.o_43 P) (.node (hd.o_75 P) .nil .nil) .nil) (.node (hd.o_59 P) .nil .nil)))) (.node (boot_o_5 P) (.node (boot_o_9 P) (.node (hd.o_17 P) (.node (hd.o_33 P) (.node (hd.o_65 P) .nil .nil) .nil) (.node (hd.o_49 P) (.node (hd.o_81 P) .nil .nil) .nil)) (.node (hd.o_25 P) (.node (hd.o_41 P) (.node (hd.o_73 P) .nil .nil) .nil) (.node (hd.o_57 P) (.node (hd.o_89 P) .nil .nil) .nil))) (.node (hd.o_13 P) (.node (hd.o_21 P) (.node (hd.o_37 P) (.node (hd.o_69 P) .nil .nil) .nil) (.node (hd.o_53 P) (.node (hd.o_85 P) .nil .nil) .nil)) (.node (hd.o_29 P) (.node (hd.o_45 P) (.node (hd.o_77 P) .nil .nil) .nil) (.node (hd.o_61 P) .nil .nil))))) (.node (boot_o_2 P) (.node (boot_o_4 P) (.node (boot_o_8 P) (.node (hd.o_16 P) (.node (hd.o_32 P) (.node (hd.o_64 P) .nil .nil) .nil) (.node (hd.o_48 P) (.node (hd.o_80 P) .nil .nil) .nil)) (.node (hd.o_24 P) (.node (hd.o_40 P) (.node (hd.o_72 P) .nil .nil) .nil) (.node (hd.o_56 P) (.node (hd.o_88 P) .nil .nil) .nil))) (.node (hd.o_12_1 P) (.node (hd.o_20 P) (.node (hd.o_36 P) (.node (hd.o_68 P) .nil .nil) .nil) (.node (hd.o_52 P) (.node (hd.o_84 P) .nil .nil) .nil)) (.node (hd.o_28 P) (.node (hd.o_44 P) (.node (hd.o_76 P) .nil .nil) .nil) (.node (hd.o_60 P) .nil .nil)))) (.node (boot_o_6 P) (.node (boot_o_10 P) (.node (hd.o_18 P) (.node (hd.o_34 P) (.node (hd.o_66 P) .nil .nil) .nil) (.node (hd.o_50 P) (.node (hd.o_82 P) .nil .nil) .nil)) (.node (hd.o_26 P) (.node (hd.o_42 P) (.node (hd.o_74 P) .nil .nil) .nil) (.node (hd.o_58 P) .nil .nil))) (.node (hd.o_14 P) (.node (hd.o_22 P) (.node (hd.o_38 P) (.node (hd.o_70 P) .nil .nil) .nil) (.node (hd.o_54 P) (.node (hd.o_86 P) .nil .nil) .nil)) (.node (hd.o_30 P) (.node (hd.o_46 P) (.node (hd.o_78 P) .nil .nil) .nil) (.node (hd.o_62 P) .nil .nil)))))
noncomputable def hd.T2 (P : Params) : BT := .node (boot_o_0 P) (.node (boot_o_1 P) (.node (hd.o_3_2 P) (.node (boot_o_7 P) (.node (hd.o_15 P) (.node (hd.o_31 P) (.node (hd.o_63 P) (.node (hd.o_127 P) .nil .nil) .nil) (.node (hd.o_95 P) (.node (hd.o_159 P) .nil .nil) .nil)) (.node (hd.o_47 P) (.node (hd.o_79 P) (.node (hd.o_143 P) .nil .nil) .nil) (.node (hd.o_111 P) .nil .nil))) (.node (hd.o_23 P) (.node (hd.o_39 P) (.node (hd.o_71 P) (.node (hd.o_135 P) .nil .nil) .nil) (.node (hd.o_103 P) .nil .nil)) (.node (hd.o_55 P) (.node (hd.o_87 P) (.node (hd.o_151 P) .nil .nil) .nil) (.node (hd.o_119 P) .nil .nil)))) (.node (hd.o_11 P) (.node (hd.o_19 P) (.node (hd.o_35 P) (.node (hd.o_67 P) (.node (hd.o_131 P) .nil .nil) .nil) (.node (hd.o_99 P) (.node (hd.o_163 P) .nil .nil) .nil)) (.node (hd.o_51 P) (.node (hd.o_83 P) (.node (hd.o_147 P) .nil .nil) .nil) (.node (hd.o_115 P) .nil .nil))) (.node (hd.o_27 P) (.node (hd.o_43 P) (.node (hd.o_75 P) (.node (hd.o_139 P) .nil .nil) .nil) (.node (hd.o_107 P) .nil .nil)) (.node (hd.o_59 P) (.node (hd.o_91 P) (.node (hd.o_155 P) .nil .nil) .nil) (.node (hd.o_123 P) .nil .nil))))) (.node (boot_o_5 P) (.node (boot_o_9 P) (.node (hd.o_17 P) (.node (hd.o_33 P) (.node (hd.o_65 P) (.node (hd.o_129 P) .nil .nil) .nil) (.node (hd.o_97 P) (.node (hd.o_161 P) .nil .nil) .nil)) (.node (hd.o_49 P) (.node (hd.o_81 P) (.node (hd.o_145 P) .nil .nil) .nil) (.node (hd.o_113 P) .nil .nil))) (.node (hd.o_25 P) (.node (hd.o_41 P) (.node (hd.o_73 P) (.node (hd.o_137 P) .nil .nil) .nil) (.node (hd.o_105 P) .nil .nil)) (.node (hd.o_57 P) (.node (hd.o_89 P) (.node (hd.o_153 P) .nil .nil) .nil) (.node (hd.o_121 P) .nil .nil)))) (.node (hd.o_13 P) (.node (hd.o_21 P) (.node (hd.o_37 P) (.node (hd.o_69 P) (.node (hd.o_133 P) .nil .nil) .nil) (.node (hd.o_101 P) (.node (hd.o_165 P) .nil .nil) .nil)) (.node (hd.o_53 P) (.node (hd.o_85 P) (.node (hd.o_149 P) .nil .nil) .nil) (.node (hd.o_117 P) .nil .nil))) (.node (hd.o_29 P) (.node (hd.o_45 P) (.node (hd.o_77 P) (.node (hd.o_141 P) .nil .nil) .nil) (.node (hd.o_109 P) .nil .nil)) (.node (hd.o_61 P) (.node (hd.o_93 P) (.node (hd.o_157 P) .nil .nil) .nil) (.node (hd.o_125 P) .nil .nil)))))) (.node (boot_o_2 P) (.node (boot_o_4 P) (.node (boot_o_8 P) (.node (hd.o_16 P) (.node (hd.o_32 P) (.node (hd.o_64 P) (.node (hd.o_128 P) .nil .nil) .nil) (.node (hd.o_96 P) (.node (hd.o_160 P) .nil .nil) .nil)) (.node (hd.o_48 P) (.node (hd.o_80 P) (.node (hd.o_144 P) .nil .nil) .nil) (.node (hd.o_112 P) .nil .nil))) (.node (hd.o_24 P) (.node (hd.o_40 P) (.node (hd.o_72 P) (.node (hd.o_136 P) .nil .nil) .nil) (.node (hd.o_104 P) .nil .nil)) (.node (hd.o_56 P) (.node (hd.o_88 P) (.node (hd.o_152 P) .nil .nil) .nil) (.node (hd.o_120 P) .nil .nil)))) (.node (hd.o_12_2 P) (.node (hd.o_20 P) (.node (hd.o_36 P) (.node (hd.o_68 P) (.node (hd.o_132 P) .nil .nil) .nil) (.node (hd.o_100 P) (.node (hd.o_164 P) .nil .nil) .nil)) (.node (hd.o_52 P) (.node (hd.o_84 P) (.node (hd.o_148 P) .nil .nil) .nil) (.node (hd.o_116 P) .nil .nil))) (.node (hd.o_28 P) (.node (hd.o_44 P) (.node (hd.o_76 P) (.node (hd.o_140 P) .nil .nil) .nil) (.node (hd.o_108 P) .nil .nil)) (.node (hd.o_60 P) (.node (hd.o_92 P) (.node (hd.o_156 P) .nil .nil) .nil) (.node (hd.o_124 P) .nil .nil))))) (.node (boot_o_6 P) (.node (boot_o_10 P) (.node (hd.o_18 P) (.node (hd.o_34 P) (.node (hd.o_66 P) (.node (hd.o_130 P) .nil .nil) .nil) (.node (hd.o_98 P) (.node (hd.o_162 P) .nil .nil) .nil)) (.node (hd.o_50 P) (.node (hd.o_82 P) (.node (hd.o_146 P) .nil .nil) .nil) (.node (hd.o_114 P) .nil .nil))) (.node (hd.o_26 P) (.node (hd.o_42 P) (.node (hd.o_74 P) (.node (hd.o_138 P) .nil .nil) .nil) (.node (hd.o_106 P) .nil .nil)) (.node (hd.o_58 P) (.node (hd.o_90 P) (.node (hd.o_154 P) .nil .nil) .nil) (.node (hd.o_122 P) .nil .nil)))) (.node (hd.o_14 P) (.node (hd.o_22 P) (.node (hd.o_38 P) (.node (hd.o_70 P) (.node (hd.o_134 P) .nil .nil) .nil) (.node (hd.o_102 P) (.node (hd.o_166 P) .nil .nil) .nil)) (.node (hd.o_54 P) (.node (hd.o_86 P) (.node (hd.o_150 P) .nil .nil) .nil) (.node (hd.o_118 P) .nil .nil))) (.node (hd.o_30 P) (.node (hd.o_46 P) (.node (hd.o_78 P) (.node (hd.o_142 P) .nil .nil) .nil) (.node (hd.o_110 P) .nil .nil)) (.node (hd.o_62 P) (.node (hd.o_94 P) (.node (hd.o_158 P) .nil .nil) .nil) (.node (hd.o_126 P) .nil .nil))))))
noncomputable def hd.T3 (P : Params) : BT := .node (boot_o_0 P) (.node (boot_o_1 P) (.node (hd.o_3 P) (.node (boot_o_7 P) (.node (hd.o_15 P) (.node (hd.o_31 P) (.node (hd.o_63 P) (.node (hd.o_127 P) .nil .nil) (.node (hd.o_191 P) .nil .nil)) (.node (hd.o_95 P) (.node (hd.o_159 P) .nil .nil) .nil)) (.node (hd.o_47 P) (.node (hd.o_79 P) (.node (hd.o_143 P) .nil .nil) .nil) (.node (hd.o_111 P) (.node (hd.o_175 P) .nil .nil) .nil))) (.node (hd.o_23 P) (.node (hd.o_39 P) (.node (hd.o_71 P) (.node (hd.o_135 P) .nil .nil) .nil) (.node (hd.o_103 P) (.node (hd.o_167 P) .nil .nil) .nil)) (.node (hd.o_55 P) (.node (hd.o_87 P) (.node (hd.o_151 P) .nil .nil) .nil) (.node (hd.o_119 P) (.node (hd.o_183 P) .nil .nil) .nil)))) (.node (hd.o_11 P) (.node (hd.o_19 P) (.node (hd.o_35 P) (.node (hd.o_67 P) (.node (hd.o_131 P) .nil .nil) (.node (hd.o_195 P) .nil .nil)) (.node (hd.o_99 P) (.node (hd.o_163 P) .nil .nil) .nil)) (.node (hd.o_51 P) (.node (hd.o_83 P) (.node (hd.o_147 P) .nil .nil) .nil) (.node (hd.o_115 P) (.node (hd.o_179 P) .nil .nil) .nil))) (.node (hd.o_27 P) (.node (hd.o_43 P) (.node (hd.o_75 P) (.node (hd.o_139 P) .nil .nil) .nil) (.node (hd.o_107 P) (.node (hd.o_171 P) .nil .nil) .nil)) (.node (hd.o_59 P) (.node (hd.o_91 P) (.node (hd.o_155 P) .nil .nil) .nil) (.node (hd.o_123 P) (.node (hd.o_187 P) .nil .nil) .nil))))) (.node (boot_o_5 P) (.node (boot_o_9 P) (.node (hd.o_17 P) (.node (hd.o_33 P) (.node (hd.o_65 P) (.node (hd.o_129 P) .nil .nil) (.node (hd.o_193 P) .nil .nil)) (.node (hd.o_97 P) (.node (hd.o_161 P) .nil .nil) .nil)) (.node (hd.o_49 P) (.node (hd.o_81 P) (.node (hd.o_145 P) .nil .nil) .nil) (.node (hd.o_113 P) (.node (hd.o_177 P) .nil .nil) .nil))) (.node (hd.o_25 P) (.node (hd.o_41 P) (.node (hd.o_73 P) (.node (hd.o_137 P) .nil .nil) .nil) (.node (hd.o_105 P) (.node (hd.o_169 P) .nil .nil) .nil)) (.node (hd.o_57 P) (.node (hd.o_89 P) (.node (hd.o_153 P) .nil .nil) .nil) (.node (hd.o_121 P) (.node (hd.o_185 P) .nil .nil) .nil)))) (.node (hd.o_13 P) (.node (hd.o_21 P) (.node (hd.o_37 P) (.node (hd.o_69 P) (.node (hd.o_133 P) .nil .nil) .nil) (.node (hd.o_101 P) (.node (hd.o_165 P) .nil .nil) .nil)) (.node (hd.o_53 P) (.node (hd.o_85 P) (.node (hd.o_149 P) .nil .nil) .nil) (.node (hd.o_117 P) (.node (hd.o_181 P) .nil .nil) .nil))) (.node (hd.o_29 P) (.node (hd.o_45 P) (.node (hd.o_77 P) (.node (hd.o_141 P) .nil .nil) .nil) (.node (hd.o_109 P) (.node (hd.o_173 P) .nil .nil) .nil)) (.node (hd.o_61 P) (.node (hd.o_93 P) (.node (hd.o_157 P) .nil .nil) .nil) (.node (hd.o_125 P) (.node (hd.o_189 P) .nil .nil) .nil)))))) (.node (boot_o_2 P) (.node (boot_o_4 P) (.node (boot_o_8 P) (.node (hd.o_16 P) (.node (hd.o_32 P) (.node (hd.o_64 P) (.node (hd.o_128 P) .nil .nil) (.node (hd.o_192 P) .nil .nil)) (.node (hd.o_96 P) (.node (hd.o_160 P) .nil .nil) .nil)) (.node (hd.o_48 P) (.node (hd.o_80 P) (.node (hd.o_144 P) .nil .nil) .nil) (.node (hd.o_112 P) (.node (hd.o_176 P) .nil .nil) .nil))) (.node (hd.o_24 P) (.node (hd.o_40 P) (.node (hd.o_72 P) (.node (hd.o_136 P) .nil .nil) .nil) (.node (hd.o_104 P) (.node (hd.o_168 P) .nil .nil) .nil)) (.node (hd.o_56 P) (.node (hd.o_88 P) (.node (hd.o_152 P) .nil .nil) .nil) (.node (hd.o_120 P) (.node (hd.o_184 P) .nil .nil) .nil)))) (.node (hd.o_12 P) (.node (hd.o_20 P) (.node (hd.o_36 P) (.node (hd.o_68 P) (.node (hd.o_132 P) .nil .nil) .nil) (.node (hd.o_100 P) (.node (hd.o_164 P) .nil .nil) .nil)) (.node (hd.o_52 P) (.node (hd.o_84 P) (.node (hd.o_148 P) .nil .nil) .nil) (.node (hd.o_116 P) (.node (hd.o_180 P) .nil .nil) .nil))) (.node (hd.o_28 P) (.node (hd.o_44 P) (.node (hd.o_76 P) (.node (hd.o_140 P) .nil .nil) .nil) (.node (hd.o_108 P) (.node (hd.o_172 P) .nil .nil) .nil)) (.node (hd.o_60 P) (.node (hd.o_92 P) (.node (hd.o_156 P) .nil .nil) .nil) (.node (hd.o_124 P) (.node (hd.o_188 P) .nil .nil) .nil))))) (.node (boot_o_6 P) (.node (boot_o_10 P) (.node (hd.o_18 P) (.node (hd.o_34 P) (.node (hd.o_66 P) (.node (hd.o_130 P) .nil .nil) (.node (hd.o_194 P) .nil .nil)) (.node (hd.o_98 P) (.node (hd.o_162 P) .nil .nil) .nil)) (.node (hd.o_50 P) (.node (hd.o_82 P) (.node (hd.o_146 P) .nil .nil) .nil) (.node (hd.o_114 P) (.node (hd.o_178 P) .nil .nil) .nil))) (.node (hd.o_26 P) (.node (hd.o_42 P) (.node (hd.o_74 P) (.node (hd.o_138 P) .nil .nil) .nil) (.node (hd.o_106 P) (.node (hd.o_170 P) .nil .nil) .nil)) (.node (hd.o_58 P) (.node (hd.o_90 P) (.node (hd.o_154 P) .nil .nil) .nil) (.node (hd.o_122 P) (.node (hd.o_186 P) .nil .nil) .nil)))) (.node (hd.o_14 P) (.node (hd.o_22 P) (.node (hd.o_38 P) (.node (hd.o_70 P) (.node (hd.o_134 P) .nil .nil) .nil) (.node (hd.o_102 P) (.node (hd.o_166 P) .nil .nil) .nil)) (.node (hd.o_54 P) (.node (hd.o_86 P) (.node (hd.o_150 P) .nil .nil) .nil) (.node (hd.o_118 P) (.node (hd.o_182 P) .nil .nil) .nil))) (.node (hd.o_30 P) (.node (hd.o_46 P) (.node (hd.o_78 P) (.node (hd.o_142 P) .nil .nil) .nil) (.node (hd.o_110 P) (.node (hd.o_174 P) .nil .nil) .nil)) (.node (hd.o_62 P) (.node (hd.o_94 P) (.node (hd.o_158 P) .nil .nil) .nil) (.node (hd.o_126 P) (.node (hd.o_190 P) .nil .nil) .nil))))))
noncomputable def hd.view_39 : Program := view PySem.Challenge.pw_sj0106_01 [0, 2, 3, 4, 6, 7, 8, 9, 10, 11, 13, 14, 15, 16, 17]
noncomputable def hd.env : Env := { scope := PySem.Challenge.pw_sj0106_01.main.scope, locals := mainNs, globals := mainNs, cells := [], code := .ref 13, frame := some 14 }
noncomputable def hd.body : List Stmt := behindTheImports PySem.Challenge.pw_sj0106_01
noncomputable def hd.c : Code := .body hd.body hd.env
noncomputable def hd.sts1 : List Stmt := (hd.body.drop 0).take 5
noncomputable def hd.sts2 : List Stmt := (hd.body.drop 5).take 7
noncomputable def hd.sts3 : List Stmt := (hd.body.drop 12).take 6
noncomputable def hd.A0 (w : World) (os : OsState) : SharedT := ⟨hd.T0 w.params, 15, { }, Array.mk [], boot_drawn, 187, os⟩
noncomputable def hd.A1 (w : World) (os : OsState) : SharedT := ⟨hd.T1 w.params, 90, { }, Array.mk [], boot_drawn, 292, os⟩
noncomputable def hd.A2 (w : World) (os : OsState) : SharedT := ⟨hd.T2 w.params, 167, { }, Array.mk [], boot_drawn, 401, os⟩
noncomputable def hd.A3 (w : World) (os : OsState) : SharedT := ⟨hd.T3 w.params, 196, { }, Array.mk [], boot_drawn, 441, os⟩
noncomputable def hd.S0 (w : World) (os : OsState) : Shared := ⟨hd.H0 w.params, Array.mk [], boot_drawn, 187, os⟩
noncomputable def hd.S3 (w : World) (os : OsState) : Shared := ⟨hd.H3 w.params, Array.mk [], boot_drawn, 441, os⟩
theorem hd.pre (w : World) (os : OsState) : topGo treeTable PySem.Challenge.pw_sj0106_01 w 11 (some (.ref 6)) 12 ⟨boot_heap w.params, Array.mk [], boot_drawn, boot_toks, os⟩ (topStub PySem.Challenge.pw_sj0106_01) =
    some (hd.S0 w os, ⟨denote treeTable hd.c, hd.c, ⟨0, 0, 0, 0⟩, [topFrame ⟨0, 0, 0, 0⟩]⟩) := by kernel_rfl
theorem hd.block (w : World) (os : OsState) : segRun treeTable PySem.Challenge.pw_sj0106_01 w 11 (some (.ref 6)) 1 1 (hd.S0 w os) (blockOf hd.body hd.env hd.c ⟨0, 0, 0, 0⟩ [topFrame ⟨0, 0, 0, 0⟩]) =
    some (.next, (hd.A0 w os).abs, hd.c, ⟨0, 0, 0, 0⟩) := by kernel_rfl
theorem hd.part1 (w : World) (os : OsState) : segRunT treeTable PySem.Challenge.pw_sj0106_01 w 11 (some (.ref 6)) 1 499 (hd.A0 w os) (piecesOf hd.sts1 hd.env hd.c ⟨0, 0, 0, 0⟩ [topFrame ⟨0, 0, 0, 0⟩]) =
    some (.next, hd.A1 w os, hd.c, ⟨9, 0, 38, 16⟩) := by kernel_rfl
theorem hd.part2 (w : World) (os : OsState) : segRunT treeTable PySem.Challenge.pw_sj0106_01 w 11 (some (.ref 6)) 1 537 (hd.A1 w os) (piecesOf hd.sts2 hd.env hd.c ⟨9, 0, 38, 16⟩ [topFrame ⟨0, 0, 0, 0⟩]) =
    some (.next, hd.A2 w os, hd.c, ⟨45, 0, 99, 23⟩) := by kernel_rfl
theorem hd.part3 (w : World) (os : OsState) : segRunT treeTable PySem.Challenge.pw_sj0106_01 w 11 (some (.ref 6)) 1 152 (hd.A2 w os) (piecesOf hd.sts3 hd.env hd.c ⟨45, 0, 99, 23⟩ [topFrame ⟨0, 0, 0, 0⟩]) =
    some (.next, hd.A3 w os, hd.c, ⟨139, 0, 166, 71⟩) := by kernel_rfl
theorem hd.fin (w : World) (os : OsState) : topRun treeTable PySem.Challenge.pw_sj0106_01 w 11 (some (.ref 6)) 2 (hd.A3 w os).abs ⟨doneF .next, hd.c, ⟨139, 0, 166, 71⟩, [topFrame ⟨0, 0, 0, 0⟩]⟩ = some (hd.S3 w os) := by kernel_rfl
theorem hd.whole : hd.body = hd.sts1 ++ (hd.sts2 ++ (hd.sts3 ++ [])) := by kernel_rfl
theorem hd.rest {w : World} {N : Nat} {s r : Shared} {pos : Pos} (h : topRun treeTable PySem.Challenge.pw_sj0106_01 w 11 (some (.ref 6)) N s (restOf (hd.sts1 ++ (hd.sts2 ++ (hd.sts3 ++ []))) hd.env hd.c pos [topFrame ⟨0, 0, 0, 0⟩]) = some r) :
    topRun treeTable PySem.Challenge.pw_sj0106_01 w 11 (some (.ref 6)) N s (restOf hd.body hd.env hd.c pos [topFrame ⟨0, 0, 0, 0⟩]) = some r := by rw [← hd.whole] at h; exact h
theorem hd.run (w : World) (os : OsState) : topRun treeTable PySem.Challenge.pw_sj0106_01 w 11 (some (.ref 6)) (12 + (1 + (499 + (537 + (152 + 2))))) ⟨boot_heap w.params, Array.mk [], boot_drawn, boot_toks, os⟩ (topStub PySem.Challenge.pw_sj0106_01) = some (hd.S3 w os) :=
  go_top (hd.pre w os) (piece_block (hd.block w os) (hd.rest (piece_app (segRun_of (hd.part1 w os)) (piece_app (segRun_of (hd.part2 w os)) (piece_app (segRun_of (hd.part3 w os)) (piece_nil (hd.fin w os)))))))
theorem hd.said : PySem.Challenge.rw_sj0106_01.wellSaid = true := by kernel_rfl
noncomputable abbrev hd.K : Hook := kHook hd.heap_39 [2, 3, 15, 17, 18, 20, 21, 22, 25, 26, 34, 36, 37, 39, 40, 41, 43, 44, 46, 47, 48, 50, 51, 53, 54, 55, 57, 58, 60, 61, 62, 64, 65, 67, 68, 69, 71, 72, 74, 75, 76, 78, 79, 81, 82, 83, 84, 85, 86, 87, 97, 99, 100, 102, 103, 104, 106, 107, 109, 110, 111, 113, 114, 116, 117, 118, 120, 121, 123, 124, 125, 127, 128, 130, 131, 132, 134, 135, 137, 138, 139, 141, 142, 144, 145, 146, 148, 149, 151, 152, 153, 155, 156, 158, 159, 160, 161, 162, 163, 164, 167, 169, 170, 172, 173, 174, 177, 178, 179, 182, 183, 184, 186, 187, 189, 190, 191, 194, 195] (fun _ => by kernel_rfl)
theorem hd.left : LeftO PySem.Challenge.pw_sj0106_01 hd.view_39 [] (fun s => xlAt hd.view_39 [] s && recOk (RowW.records PySem.Challenge.rw_sj0106_01.row.toRowW) s) hd.K.obs hd.K.val 2496 :=
  LeftO.of_pieces (H₀ := boot_heap) (H₁ := hd.H3) (gs₀ := Array.mk []) (gs₁ := Array.mk []) (d₀ := boot_drawn) (d₁ := boot_drawn) (k₀ := boot_toks) (k₁ := 441) (m₀ := 11) (ann := some (.ref 6)) (M := 12 + (1 + (499 + (537 + (152 + 2)))))
    (boot_open (by kernel_rfl) (by kernel_rfl) (fun _ => by kernel_rfl)) (fun _ => by kernel_rfl) hd.run (by kernel_rfl) (fun _ => by kernel_rfl)
end

theorem filled : PySem.Challenge.rw_sj0106_01 = PySem.Challenge.rw_sj0106_01 ∧ hd.heap_39 = hd.heap_39 := by
  k_fill
  exact ⟨rfl, rfl⟩

section
open PySem.Spec PySem.Calls
open LCg (lst NsObj ns_obj fr_but lst_snoc)

/-- where a comprehension's turn must end: iterator, list, private part and ledger stand, the private part is of its kind, and R of the ledger -/
def CEnd (h₀ : Heap) (L : Addr) (m : Str → Option Value) (s₁ : Shared) (I : Addr) (oI : Obj) (D : Addr) (ys : List Value) (pa : List Addr) (Pv R : List (Addr × Obj) → Prop) (s₂ : Shared) : Prop :=
  ∃ h' tk pv nw, s₂ = { s₁ with heap := h', toks := tk } ∧ Fr h₀ L h' m ∧ News h₀ L h' ((I, oI) :: (D, lst ys) :: (pv ++ nw)) ∧ Pv pv ∧ (∀ p ∈ nw, p.1 ≠ I ∧ p.1 ≠ D ∧ p.1 ∉ pa) ∧ R nw

section
variable {prog : Program} {w : World} {A : Around} {h₀ : Heap} {L : Addr} {m : Str → Option Value}

def CTurn (prog : Program) (w : World) (A : Around) (h₀ : Heap) (L : Addr) (m : Str → Option Value) (ce : Env) (target : Expr) (ifs : List Expr) (elt : Expr) (s : Shared) (I D : Addr) (pa : List Addr)
    (P : Nat → Value → Prop) (Pv : List (Addr × Obj) → Prop) (J : Nat → List Value → List (Addr × Obj) → Prop) : Prop :=
  ∀ i v ys pv nw oI h tk (E' : Value → Shared → Prop), P i v → J i ys nw → Pv pv → Fr h₀ L h m → News h₀ L h ((I, oI) :: (D, lst ys) :: (pv ++ nw)) → (∀ p ∈ nw, p.1 ≠ I ∧ p.1 ≠ D ∧ p.1 ∉ pa) →
    wpAny (model prog w) A (assign target ce v) (fun _ s₂ =>
      wpAny (model prog w) A (forIn ifs true fun c r => if r = true then do let ok ← isTrue c ce (eval c ce); pure (ForInStep.yield ok) else pure (ForInStep.yield r)) (fun ok s₃ =>
        if ok = true then wpAny (model prog w) A (eval elt ce) (fun y s₄ => CEnd h₀ L m s I oI D ys pa Pv (J (i + 1) (ys ++ [y])) s₄) E' s₃
        else CEnd h₀ L m s I oI D ys pa Pv (J (i + 1) ys) s₃) E' s₂) E' { s with heap := h, toks := tk }

theorem codeAny_cLoop {elt target iter : Expr} {ifs : List Expr} {scope : Scope} {pos : Pos} {it acc : Value} {ce : Env} {R : Result → Shared → Prop} (Iv : Nat → Shared → Prop)
    (turn : ∀ n s, Iv n s → wpAny (model prog w) A (pyNext it) (fun r s₁ => match r with
      | none => R (.ok .next) s₁
      | some v => wpAny (model prog w) A (letOwnedTupleGo target it v) (fun _ s₁' => wpAny (model prog w) A (assign target ce v) (fun _ s₂ =>
          wpAny (model prog w) A (forIn ifs true fun c r => if r = true then do let ok ← isTrue c ce (eval c ce); pure (ForInStep.yield ok) else pure (ForInStep.yield r)) (fun ok s₃ =>
            if ok = true then wpAny (model prog w) A (eval elt ce) (fun x s₄ =>
              wpAny (model prog w) A (call (.builtin "list.append") [acc, x]) (fun _ s₅ => ∃ k, k < n ∧ Iv k s₅) (notedBy (model prog w) A ce fun e s' => R (.error e) s') s₄) (notedBy (model prog w) A ce fun e s' => R (.error e) s') s₃
            else ∃ k, k < n ∧ Iv k s₃) (notedBy (model prog w) A ce fun e s' => R (.error e) s') s₂) (notedBy (model prog w) A ce fun e s' => R (.error e) s') s₁') (notedBy (model prog w) A ce fun e s' => R (.error e) s') s₁)
      (notedBy (model prog w) A ce fun e s' => R (.error e) s') s)
    (n : Nat) (s : Shared) (h : Iv n s) : codeAny (model prog w) A (.compLoop (.ListComp elt [⟨target, iter, ifs, 0⟩] scope pos) 0 it acc ce) R s := by
  refine codeAny_loop rfl Iv (fun k s' hI => ?_) n h
  show wpAny _ A ((compTurn (.ListComp elt [⟨target, iter, ifs, 0⟩] scope pos) 0 it acc ce).onRaise (fun x => do noteFrame x ce; theTreesLotGoes x)) _ _ s'
  refine wpAny_noted ?_
  rw [compTurn_list]
  refine wpAny_bind (wpAny_standAt (wpAny_bind (wpAny_mono (turn k s' hI) (fun r s₁ h₁ => ?_) fun _ _ x => x)))
  cases r with
  | none => exact wpAny_pure h₁
  | some v =>
    refine wpAny_bind (wpAny_mono h₁ (fun _ s₁' h₁' => wpAny_bind (wpAny_mono h₁' (fun _ s₂ h₂ => wpAny_bind (wpAny_mono h₂ (fun ok s₃ h₃ => ?_) fun _ _ x => x)) fun _ _ x => x)) fun _ _ x => x)
    cases ok with
    | false => exact wpAny_pure ⟨rfl, h₃⟩
    | true =>
      refine wpAny_bind (wpAny_bind (wpAny_mono h₃ (fun y s₄ h₄ => ?_) fun _ _ x => x))
      exact wpAny_bind (wpAny_mono h₄ (fun _ s₅ h₅ => wpAny_pure (wpAny_pure ⟨rfl, h₅⟩)) fun _ _ x => x)

theorem cLoop {elt target iter : Expr} {ifs : List Expr} {scope : Scope} {pos : Pos} {ce : Env} {R : Result → Shared → Prop} {s : Shared} {I D : Addr} {fp pa : List Addr} {n : Nat} {P : Nat → Value → Prop} {St : Nat → Heap → Prop}
    {S Pv : List (Addr × Obj) → Prop} {J : Nat → List Value → List (Addr × Obj) → Prop} {h₁ : Heap} {tk₁ : Nat} {pv nw : List (Addr × Obj)}
    (W : Walks prog w A I fp [I] n P St) (hsz : n ≤ sizeLine) (hIo : ∀ i h, St i h → ∃ o, h.get? I = some o)
    (hSt : ∀ i h h' o nw, St i h → h.get? I = some o → h'.get? I = some o → News h₀ L h' nw → S nw → St i h') (hJS : ∀ i ys nw, J i ys nw → S nw)
    (hgo : ∀ i (s' : Shared) v (Q' : Unit → Shared → Prop) (E' : Value → Shared → Prop), St i s'.heap → Q' () s' → wpAny (model prog w) A (letOwnedTupleGo target (.ref I) v) Q' E' s')
    (turn : CTurn prog w A h₀ L m ce target ifs elt s I D pa P Pv J)
    (hpa : ∀ pv, Pv pv → pv.map (·.1) = pa) (hIpa : I ∉ pa) (hDpa : D ∉ pa) (hDf : D ∉ fp) (hDI : D ≠ I) (hIL : L ≠ I) (hI₀ : h₀.get? I = none)
    (F : Fr h₀ L h₁ m) (N : News h₀ L h₁ ((D, lst []) :: (pv ++ nw))) (hst : St 0 h₁) (hP : Pv pv) (hoff : ∀ p ∈ nw, p.1 ≠ I ∧ p.1 ≠ D ∧ p.1 ∉ pa) (hJ : J 0 [] nw)
    (hRR : ∀ h tk ys pv nw, Fr h₀ L h m → News h₀ L h ((D, lst ys) :: (pv ++ nw)) → Pv pv → (∀ p ∈ nw, p.1 ≠ I ∧ p.1 ≠ D ∧ p.1 ∉ pa) → J n ys nw → R (.ok .next) { s with heap := h, toks := tk }) :
    codeAny (model prog w) A (.compLoop (.ListComp elt [⟨target, iter, ifs, 0⟩] scope pos) 0 (.ref I) (.ref D) ce) R { s with heap := h₁, toks := tk₁ } := by
  have apart : ∀ {pv nw : List (Addr × Obj)}, Pv pv → (∀ p ∈ nw, p.1 ≠ I ∧ p.1 ≠ D ∧ p.1 ∉ pa) → ∀ p ∈ pv ++ nw, p.1 ≠ I ∧ p.1 ≠ D := by
    intro pv nw hP' ho p hp
    rcases List.mem_append.mp hp with hp | hp
    · have hm : p.1 ∈ pa := by rw [← hpa pv hP']; exact List.mem_map_of_mem hp
      exact ⟨fun e => hIpa (e ▸ hm), fun e => hDpa (e ▸ hm)⟩
    · exact ⟨(ho p hp).1, (ho p hp).2.1⟩
  have hDL : D ≠ L := (N _ List.mem_cons_self).2.1
  have hD₀ : h₀.get? D = none := (N _ List.mem_cons_self).2.2
  refine codeAny_cLoop (fun k s' => ∃ h' tk i ys pv nw, s' = { s with heap := h', toks := tk } ∧ i ≤ n ∧ k = n + 1 - i ∧ ys.length ≤ i ∧ St i h' ∧ Fr h₀ L h' m ∧ News h₀ L h' ((D, lst ys) :: (pv ++ nw)) ∧ Pv pv ∧
    (∀ p ∈ nw, p.1 ≠ I ∧ p.1 ≠ D ∧ p.1 ∉ pa) ∧ J i ys nw) ?_ (n + 1) _ ⟨h₁, tk₁, 0, [], pv, nw, rfl, Nat.zero_le _, rfl, Nat.le_refl _, hst, F, N, hP, hoff, hJ⟩
  rintro k s' ⟨h', tk, i, ys, pv', nw', rfl, hi, rfl, hyl, hst', F', N', hP', hoff', hJ'⟩
  have offI : ∀ p ∈ (D, lst ys) :: (pv' ++ nw'), p.1 ≠ I := fun p hp => by
    rcases List.mem_cons.mp hp with rfl | hp
    · exact hDI
    · exact (apart hP' hoff' p hp).1
  by_cases hlt : i < n
  · refine W.item i _ _ _ hlt hst' fun v h₂ tk₂ hPv hst₂ hk₂ => ?_
    refine hgo (i + 1) _ v _ _ hst₂ ?_
    obtain ⟨oI, heI⟩ := hIo _ _ hst₂
    have F₂ : Fr h₀ L h₂ m := fr_but F' hk₂ hIL hI₀
    have N₂ : News h₀ L h₂ ((I, oI) :: (D, lst ys) :: (pv' ++ nw')) := fun p hp => by
      rcases List.mem_cons.mp hp with rfl | hp
      · exact ⟨heI, Ne.symm hIL, hI₀⟩
      · exact ⟨hk₂ _ _ (by simpa using offI p hp) (N' p hp).1, (N' p hp).2⟩
    have hlt' : n + 1 - (i + 1) < n + 1 - i := by omega
    refine wpAny_mono (turn i v ys pv' nw' oI h₂ tk₂ _ hPv hJ' hP' F₂ N₂ hoff') (fun _ s₂ t₂ => wpAny_mono t₂ (fun ok s₃ t₃ => ?_) fun _ _ x => x) fun _ _ x => x
    cases ok with
    | false =>
      simp only [Bool.false_eq_true, if_false] at t₃ ⊢
      obtain ⟨h₃, tk₃, pv₃, nw₃, rfl, F₃, N₃, hP₃, hoff₃, hJ₃⟩ := t₃
      have zI := (N₃ (I, oI) List.mem_cons_self).1
      have N₃' : News h₀ L h₃ ((D, lst ys) :: (pv₃ ++ nw₃)) := fun p hp => N₃ p (List.mem_cons_of_mem _ hp)
      exact ⟨_, hlt', h₃, tk₃, i + 1, ys, pv₃, nw₃, rfl, hlt, rfl, Nat.le_succ_of_le hyl, hSt _ _ _ _ _ hst₂ heI zI (fun p hp => N₃' p (List.mem_cons_of_mem _ (List.mem_append_right _ hp))) (hJS _ _ _ hJ₃), F₃, N₃', hP₃, hoff₃, hJ₃⟩
    | true =>
      simp only [if_true] at t₃ ⊢
      refine wpAny_mono t₃ (fun y s₄ t₄ => ?_) fun _ _ x => x
      obtain ⟨h₃, tk₃, pv₃, nw₃, rfl, F₃, N₃, hP₃, hoff₃, hJ₃⟩ := t₄
      have zI := (N₃ (I, oI) List.mem_cons_self).1
      have N₃' : News h₀ L h₃ ((D, lst ys) :: (pv₃ ++ nw₃)) := fun p hp => N₃ p (List.mem_cons_of_mem _ hp)
      have zD := (N₃' _ List.mem_cons_self).1
      have hst₃ : St (i + 1) h₃ := hSt _ _ _ _ _ hst₂ heI zI (fun p hp => N₃' p (List.mem_cons_of_mem _ (List.mem_append_right _ hp))) (hJS _ _ _ hJ₃)
      refine append_at (hsz := by show ys.toArray.size ≤ sizeLine; rw [List.size_toArray]; exact Nat.le_trans (Nat.le_trans hyl hi) hsz) zD fun h₅ hs₅ hD₅ => ?_
      refine ⟨_, hlt', h₅, tk₃, i + 1, ys ++ [y], pv₃, nw₃, rfl, hlt, rfl, by rw [List.length_append, List.length_singleton]; exact Nat.succ_le_succ hyl, W.frame _ _ _ hst₃ fun b hb o e => hs₅.extBut b o (fun q => hDf (q ▸ hb)) e,
        F₃.change hs₅ hDL hD₀, fun p hp => ?_, hP₃, hoff₃, hJ₃⟩
      rcases List.mem_cons.mp hp with rfl | hp
      · exact ⟨hD₅.trans (congrArg some (lst_snoc ys y)), hDL, hD₀⟩
      · exact ⟨hs₅.extBut _ _ (apart hP₃ hoff₃ p hp).2 (N₃' p (List.mem_cons_of_mem _ hp)).1, (N₃' p (List.mem_cons_of_mem _ hp)).2⟩
  · obtain rfl : i = n := Nat.le_antisymm hi (Nat.not_lt.mp hlt)
    refine W.done _ _ _ hst' fun h₂ tk₂ hk₂ => ?_
    exact hRR h₂ tk₂ ys pv' nw' (fr_but F' hk₂ hIL hI₀) (fun p hp => ⟨hk₂ _ _ (by simpa using offI p hp) (N' p hp).1, (N' p hp).2⟩) hP' hoff' hJ'
end
end

section
open PySem.Spec PySem.Calls
open LCg (lst NsObj ns_obj fr_but lst_snoc)

abbrev srcO (tup : Bool) (its : List Value) (k : Nat) : Obj := { cls := .type (if tup then "tuple" else "list"), data := .seq its.toArray k }

def PvN (C : Addr) (pv : List (Addr × Obj)) : Prop := ∃ oC m', pv = [(C, oC)] ∧ NsObj oC m'

def SrcSt (tup : Bool) (I ax : Addr) (its : List Value) (i : Nat) (h : Heap) : Prop := if tup = true then h.IsTupleIter I ax i ∧ h.IsTuple ax its.toArray else h.IsListIter I ax i ∧ h.IsList ax its.toArray

section
variable {prog : Program} {w : World} {A : Around} {E : Value → Shared → Prop} {s : Shared} {h₀ : Heap} {L : Addr} {m : Str → Option Value} {env : Env}

theorem srcWalks (tup : Bool) (hh : A.handled = none) (I ax : Addr) (hne : ax ≠ I) (its : List Value) :
    Walks prog w A I [I, ax] [I] its.length (fun i v => its[i]? = some v) (SrcSt tup I ax its) := by
  cases tup with
  | true =>
    have W := Walks.tuple (prog := prog) (w := w) hh I ax hne its.toArray
    simp only [List.size_toArray, List.getElem?_toArray] at W
    unfold SrcSt
    simpa using W
  | false =>
    have W := Walks.list (prog := prog) (w := w) hh I ax hne its.toArray
    simp only [List.size_toArray, List.getElem?_toArray] at W
    unfold SrcSt
    simpa using W

theorem srcIo {tup : Bool} {I ax : Addr} {its : List Value} {i : Nat} {h : Heap} (st : SrcSt tup I ax its i h) : ∃ o, h.get? I = some o := by
  cases tup <;> simp [SrcSt] at st <;> obtain ⟨⟨o, e, _⟩, _⟩ := st <;> exact ⟨o, e⟩

theorem srcSt {tup : Bool} {I ax : Addr} {its : List Value} {k i : Nat} {h h' : Heap} {o : Obj} {nw : List (Addr × Obj)} (st : SrcSt tup I ax its i h) (e : h.get? I = some o) (e' : h'.get? I = some o) (N : News h₀ L h' nw) (S : (ax, srcO tup its k) ∈ nw) :
    SrcSt tup I ax its i h' := by
  have hs := (N _ S).1
  cases tup with
  | true =>
    simp only [SrcSt, if_true] at st ⊢
    obtain ⟨⟨o1, e1, r1⟩, _⟩ := st
    rw [e] at e1; cases e1
    exact ⟨⟨o, e', r1⟩, ⟨_, hs, rfl, k, rfl⟩⟩
  | false =>
    simp only [SrcSt, Bool.false_eq_true, if_false] at st ⊢
    obtain ⟨⟨o1, e1, r1⟩, _⟩ := st
    rw [e] at e1; cases e1
    exact ⟨⟨o, e', r1⟩, ⟨_, hs, rfl, k, rfl⟩⟩

theorem srcGo {tup : Bool} {I ax : Addr} {its : List Value} {i : Nat} {target : Expr} {v : Value} {Q' : Unit → Shared → Prop} {s' : Shared} (st : SrcSt tup I ax its i s'.heap) (h : Q' () s') :
    wpAny (model prog w) A (letOwnedTupleGo target (.ref I) v) Q' E s' := by
  cases tup with
  | true => simp only [SrcSt, if_true] at st; exact letGo_tupleiter st.1 h
  | false => simp only [SrcSt, Bool.false_eq_true, if_false] at st; exact letGo_listiter st.1 h

theorem srcIter {tup : Bool} {ax : Addr} {its : List Value} {k : Nat} {nw : List (Addr × Obj)} {Q : Value → Shared → Prop} (N : News h₀ L s.heap nw) (S : (ax, srcO tup its k) ∈ nw)
    (h : ∀ oI, oI.isFreed = false → SrcSt tup s.heap.objs.size ax its 0 (s.heap.push oI) → Q (.ref s.heap.objs.size) { s with heap := s.heap.push oI }) : wpAny (model prog w) A (pyIter (.ref ax)) Q E s := by
  have hs := (N _ S).1
  cases tup with
  | true =>
    have ht : s.heap.IsTuple ax its.toArray := ⟨_, hs, rfl, k, rfl⟩
    refine wpAny_pyIter_tuple ht (h _ rfl ?_)
    simp only [SrcSt, if_true]
    exact ⟨⟨_, Heap.get?_push_size _ rfl, rfl, rfl⟩, ⟨_, Heap.get?_push_of_some _ hs, rfl, k, rfl⟩⟩
  | false =>
    have ht : s.heap.IsList ax its.toArray := ⟨_, hs, rfl, k, rfl⟩
    refine wpAny_pyIter_list ht (h _ rfl ?_)
    simp only [SrcSt, Bool.false_eq_true, if_false]
    exact ⟨⟨_, Heap.get?_push_size _ rfl, rfl, rfl⟩, ⟨_, Heap.get?_push_of_some _ hs, rfl, k, rfl⟩⟩

def FinE (h₀ : Heap) (L : Addr) (m : Str → Option Value) (s : Shared) (Q : Value → Shared → Prop) (ys : List Value) (news : List (Addr × Obj)) : Prop :=
  ∀ D h tk, Fr h₀ L h m → News h₀ L h ((D, lst ys) :: news) → (∀ p ∈ news, p.1 ≠ D) → Q (.ref D) { s with heap := h, toks := tk }
def FinA (h₀ : Heap) (L : Addr) (m : Str → Option Value) (s : Shared) (y : Str) (Q : Flow → Shared → Prop) (ys : List Value) (news : List (Addr × Obj)) : Prop :=
  ∀ D h tk, Fr h₀ L h (fun z => if z = y then some (.ref D) else m z) → News h₀ L h ((D, lst ys) :: news) → (∀ p ∈ news, p.1 ≠ D) → Q .next { s with heap := h, toks := tk }

/-- the iterable is reached: what must be said of the turns -/
def CSrc (prog : Program) (w : World) (A : Around) (h₀ : Heap) (L : Addr) (m : Str → Option Value) (env : Env) (target : Expr) (ifs : List Expr) (elt : Expr) (scope : Scope) (cl : List (Str × Addr)) (Fin : Shared → List Value → List (Addr × Obj) → Prop) (xv : Value) (s₁ : Shared) : Prop :=
  ∃ ax its k tup nw J, xv = .ref ax ∧ A.handled = none ∧ Fr h₀ L s₁.heap m ∧ News h₀ L s₁.heap nw ∧ (ax, srcO tup its k) ∈ nw ∧ its.length ≤ sizeLine ∧ J 0 [] nw ∧ (∀ i ys nw, J i ys nw → (ax, srcO tup its k) ∈ nw) ∧
    (∀ C I D, C ≠ I → C ≠ D → D ≠ I → C ≠ L → h₀.get? C = none → CTurn prog w A h₀ L m (compEnvC scope cl C env) target ifs elt s₁ I D [C] (fun i v => its[i]? = some v) (PvN C) J) ∧ ∀ ys nw, J its.length ys nw → Fin s₁ ys nw

theorem cBlock {elt target iter : Expr} {ifs : List Expr} {scope : Scope} {cl : List (Str × Addr)} {pos : Pos} {s₁ : Shared} {ax : Addr} {its : List Value} {k : Nat} {tup : Bool} {nw : List (Addr × Obj)} {J : Nat → List Value → List (Addr × Obj) → Prop}
    {RR : Value → Addr → Result → Shared → Prop}
    (hcell : ∀ y ∈ scope.names, y.2 ≠ .cell) (hkind : scope.kind = .function) (hh : A.handled = none) (F : Fr h₀ L s₁.heap m) (N : News h₀ L s₁.heap nw) (hm : (ax, srcO tup its k) ∈ nw) (hsz : its.length ≤ sizeLine)
    (hJ : J 0 [] nw) (hJS : ∀ i ys nw, J i ys nw → (ax, srcO tup its k) ∈ nw)
    (turn : ∀ C I D, C ≠ I → C ≠ D → D ≠ I → C ≠ L → h₀.get? C = none → CTurn prog w A h₀ L m (compEnvC scope cl C env) target ifs elt s₁ I D [C] (fun i v => its[i]? = some v) (PvN C) J)
    (hRR : ∀ D C h tk m' ys nw, Fr h₀ L h m → News h₀ L h ((D, lst ys) :: nw) → (∀ p ∈ nw, p.1 ≠ D) → h.Ns C m' → h₀.get? C = none → C ≠ L → C ≠ D → (∀ p ∈ nw, p.1 ≠ C) → J its.length ys nw → RR (.ref D) C (.ok .next) { s₁ with heap := h, toks := tk }) :
    wpAny (model prog w) A (pyIter (.ref ax)) (fun it s₂ => wpAny (model prog w) A (newList []) (fun acc s₃ => wpAny (model prog w) A (newFunctionEnv scope env.globals cl [] env.qual none .none (some env)) (fun cenv s₄ =>
      codeAny (model prog w) A (.compStart (.ListComp elt [⟨target, iter, ifs, 0⟩] scope pos) 0 it acc { cenv with scope := relabel scope env }) (RR acc cenv.locals) s₄) E s₃) E s₂) E s₁ := by
  refine srcIter N hm fun oI hfree st => ?_
  refine wpAny_newObj_type (wpAny_newFunctionEnv hcell (by intro y hy; simp at hy) (fun h₁ hns₁ hsb₁ => ?_) hkind)
  dsimp only at hns₁ hsb₁ ⊢
  have hlt : ax < s₁.heap.objs.size := Heap.lt_size (N _ hm).1
  generalize hI : s₁.heap.objs.size = I at st ⊢
  have hltI : ax < I := by rw [← hI]; exact hlt
  have hneI : ax ≠ I := Nat.ne_of_lt hltI
  generalize hH1 : s₁.heap.push oI = H1 at st hns₁ hsb₁ ⊢
  have hz1 : H1.objs.size = I + 1 := by rw [← hH1, Heap.size_push, hI]
  generalize hH2 : H1.push { cls := .type "list", dict := none, data := .seq ([] : List Value).toArray } = H2 at hns₁ hsb₁ ⊢
  have hz2 : H2.objs.size = I + 2 := by rw [← hH2, Heap.size_push, hz1]
  rw [hz1]
  rw [hz2] at hns₁ hsb₁ ⊢
  have up1 : ∀ b o, s₁.heap.get? b = some o → H1.get? b = some o := fun b o e => by rw [← hH1]; exact Heap.get?_push_of_some _ e
  have up2 : ∀ b o, H1.get? b = some o → H2.get? b = some o := fun b o e => by rw [← hH2]; exact Heap.get?_push_of_some _ e
  have up3 : ∀ b o, H2.get? b = some o → h₁.get? b = some o := fun b o e => hsb₁.extBut b o (by have := Heap.lt_size e; rw [hz2] at this; exact Nat.ne_of_lt this) (Heap.get?_push_of_some _ e)
  have old : ∀ b o, s₁.heap.get? b = some o → h₁.get? b = some o := fun b o e => up3 b o (up2 b o (up1 b o e))
  have below : ∀ b o, s₁.heap.get? b = some o → b < I := fun b o e => by rw [← hI]; exact Heap.lt_size e
  have fresh₀ : ∀ a, I ≤ a → h₀.get? a = none := fun a ha => by
    cases e : h₀.get? a with
    | none => rfl
    | some o' => exact absurd (below _ _ (F.keep a o' e)) (Nat.not_lt.mpr ha)
  have hacc : h₁.get? (I + 1) = some (lst []) := up3 _ _ (by rw [← hH2, ← hz1]; exact Heap.get?_push_size _ rfl)
  have hLlt : L < I := by rw [← hI]; exact F.ns.lt
  have hst₁ : SrcSt tup I ax its 0 h₁ := (srcWalks (prog := prog) (w := w) tup hh I ax hneI its).frame _ _ _ st fun b _ o e => up3 b o (up2 b o e)
  obtain ⟨oC, heC, hoC⟩ := ns_obj hns₁
  have off₀ : ∀ p ∈ nw, p.1 ≠ I ∧ p.1 ≠ I + 1 ∧ p.1 ∉ [I + 2] := fun p hp => by
    have := below _ _ (N p hp).1
    refine ⟨?_, ?_, ?_⟩
    · exact Nat.ne_of_lt this
    · exact Nat.ne_of_lt (Nat.lt_succ_of_lt this)
    · intro hq; exact Nat.lt_irrefl _ (Nat.lt_trans (List.mem_singleton.mp hq ▸ this) (by omega : I < I + 2))
  have N₁ : News h₀ L h₁ ((I + 1, lst []) :: ([(I + 2, oC)] ++ nw)) := fun p hp => by
    rcases List.mem_cons.mp hp with rfl | hp
    · exact ⟨hacc, Nat.ne_of_gt (Nat.lt_succ_of_lt hLlt), fresh₀ _ (Nat.le_succ _)⟩
    · rcases List.mem_cons.mp hp with rfl | hp
      · exact ⟨heC, Nat.ne_of_gt (Nat.lt_trans hLlt (by omega)), fresh₀ _ (by omega)⟩
      · exact ⟨old _ _ (N p hp).1, (N p hp).2⟩
  have loop : ∀ s₃ : Shared, s₃ = { s₁ with heap := h₁, toks := s₁.toks + ([] : List (Str × Value)).length } →
      codeAny (model prog w) A (.compLoop (.ListComp elt [⟨target, iter, ifs, 0⟩] scope pos) 0 (.ref I) (.ref (I + 1)) (compEnvC scope cl (I + 2) env)) (RR (.ref (I + 1)) (I + 2)) s₃ := by
    rintro s₃ rfl
    refine cLoop (S := fun nw => (ax, srcO tup its k) ∈ nw) (Pv := PvN (I + 2)) (pa := [I + 2]) (J := J) (srcWalks tup hh I ax hneI its) hsz (fun i h st => srcIo st) (fun i h h' o nw st e e' N S => srcSt st e e' N S) hJS
      (fun i s' v Q' E' st h => srcGo st h) (turn (I + 2) I (I + 1) (by simp) (by simp) (by simp) (Nat.ne_of_gt (Nat.lt_trans hLlt (by omega))) (fresh₀ _ (by omega))) ?_ (by simp) (by simp) ?_ (by simp) (Nat.ne_of_lt hLlt) (fresh₀ _ (Nat.le_refl _))
      (F.keeps old) N₁ hst₁ ⟨oC, _, rfl, hoC⟩ off₀ hJ ?_
    · rintro pv ⟨oC, m', rfl, _⟩; rfl
    · intro hq
      rcases List.mem_cons.mp hq with hq | hq
      · exact absurd hq (by simp)
      · have : I + 1 = ax := List.mem_singleton.mp hq
        rw [← this] at hltI; exact absurd hltI (Nat.not_lt.mpr (Nat.le_succ _))
    · rintro h tk ys pv nw' F' N' ⟨oC', m', rfl, hn'⟩ off' hJ'
      refine hRR (I + 1) (I + 2) h tk m' ys nw' F' (fun p hp => N' p ?_) (fun p hp => (off' p hp).2.1) (hn'.ns (N' (I + 2, oC') (by simp)).1) (fresh₀ _ (by omega)) (Nat.ne_of_gt (Nat.lt_trans hLlt (by omega))) (by simp) (fun p hp => by simpa using (off' p hp).2.2) hJ'
      rcases List.mem_cons.mp hp with rfl | hp
      · exact List.mem_cons_self
      · exact List.mem_cons_of_mem _ (List.mem_append_right _ hp)
  exact codeAny_compStart_list (loop _ rfl) ((srcWalks tup hh I ax hneI its).self 0 _ _ _ hst₁ (loop _ rfl))

theorem compE {elt target iter : Expr} {ifs : List Expr} {scope : Scope} {cl : List (Str × Addr)} {pos : Pos} {Q : Value → Shared → Prop} (_F₀ : Fr h₀ L s.heap m)
    (hclos : closureFor scope env = pure cl) (hcell : ∀ y ∈ scope.names, y.2 ≠ .cell) (hkind : scope.kind = .function) (hnames : ∀ y ∈ scope.names, y.2 = .local → scope.names.lookup y.1 = some .local)
    (h : wpAny (model prog w) A (eval iter env) (CSrc prog w A h₀ L m env target ifs elt scope cl (fun s₂ => FinE h₀ L m s₂ Q)) E s)
    (hs : ∀ x, foldedSetIterable iter env x = pure x := by intro _; rfl) :
    wpAny (model prog w) A (eval (.ListComp elt [⟨target, iter, ifs, 0⟩] scope pos) env) Q E s := by
  rw [eval_ListComp]
  refine wpAny_comprehension_free (use := none) rfl hs hclos hkind hnames (wpAny_mono h (fun xv s₁ h₁ => ?_) fun _ _ e => e)
  obtain ⟨ax, its, k, tup, nw, J, rfl, hh, F, N, hm, hsz, hJ, hJS, turn, fin⟩ := h₁
  refine cBlock hcell hkind hh F N hm hsz hJ hJS turn ?_
  intro D C h tk m' ys nw' F' N' oD hn hC₀ hCL hCD oC hJ'
  refine ⟨m', hn, fun h'' hs'' => fin ys nw' hJ' D h'' tk (F'.change hs'' hCL hC₀) (fun p hp => ?_) oD⟩
  refine ⟨hs''.extBut _ _ ?_ (N' p hp).1, (N' p hp).2⟩
  rcases List.mem_cons.mp hp with rfl | hp
  · exact Ne.symm hCD
  · exact oC p hp

theorem compA {elt target iter : Expr} {ifs : List Expr} {y : Str} {py : Pos} {scope : Scope} {cl : List (Str × Addr)} {pos spos : Pos} {Q : Flow → Shared → Prop} (F₀ : Fr h₀ L s.heap m) (hLe : env.locals = L)
    (hsw : swapsWith (.ListComp elt [⟨target, iter, ifs, 0⟩] scope pos) (some (.Name y py)) spos.line env = pure true)
    (hclos : closureFor scope env = pure cl) (hcell : ∀ y ∈ scope.names, y.2 ≠ .cell) (hkind : scope.kind = .function) (hnames : ∀ y ∈ scope.names, y.2 = .local → scope.names.lookup y.1 = some .local)
    (hy : env.kindOf y = some .local) (hp : (env.scope.kind == .class || (env.scope.kind == .module && env.locals != env.globals)) = false)
    (h : wpAny (model prog w) A (eval iter env) (CSrc prog w A h₀ L m env target ifs elt scope cl (fun s₂ => FinA h₀ L m s₂ y Q)) E s)
    (hs : ∀ x, foldedSetIterable iter env x = pure x := by intro _; rfl) :
    wpAny (model prog w) A (exec (.Assign [.Name y py] (.ListComp elt [⟨target, iter, ifs, 0⟩] scope pos) spos) env) Q E s := by
  subst hLe
  rw [exec_Assign_Name_used _ _ _ _ hsw]
  refine wpAny_bind (wpAny_standAt (wpAny_bind ?_))
  show wpAny _ A (do let _ ← comprehension (.ListComp elt [⟨target, iter, ifs, 0⟩] scope pos) scope env _ (newList []) false (eval iter env) (some (assign (.Name y py) env))) _ _ s
  refine wpAny_bind (wpAny_mono (wpAny_comprehension_free (use := some (assign (.Name y py) env)) (Q := fun _ s' => Q .next s') rfl hs hclos hkind hnames
    (wpAny_mono h (fun xv s₁ h₁ => ?_) fun _ _ e => e)) (fun _ s' hq => wpAny_pure (wpAny_pure hq)) fun _ _ e => e)
  obtain ⟨ax, its, k, tup, nw, J, rfl, hh, F, N, hm, hsz, hJ, hJS, turn, fin⟩ := h₁
  refine cBlock hcell hkind hh F N hm hsz hJ hJS turn ?_
  intro D C h tk m' ys nw' F' N' oD hn hC₀ hCL hCD oC hJ'
  show wpAny _ A (assign (.Name y py) env (.ref D)) _ _ _
  refine wpAny_assign_Name (wpAny_storeName_local hy F'.ns (fun h₂ hn₂ hs₂ => ?_) hp)
  have hL₀ : h₀.get? env.locals = none := Heap.get?_none_of_le F'.above
  have F₂ : Fr h₀ env.locals h₂ (fun z => if z = y then some (.ref D) else m z) := ⟨hn₂, fun b o e => hs₂.extBut b o (fun q => by rw [q, hL₀] at e; cases e) (F'.keep b o e), F'.above⟩
  refine ⟨m', hn.sameBut hs₂ hCL, fun h'' hs'' => fin ys nw' hJ' D h'' _ (F₂.change hs'' hCL hC₀) (fun p hp => ?_) oD⟩
  have z : h₂.get? p.1 = some p.2 := hs₂.extBut _ _ (N' p hp).2.1 (N' p hp).1
  refine ⟨hs''.extBut _ _ ?_ z, (N' p hp).2⟩
  rcases List.mem_cons.mp hp with rfl | hp
  · exact Ne.symm hCD
  · exact oC p hp
end
end

section
open PySem.Spec PySem.Calls
open LCg (lst NsObj ns_obj fr_but lst_snoc)

/-- the names hold the values -/
def Holds (m : Str → Option Value) : List Str → List Value → Prop
  | x :: xs, v :: vs => m x = some v ∧ Holds m xs vs
  | _, _ => True

section
variable {prog : Program} {w : World} {A : Around} {E : Value → Shared → Prop} {s : Shared} {h₀ : Heap} {L C : Addr} {m : Str → Option Value} {env : Env} {scope : Scope} {cl : List (Str × Addr)}

theorem Holds.other {m : Str → Option Value} {x : Str} {v : Value} : ∀ {xs : List Str} {vs : List Value}, x ∉ xs → Holds m xs vs → Holds (fun y => if y = x then some v else m y) xs vs
  | [], _, _, _ => trivial
  | _ :: _, [], _, _ => trivial
  | y :: ys, v' :: _, hx, h => ⟨by show (if y = x then some v else m y) = some v'; rw [if_neg (fun e => hx (by rw [e]; exact List.mem_cons_self))]; exact h.1, Holds.other (fun hm => hx (List.mem_cons_of_mem _ hm)) h.2⟩

theorem eachNames (ce : Env) : ∀ xs : List (Str × Pos), assignEach (xs.map fun q => Expr.Name q.1 q.2) ce = xs.map fun q => (false, assign (.Name q.1 q.2) ce)
  | [] => by first | rfl | simp [assignEach]
  | q :: r => by
    have := eachNames ce r
    simp only [List.map_cons, assignEach]
    rw [this]

theorem cStores (hkind : scope.kind = .function) (xs : List (Str × Pos)) : ∀ (vals : List Value) (done : List Str) (dv : List Value) (s : Shared) (m' : Str → Option Value) (Q : Unit → Shared → Prop), xs.length = vals.length → (∀ q ∈ xs, scope.names.lookup q.1 = some .local) →
    (xs.map (·.1)).Nodup → (∀ q ∈ xs, q.1 ∉ done) → Holds m' done dv → s.heap.Ns C m' →
    (∀ h' m'' tk, h'.Ns C m'' → Holds m'' (xs.map (·.1)) vals → Holds m'' done dv → Heap.SameBut C s.heap h' → Q () { s with heap := h', toks := tk }) →
    wpAny (model prog w) A (assignInOrder (xs.map fun q => assign (.Name q.1 q.2) (compEnvC scope cl C env)) vals) Q E s := by
  induction xs with
  | nil =>
    intro vals done dv s m' Q hl _ _ _ hd hn h
    cases vals with
    | nil => exact assignInOrder_nil (h s.heap m' s.toks hn trivial hd (Heap.SameBut.refl ..))
    | cons _ _ => exact absurd hl (by simp)
  | cons q xs ih =>
    obtain ⟨x, px⟩ := q
    intro vals done dv s m' Q hl hloc hnd hdone hd hn h
    cases vals with
    | nil => exact absurd hl (by simp)
    | cons v vals =>
      refine assignInOrder_cons (wpAny_assign_Name (wpAny_storeName_local (lookup_relabel_local (hloc (x, px) List.mem_cons_self)) hn (fun h₂ hn₂ hs₂ => ?_) (by simp [compEnvC, relabel, hkind])))
      have hnd' := List.nodup_cons.mp hnd
      refine ih vals (x :: done) (v :: dv) _ _ Q (Nat.succ.inj hl) (fun q hq => hloc q (List.mem_cons_of_mem _ hq)) hnd'.2 (fun q hq hm => ?_) ⟨by simp, hd.other (hdone _ List.mem_cons_self)⟩ hn₂ fun h' m'' tk hn' hx' hd' hs' => ?_
      · rcases List.mem_cons.mp hm with e | hm
        · exact hnd'.1 (by have hm' := List.mem_map_of_mem (f := fun q : Str × Pos => q.1) hq; rw [e] at hm'; exact hm')
        · exact hdone q (List.mem_cons_of_mem _ hq) hm
      · exact h h' m'' tk hn' ⟨hd'.1, hx'⟩ hd'.2 (hs₂.trans hs')

theorem cNews {I D : Addr} {oI oC oC' : Obj} {ys : List Value} {nw : List (Addr × Obj)} {h h' : Heap} (N : News h₀ L h ((I, oI) :: (D, lst ys) :: ([(C, oC)] ++ nw))) (hCI : C ≠ I) (hCD : C ≠ D) (hoff : ∀ p ∈ nw, p.1 ∉ [C])
    (hk : ∀ b o, b ≠ C → h.get? b = some o → h'.get? b = some o) (hc : h'.get? C = some oC') : News h₀ L h' ((I, oI) :: (D, lst ys) :: ([(C, oC')] ++ nw)) := fun p hp => by
  have zC := N (C, oC) (by simp)
  rcases List.mem_cons.mp hp with rfl | hp
  · have z := N (I, oI) (by simp); exact ⟨hk _ _ (Ne.symm hCI) z.1, z.2⟩
  · rcases List.mem_cons.mp hp with rfl | hp
    · have z := N (D, lst ys) (by simp); exact ⟨hk _ _ (Ne.symm hCD) z.1, z.2⟩
    · rcases List.mem_cons.mp hp with rfl | hp
      · exact ⟨hc, zC.2⟩
      · have hp' : p ∈ nw := hp
        have z := N p (by simp [hp']); exact ⟨hk _ _ (by simpa using hoff p hp) z.1, z.2⟩

/-- the comprehension's target is one name -/
theorem cAssign1 {x : Str} {px : Pos} {v : Value} {I D : Addr} {oI oC : Obj} {ys : List Value} {nw : List (Addr × Obj)} {m' : Str → Option Value} {Q : Unit → Shared → Prop} (hkind : scope.kind = .function) (hx : scope.names.lookup x = some .local)
    (F : Fr h₀ L s.heap m) (N : News h₀ L s.heap ((I, oI) :: (D, lst ys) :: ([(C, oC)] ++ nw))) (hn : NsObj oC m') (hCI : C ≠ I) (hCD : C ≠ D) (hoff : ∀ p ∈ nw, p.1 ∉ [C])
    (h : ∀ h' oC' m'' tk, NsObj oC' m'' → m'' x = some v → Fr h₀ L h' m → News h₀ L h' ((I, oI) :: (D, lst ys) :: ([(C, oC')] ++ nw)) → Q () { s with heap := h', toks := tk }) :
    wpAny (model prog w) A (assign (.Name x px) (compEnvC scope cl C env) v) Q E s := by
  have zC := N (C, oC) (by simp)
  refine wpAny_assign_Name (wpAny_storeName_local (lookup_relabel_local hx) (hn.ns zC.1) (fun h₂ hn₂ hs₂ => ?_) (by simp [compEnvC, relabel, hkind]))
  obtain ⟨oC', heC, hoC⟩ := ns_obj hn₂
  exact h h₂ oC' _ _ hoC (by simp) (F.change hs₂ zC.2.1 zC.2.2) (cNews N hCI hCD hoff (fun b o hb e => hs₂.extBut b o hb e) heC)

/-- the comprehension's target is a tuple of names, the item a tuple of the ledger -/
theorem cAssignT {xs : List (Str × Pos)} {kk : Nat} {tp : Pos} {vals : List Value} {t I D : Addr} {oI oC : Obj} {ys : List Value} {nw : List (Addr × Obj)} {nt : Nat} {m' : Str → Option Value} {Q : Unit → Shared → Prop} (hh : A.handled = none) (hkind : scope.kind = .function)
    (hl : xs.length = vals.length) (hloc : ∀ q ∈ xs, scope.names.lookup q.1 = some .local) (hnd : (xs.map (·.1)).Nodup)
    (F : Fr h₀ L s.heap m) (N : News h₀ L s.heap ((I, oI) :: (D, lst ys) :: ([(C, oC)] ++ nw))) (hn : NsObj oC m') (hCI : C ≠ I) (hCD : C ≠ D) (hoff : ∀ p ∈ nw, p.1 ∉ [C])
    (ht : (t, ({ cls := .type "tuple", data := .seq vals.toArray nt } : Obj)) ∈ nw)
    (h : ∀ h' oC' m'' tk, NsObj oC' m'' → Holds m'' (xs.map (·.1)) vals → Fr h₀ L h' m → News h₀ L h' ((I, oI) :: (D, lst ys) :: ([(C, oC')] ++ nw)) → Q () { s with heap := h', toks := tk }) :
    wpAny (model prog w) A (assign (.Tuple (xs.map fun q => .Name q.1 q.2) kk tp) (compEnvC scope cl C env) (.ref t)) Q E s := by
  have zC := N (C, oC) (by simp)
  have zt := N _ (List.mem_cons_of_mem _ (List.mem_cons_of_mem _ (List.mem_append_right _ ht)))
  refine assign_Tuple_tuple hh ⟨_, zt.1, rfl, nt, rfl⟩ (by rw [eachNames]; simp [hl]) (by rw [eachNames]; simp [List.findIdx?_eq_none_iff]) fun h₅ he => ?_
  have up : ∀ b o, s.heap.get? b = some o → h₅.get? b = some o := fun b o e => he b o (Nat.ne_of_lt (Heap.lt_size e)) e
  rw [eachNames]
  simp only [List.map_map]
  refine cStores hkind xs vals [] [] _ m' Q hl hloc hnd (fun _ _ hm => nomatch hm) trivial ((hn.ns zC.1).at' fun o e => up _ o e) fun h' m'' tk hn' hx' _ hs' => ?_
  obtain ⟨oC', heC, hoC⟩ := ns_obj hn'
  exact h h' oC' m'' tk hoC hx' ((F.keeps up).change hs' zC.2.1 zC.2.2) (cNews N hCI hCD hoff (fun b o hb e => hs'.extBut b o hb (up b o e)) heC)

theorem CEnd.calm {I D : Addr} {oI oC : Obj} {ys : List Value} {nw : List (Addr × Obj)} {m'' : Str → Option Value} {R : List (Addr × Obj) → Prop} {h' : Heap} {tk : Nat} (hn : NsObj oC m'') (F : Fr h₀ L h' m)
    (N : News h₀ L h' ((I, oI) :: (D, lst ys) :: (C, oC) :: nw)) (off : ∀ p ∈ nw, p.1 ≠ I ∧ p.1 ≠ D ∧ p.1 ∉ [C]) (hR : R nw) : CEnd h₀ L m s I oI D ys [C] (PvN C) R { s with heap := h', toks := tk } :=
  ⟨h', tk, [(C, oC)], nw, rfl, F, N, ⟨oC, m'', rfl, hn⟩, off, hR⟩
end
end

section
open PySem.Spec PySem.Calls
open LCg (lst NsObj ns_obj fr_but lst_snoc)

/-- a comprehension's namespace and its one cell -/
def PvC (C cc : Addr) (pv : List (Addr × Obj)) : Prop := ∃ oC m' oc v, pv = [(C, oC), (cc, oc)] ∧ NsObj oC m' ∧ oc.data = .cell v

section
variable {prog : Program} {w : World} {A : Around} {E : Value → Shared → Prop} {s : Shared} {h₀ : Heap} {L : Addr} {m : Str → Option Value} {env : Env}

theorem newEnv_cell {scope : Scope} {globals : Addr} {cl : List (Str × Addr)} {qual : Str} {func : Option Addr} {code : Value} {outer : Env} {builtins : Addr} {x : Str} {Q : Env → Shared → Prop}
    (h1 : ∀ k, cellsFrom k scope.names cl = (x, k) :: cl) (h2 : ∀ h, pushCells h scope.names = h.push { cls := .type "cell", data := .cell none })
    (hQ : ∀ h', h'.Ns s.heap.objs.size (fun _ => none) → h'.get? (s.heap.objs.size + 1) = some { cls := .type "cell", data := .cell none } → (∀ b o, s.heap.get? b = some o → h'.get? b = some o) →
      Q (newEnv scope s.heap.objs.size globals ((x, s.heap.objs.size + 1) :: cl) qual func code (some outer) builtins) { s with heap := h' }) :
    wpAny (model prog w) A (newFunctionEnv scope globals cl [] qual func code (some outer) builtins) Q E s := by
  simp only [newFunctionEnv, Option.isSome_some, if_true]
  simp only [newEnv] at hQ
  refine wpAny_bind (wpAny_alloc ?_)
  refine wpAny_bind (wpAny_layCells _ (fun name kind cells => by cases kind == NameKind.cell <;> simp) _ _ _ _ ?_)
  rw [h1, h2]
  rw [show ({ s with heap := s.heap.push { cls := .type "dict", data := .dict #[] } } : Shared).heap.objs.size = s.heap.objs.size + 1 from Heap.size_push ..]
  refine wpAny_bind ?_
  rw [List.forIn_nil]
  refine wpAny_pure (wpAny_pure (hQ _ ((Heap.Ns.new s.heap (.type "dict")).keeps fun b o e => Heap.get?_push_of_some _ e) ?_ fun b o e => Heap.get?_push_of_some _ (Heap.get?_push_of_some _ e)))
  have e := Heap.get?_push_size (h := s.heap.push { cls := .type "dict", data := .dict #[] }) (o := ({ cls := .type "cell", data := .cell none } : Obj)) rfl
  rwa [Heap.size_push] at e

/-- as CSrc, where the comprehension's scope has one cell -/
def CSrcC (x : Str) (prog : Program) (w : World) (A : Around) (h₀ : Heap) (L : Addr) (m : Str → Option Value) (env : Env) (target : Expr) (ifs : List Expr) (elt : Expr) (scope : Scope) (cl : List (Str × Addr)) (Fin : Shared → List Value → List (Addr × Obj) → Prop) (xv : Value) (s₁ : Shared) : Prop :=
  ∃ ax its k tup nw J, xv = .ref ax ∧ A.handled = none ∧ Fr h₀ L s₁.heap m ∧ News h₀ L s₁.heap nw ∧ (ax, srcO tup its k) ∈ nw ∧ its.length ≤ sizeLine ∧ J 0 [] nw ∧ (∀ i ys nw, J i ys nw → (ax, srcO tup its k) ∈ nw) ∧
    (∀ C cc I D, C ≠ I → C ≠ D → D ≠ I → C ≠ L → cc ≠ C → cc ≠ I → cc ≠ D → cc ≠ L → h₀.get? C = none → h₀.get? cc = none → CTurn prog w A h₀ L m (compEnvC scope ((x, cc) :: cl) C env) target ifs elt s₁ I D [C, cc] (fun i v => its[i]? = some v) (PvC C cc) J) ∧ ∀ ys nw, J its.length ys nw → Fin s₁ ys nw

theorem cBlockC {x : Str} {elt target iter : Expr} {ifs : List Expr} {scope : Scope} {cl : List (Str × Addr)} {pos : Pos} {s₁ : Shared} {ax : Addr} {its : List Value} {k : Nat} {tup : Bool} {nw : List (Addr × Obj)} {J : Nat → List Value → List (Addr × Obj) → Prop}
    {RR : Value → Addr → Result → Shared → Prop}
    (h1 : ∀ k, cellsFrom k scope.names cl = (x, k) :: cl) (h2 : ∀ h, pushCells h scope.names = h.push { cls := .type "cell", data := .cell none }) (hh : A.handled = none) (F : Fr h₀ L s₁.heap m) (N : News h₀ L s₁.heap nw) (hm : (ax, srcO tup its k) ∈ nw) (hsz : its.length ≤ sizeLine)
    (hJ : J 0 [] nw) (hJS : ∀ i ys nw, J i ys nw → (ax, srcO tup its k) ∈ nw)
    (turn : ∀ C cc I D, C ≠ I → C ≠ D → D ≠ I → C ≠ L → cc ≠ C → cc ≠ I → cc ≠ D → cc ≠ L → h₀.get? C = none → h₀.get? cc = none → CTurn prog w A h₀ L m (compEnvC scope ((x, cc) :: cl) C env) target ifs elt s₁ I D [C, cc] (fun i v => its[i]? = some v) (PvC C cc) J)
    (hRR : ∀ D C h tk m' ys nw, Fr h₀ L h m → News h₀ L h ((D, lst ys) :: nw) → (∀ p ∈ nw, p.1 ≠ D) → h.Ns C m' → h₀.get? C = none → C ≠ L → C ≠ D → (∀ p ∈ nw, p.1 ≠ C) → J its.length ys nw → RR (.ref D) C (.ok .next) { s₁ with heap := h, toks := tk }) :
    wpAny (model prog w) A (pyIter (.ref ax)) (fun it s₂ => wpAny (model prog w) A (newList []) (fun acc s₃ => wpAny (model prog w) A (newFunctionEnv scope env.globals cl [] env.qual none .none (some env)) (fun cenv s₄ =>
      codeAny (model prog w) A (.compStart (.ListComp elt [⟨target, iter, ifs, 0⟩] scope pos) 0 it acc { cenv with scope := relabel scope env }) (RR acc cenv.locals) s₄) E s₃) E s₂) E s₁ := by
  refine srcIter N hm fun oI hfree st => ?_
  refine wpAny_newObj_type (newEnv_cell h1 h2 fun h₁ hns₁ hcc₁ hsb₁ => ?_)
  dsimp only [newEnv] at hns₁ hsb₁ hcc₁ ⊢
  have hlt : ax < s₁.heap.objs.size := Heap.lt_size (N _ hm).1
  generalize hI : s₁.heap.objs.size = I at st ⊢
  have hltI : ax < I := by rw [← hI]; exact hlt
  have hneI : ax ≠ I := Nat.ne_of_lt hltI
  generalize hH1 : s₁.heap.push oI = H1 at st hns₁ hsb₁ hcc₁ ⊢
  have hz1 : H1.objs.size = I + 1 := by rw [← hH1, Heap.size_push, hI]
  generalize hH2 : H1.push { cls := .type "list", dict := none, data := .seq ([] : List Value).toArray } = H2 at hns₁ hsb₁ hcc₁ ⊢
  have hz2 : H2.objs.size = I + 2 := by rw [← hH2, Heap.size_push, hz1]
  rw [hz1]
  rw [hz2] at hns₁ hcc₁ ⊢
  have up1 : ∀ b o, s₁.heap.get? b = some o → H1.get? b = some o := fun b o e => by rw [← hH1]; exact Heap.get?_push_of_some _ e
  have up2 : ∀ b o, H1.get? b = some o → H2.get? b = some o := fun b o e => by rw [← hH2]; exact Heap.get?_push_of_some _ e
  have old : ∀ b o, s₁.heap.get? b = some o → h₁.get? b = some o := fun b o e => hsb₁ b o (up2 b o (up1 b o e))
  have below : ∀ b o, s₁.heap.get? b = some o → b < I := fun b o e => by rw [← hI]; exact Heap.lt_size e
  have fresh₀ : ∀ a, I ≤ a → h₀.get? a = none := fun a ha => by
    cases e : h₀.get? a with
    | none => rfl
    | some o' => exact absurd (below _ _ (F.keep a o' e)) (Nat.not_lt.mpr ha)
  have hacc : h₁.get? (I + 1) = some (lst []) := hsb₁ _ _ (by rw [← hH2, ← hz1]; exact Heap.get?_push_size _ rfl)
  have hLlt : L < I := by rw [← hI]; exact F.ns.lt
  have hst₁ : SrcSt tup I ax its 0 h₁ := (srcWalks (prog := prog) (w := w) tup hh I ax hneI its).frame _ _ _ st fun b _ o e => hsb₁ b o (up2 b o e)
  obtain ⟨oC, heC, hoC⟩ := ns_obj hns₁
  have off₀ : ∀ p ∈ nw, p.1 ≠ I ∧ p.1 ≠ I + 1 ∧ p.1 ∉ [I + 2, I + 2 + 1] := fun p hp => by
    have := below _ _ (N p hp).1
    refine ⟨?_, ?_, ?_⟩
    · exact Nat.ne_of_lt this
    · exact Nat.ne_of_lt (Nat.lt_succ_of_lt this)
    · intro hq
      rcases List.mem_cons.mp hq with hq | hq
      · exact Nat.lt_irrefl _ (Nat.lt_trans (hq ▸ this) (by omega : I < I + 2))
      · exact Nat.lt_irrefl _ (Nat.lt_trans (List.mem_singleton.mp hq ▸ this) (by omega : I < I + 2 + 1))
  have N₁ : News h₀ L h₁ ((I + 1, lst []) :: ([(I + 2, oC), (I + 2 + 1, ({ cls := .type "cell", data := .cell none } : Obj))] ++ nw)) := fun p hp => by
    rcases List.mem_cons.mp hp with rfl | hp
    · exact ⟨hacc, Nat.ne_of_gt (Nat.lt_succ_of_lt hLlt), fresh₀ _ (Nat.le_succ _)⟩
    · rcases List.mem_cons.mp hp with rfl | hp
      · exact ⟨heC, Nat.ne_of_gt (Nat.lt_trans hLlt (by omega)), fresh₀ _ (by omega)⟩
      · rcases List.mem_cons.mp hp with rfl | hp
        · exact ⟨hcc₁, Nat.ne_of_gt (Nat.lt_trans hLlt (by omega)), fresh₀ _ (by omega)⟩
        · exact ⟨old _ _ (N p hp).1, (N p hp).2⟩
  have loop : ∀ s₃ : Shared, s₃ = { s₁ with heap := h₁ } →
      codeAny (model prog w) A (.compLoop (.ListComp elt [⟨target, iter, ifs, 0⟩] scope pos) 0 (.ref I) (.ref (I + 1)) (compEnvC scope ((x, I + 2 + 1) :: cl) (I + 2) env)) (RR (.ref (I + 1)) (I + 2)) s₃ := by
    rintro s₃ rfl
    refine cLoop (tk₁ := s₁.toks) (S := fun nw => (ax, srcO tup its k) ∈ nw) (Pv := PvC (I + 2) (I + 2 + 1)) (pa := [I + 2, I + 2 + 1]) (J := J) (srcWalks tup hh I ax hneI its) hsz (fun i h st => srcIo st) (fun i h h' o nw st e e' N S => srcSt st e e' N S) hJS
      (fun i s' v Q' E' st h => srcGo st h) (turn (I + 2) (I + 2 + 1) I (I + 1) (by simp) (by simp) (by simp) (Nat.ne_of_gt (Nat.lt_trans hLlt (by omega))) (by simp) (show @Ne Nat _ _ by omega) (show @Ne Nat _ _ by omega) (Nat.ne_of_gt (Nat.lt_trans hLlt (by omega))) (fresh₀ _ (by omega)) (fresh₀ _ (by omega))) ?_ (by intro hq; rcases List.mem_cons.mp hq with hq | hq; exact (show @Ne Nat _ _ by omega) hq; exact (show @Ne Nat _ _ by omega) (List.mem_singleton.mp hq)) (by intro hq; rcases List.mem_cons.mp hq with hq | hq; exact (show @Ne Nat _ _ by omega) hq; exact (show @Ne Nat _ _ by omega) (List.mem_singleton.mp hq)) ?_ (by simp) (Nat.ne_of_lt hLlt) (fresh₀ _ (Nat.le_refl _))
      (F.keeps old) N₁ hst₁ ⟨oC, _, _, none, rfl, hoC, rfl⟩ off₀ hJ ?_
    · rintro pv ⟨oC, m', oc, v, rfl, _⟩; rfl
    · intro hq
      rcases List.mem_cons.mp hq with hq | hq
      · exact absurd hq (by simp)
      · have : I + 1 = ax := List.mem_singleton.mp hq
        rw [← this] at hltI; exact absurd hltI (Nat.not_lt.mpr (Nat.le_succ _))
    · rintro h tk ys pv nw' F' N' ⟨oC', m', oc', v', rfl, hn', _⟩ off' hJ'
      refine hRR (I + 1) (I + 2) h tk m' ys nw' F' (fun p hp => N' p ?_) (fun p hp => (off' p hp).2.1) (hn'.ns (N' (I + 2, oC') (by simp)).1) (fresh₀ _ (by omega)) (Nat.ne_of_gt (Nat.lt_trans hLlt (by omega))) (by simp) (fun p hp hq => (off' p hp).2.2 (by rw [hq]; exact List.mem_cons_self)) hJ'
      rcases List.mem_cons.mp hp with rfl | hp
      · exact List.mem_cons_self
      · exact List.mem_cons_of_mem _ (List.mem_append_right _ hp)
  exact codeAny_compStart_list (loop _ rfl) ((srcWalks tup hh I ax hneI its).self 0 _ _ _ hst₁ (loop _ rfl))

/-- x = [..] where the comprehension's scope has one cell -/
theorem compAC {x : Str} {elt target iter : Expr} {ifs : List Expr} {y : Str} {py : Pos} {scope : Scope} {cl : List (Str × Addr)} {pos spos : Pos} {Q : Flow → Shared → Prop} (F₀ : Fr h₀ L s.heap m) (hLe : env.locals = L)
    (hsw : swapsWith (.ListComp elt [⟨target, iter, ifs, 0⟩] scope pos) (some (.Name y py)) spos.line env = pure true)
    (hclos : closureFor scope env = pure cl) (h1 : ∀ k, cellsFrom k scope.names cl = (x, k) :: cl) (h2 : ∀ h, pushCells h scope.names = h.push { cls := .type "cell", data := .cell none }) (hkind : scope.kind = .function) (hnames : ∀ y ∈ scope.names, y.2 = .local → scope.names.lookup y.1 = some .local)
    (hy : env.kindOf y = some .local) (hp : (env.scope.kind == .class || (env.scope.kind == .module && env.locals != env.globals)) = false)
    (h : wpAny (model prog w) A (eval iter env) (CSrcC x prog w A h₀ L m env target ifs elt scope cl (fun s₂ => FinA h₀ L m s₂ y Q)) E s)
    (hs : ∀ x, foldedSetIterable iter env x = pure x := by intro _; rfl) :
    wpAny (model prog w) A (exec (.Assign [.Name y py] (.ListComp elt [⟨target, iter, ifs, 0⟩] scope pos) spos) env) Q E s := by
  subst hLe
  rw [exec_Assign_Name_used _ _ _ _ hsw]
  refine wpAny_bind (wpAny_standAt (wpAny_bind ?_))
  show wpAny _ A (do let _ ← comprehension (.ListComp elt [⟨target, iter, ifs, 0⟩] scope pos) scope env _ (newList []) false (eval iter env) (some (assign (.Name y py) env))) _ _ s
  refine wpAny_bind (wpAny_mono (wpAny_comprehension_free (use := some (assign (.Name y py) env)) (Q := fun _ s' => Q .next s') rfl hs hclos hkind hnames
    (wpAny_mono h (fun xv s₁ h₁ => ?_) fun _ _ e => e)) (fun _ s' hq => wpAny_pure (wpAny_pure hq)) fun _ _ e => e)
  obtain ⟨ax, its, k, tup, nw, J, rfl, hh, F, N, hm, hsz, hJ, hJS, turn, fin⟩ := h₁
  refine cBlockC h1 h2 hh F N hm hsz hJ hJS turn ?_
  intro D C h tk m' ys nw' F' N' oD hn hC₀ hCL hCD oC hJ'
  show wpAny _ A (assign (.Name y py) env (.ref D)) _ _ _
  refine wpAny_assign_Name (wpAny_storeName_local hy F'.ns (fun h₂ hn₂ hs₂ => ?_) hp)
  have hL₀ : h₀.get? env.locals = none := Heap.get?_none_of_le F'.above
  have F₂ : Fr h₀ env.locals h₂ (fun z => if z = y then some (.ref D) else m z) := ⟨hn₂, fun b o e => hs₂.extBut b o (fun q => by rw [q, hL₀] at e; cases e) (F'.keep b o e), F'.above⟩
  refine ⟨m', hn.sameBut hs₂ hCL, fun h'' hs'' => fin ys nw' hJ' D h'' _ (F₂.change hs'' hCL hC₀) (fun p hp => ?_) oD⟩
  have z : h₂.get? p.1 = some p.2 := hs₂.extBut _ _ (N' p hp).2.1 (N' p hp).1
  refine ⟨hs''.extBut _ _ ?_ z, (N' p hp).2⟩
  rcases List.mem_cons.mp hp with rfl | hp
  · exact Ne.symm hCD
  · exact oC p hp

/-- the comprehension's target is its cell -/
theorem cAssignC {x : Str} {px : Pos} {v : Value} {C cc I D : Addr} {oI oC oc : Obj} {ys : List Value} {nw : List (Addr × Obj)} {m' : Str → Option Value} {v₀ : Option Value} {scope : Scope} {cl : List (Str × Addr)} {Q : Unit → Shared → Prop} (hkind : scope.kind = .function)
    (hx : (compEnvC scope ((x, cc) :: cl) C env).kindOf x = some .cell)
    (F : Fr h₀ L s.heap m) (N : News h₀ L s.heap ((I, oI) :: (D, lst ys) :: ([(C, oC), (cc, oc)] ++ nw))) (_hn : NsObj oC m') (hoc : oc.data = .cell v₀) (hcI : cc ≠ I) (hcD : cc ≠ D) (hcC : cc ≠ C) (hoff : ∀ p ∈ nw, p.1 ≠ cc)
    (h : ∀ h' oc', oc'.data = .cell (some v) → Fr h₀ L h' m → News h₀ L h' ((I, oI) :: (D, lst ys) :: ([(C, oC), (cc, oc')] ++ nw)) → Q () { s with heap := h' }) :
    wpAny (model prog w) A (assign (.Name x px) (compEnvC scope ((x, cc) :: cl) C env) v) Q E s := by
  have zc := N (cc, oc) (by simp)
  refine wpAny_assign_Name (wpAny_storeName_cell (by exact hkind) hx (by simp [compEnvC]) ⟨oc, zc.1, hoc⟩ fun h' hv hs => ?_)
  obtain ⟨oc', ho', hd'⟩ := hv
  refine h h' oc' hd' (F.change hs zc.2.1 zc.2.2) fun p hp => ?_
  simp only [List.cons_append, List.nil_append, List.mem_cons] at hp
  have keep : p ∈ ((I, oI) :: (D, lst ys) :: ([(C, oC), (cc, oc)] ++ nw)) → p.1 ≠ cc → h'.get? p.1 = some p.2 ∧ p.1 ≠ L ∧ h₀.get? p.1 = none := fun hm hne => ⟨hs.extBut _ _ hne (N p hm).1, (N p hm).2⟩
  rcases hp with rfl | rfl | rfl | rfl | hp
  · exact keep (by simp) (Ne.symm hcI)
  · exact keep (by simp) (Ne.symm hcD)
  · exact keep (by simp) (Ne.symm hcC)
  · exact ⟨ho', zc.2⟩
  · exact keep (by simp [hp]) (hoff p hp)

theorem CEnd.calmC {C cc I D : Addr} {oI oC oc : Obj} {v : Option Value} {ys : List Value} {nw : List (Addr × Obj)} {m'' : Str → Option Value} {R : List (Addr × Obj) → Prop} {h' : Heap} {tk : Nat} (hn : NsObj oC m'') (hoc : oc.data = .cell v) (F : Fr h₀ L h' m)
    (N : News h₀ L h' ((I, oI) :: (D, lst ys) :: (C, oC) :: (cc, oc) :: nw)) (off : ∀ p ∈ nw, p.1 ≠ I ∧ p.1 ≠ D ∧ p.1 ∉ [C, cc]) (hR : R nw) : CEnd h₀ L m s I oI D ys [C, cc] (PvC C cc) R { s with heap := h', toks := tk } :=
  ⟨h', tk, [(C, oC), (cc, oc)], nw, rfl, F, N, ⟨oC, m'', oc, v, rfl, hn, hoc⟩, off, hR⟩
end
end

section
open PySem.Spec PySem.Calls

/-- the list without its one entry at I -/
inductive Drp (I : Addr) (o : Obj) : List (Addr × Obj) → List (Addr × Obj) → Prop
  | here {r} : Drp I o ((I, o) :: r) r
  | skip {p r r'} : Drp I o r r' → Drp I o (p :: r) (p :: r')
theorem Drp.mem {I : Addr} {o : Obj} {l l' : List (Addr × Obj)} (d : Drp I o l l') : (I, o) ∈ l ∧ ∀ p ∈ l', p ∈ l := by
  induction d with
  | here => exact ⟨List.mem_cons_self, fun p hp => List.mem_cons_of_mem _ hp⟩
  | skip _ ih =>
    refine ⟨List.mem_cons_of_mem _ ih.1, fun p hp => ?_⟩
    rcases List.mem_cons.mp hp with rfl | hp
    · exact List.mem_cons_self
    · exact List.mem_cons_of_mem _ (ih.2 p hp)

theorem endW {h₀ : Heap} {L I : Addr} {o : Obj} {rest : (Str → Option Value) → List (Addr × Obj) → Prop} {s₁ : Shared} {h' : Heap} {tk : Nat} {m' : Str → Option Value} {all nw : List (Addr × Obj)} (F : Fr h₀ L h' m') (N : News h₀ L h' all)
    (D : Drp I o all nw) (off : ∀ p ∈ nw, p.1 ≠ I) (r : rest m' nw) : UnrEndW h₀ L s₁ [(I, o)] rest { s₁ with heap := h', toks := tk } := by
  refine ⟨h', tk, m', nw, rfl, F, fun p hp => ?_, fun p hp q hq => ?_, r⟩
  · rcases List.mem_append.mp hp with hp | hp
    · rw [List.mem_singleton.mp hp]; exact N _ D.mem.1
    · exact N p (D.mem.2 p hp)
  · rw [List.mem_singleton.mp hq]; exact off p hp
theorem eqLit {prog : Program} {w : World} {A : Around} {E : Value → Shared → Prop} {s : Shared} {a b : Str} {t u : Tok} {Q : Value → Shared → Prop} (r : Bool) (e : (a == b) = r) (h : Q (.bool r) s) :
    wpAny (model prog w) A (compareOp .Eq (.str a t) (.str b u)) Q E s := by
  subst e
  exact eq_str h
end

section
/-- the tree of questions run by an order upon the numbers below n -/
def KOk {α : Type} (n : Nat) (lt : Nat → Nat → Bool) : KasT α → (α → Prop) → Prop
  | .ret a, Q => Q a
  | .ask i j k, Q => i < n ∧ j < n ∧ i ≠ j ∧ KOk n lt (k (lt i j)) Q

theorem KOk.bind {α β : Type} {n : Nat} {lt : Nat → Nat → Bool} {f : α → KasT β} {Q : β → Prop} : ∀ {t : KasT α}, KOk n lt t (fun a => KOk n lt (f a) Q) → KOk n lt (t.bind f) Q
  | .ret _, h => h
  | .ask _ _ _, h => ⟨h.1, h.2.1, h.2.2.1, KOk.bind h.2.2.2⟩
theorem KOk.mono {α : Type} {n : Nat} {lt : Nat → Nat → Bool} {Q Q' : α → Prop} (hq : ∀ a, Q a → Q' a) : ∀ {t : KasT α}, KOk n lt t Q → KOk n lt t Q'
  | .ret _, h => hq _ h
  | .ask _ _ _, h => ⟨h.1, h.2.1, h.2.2.1, KOk.mono hq h.2.2.2⟩

section
variable {n : Nat} (f : Nat → Int)
def gK (p : Array Nat) (k : Nat) : Int := f (p.getD k 0)
def PermK (n : Nat) (p : Array Nat) : Prop := p.toList.Perm (List.range n)
theorem PermK.sz {n : Nat} {p : Array Nat} (h : PermK n p) : p.size = n := by have := h.length_eq; simpa using this
theorem PermK.at {n : Nat} {p : Array Nat} (h : PermK n p) {k : Nat} (hk : k < n) : p.toList[k]? = some (p.getD k 0) := by
  have hz := h.sz
  have : k < p.size := by omega
  simp [Array.getD, this]
theorem PermK.lt {n : Nat} {p : Array Nat} (h : PermK n p) (k : Nat) (hk : k < n) : p.getD k 0 < n := by
  have hm := List.mem_of_getElem? (h.at hk)
  exact List.mem_range.mp (h.mem_iff.mp hm)
theorem PermK.ne {n : Nat} {p : Array Nat} (h : PermK n p) (i j : Nat) (hi : i < n) (hj : j < n) (hij : i ≠ j) : p.getD i 0 ≠ p.getD j 0 := by
  intro e
  have hd : p.toList.Nodup := h.nodup_iff.mpr List.nodup_range
  have hz : p.toList.length = n := by have := h.sz; simpa using this
  have e1 := h.at hi
  have e2 := h.at hj
  rw [← e] at e2
  exact hij ((List.getElem?_inj (by omega) hd).mp (e1.trans e2.symm))
def SrtK (p : Array Nat) (m : Nat) : Prop := ∀ i j, i ≤ j → j < m → gK f p i ≤ gK f p j
variable (hf : ∀ i j, i < n → j < n → i ≠ j → f i ≠ f j)

theorem srt_of_steps {p : Array Nat} {m : Nat} (h : ∀ k, 1 ≤ k → k < m → gK f p (k - 1) ≤ gK f p k) : SrtK f p m := by
  intro i j hij
  induction j with
  | zero => intro _; have : i = 0 := by omega
            subst this; exact Int.le_refl _
  | succ j ih =>
    intro hj
    by_cases e : i = j + 1
    · subst e; exact Int.le_refl _
    · exact Int.le_trans (ih (by omega) (by omega)) (h (j + 1) (by omega) hj)

theorem asc_ok {p : Array Nat} (hp : PermK n p) : ∀ (fuel a : Nat), 1 ≤ a → a + fuel ≤ n →
    KOk n (fun i j => decide (f i < f j)) (kas_asc p fuel a) (fun r => a ≤ r ∧ r ≤ a + fuel ∧ (∀ k, a ≤ k → k < r → gK f p (k - 1) ≤ gK f p k) ∧ (r < a + fuel → gK f p r < gK f p (r - 1)))
  | 0, a, _, _ => by
    refine ⟨Nat.le_refl _, Nat.le_refl _, fun k h1 h2 => by omega, fun h => by omega⟩
  | fuel + 1, a, h1, h2 => by
    refine ⟨hp.lt a (by omega), hp.lt (a - 1) (by omega), hp.ne _ _ (by omega) (by omega) (by omega), ?_⟩
    by_cases c : f (p.getD a 0) < f (p.getD (a - 1) 0)
    · simp only [decide_eq_true c, if_true]
      exact ⟨Nat.le_refl _, by omega, fun k h1 h2 => by omega, fun _ => c⟩
    · simp only [decide_eq_false c, Bool.false_eq_true, if_false]
      refine KOk.mono (fun r hr => ?_) (asc_ok hp fuel (a + 1) (by omega) (by omega))
      obtain ⟨r1, r2, r3, r4⟩ := hr
      refine ⟨by omega, by omega, fun k hk1 hk2 => ?_, fun h => r4 (by omega)⟩
      by_cases e : k = a
      · subst e; exact Int.not_lt.mp c
      · exact r3 k (by omega) hk2

include hf in
theorem desc_ok {p : Array Nat} (hp : PermK n p) : ∀ (fuel a : Nat), 1 ≤ a → a + fuel ≤ n → (∀ k, 1 ≤ k → k < a → gK f p k < gK f p (k - 1)) →
    KOk n (fun i j => decide (f i < f j)) (kas_desc fuel p a 0) (fun r => r.1 = p ∧ r.2.2 = 0 ∧ a ≤ r.2.1 ∧ r.2.1 ≤ a + fuel ∧ ∀ k, 1 ≤ k → k < r.2.1 → gK f p k < gK f p (k - 1))
  | 0, a, _, _, hd => ⟨rfl, rfl, Nat.le_refl _, Nat.le_refl _, hd⟩
  | fuel + 1, a, h1, h2, hd => by
    refine ⟨hp.lt a (by omega), hp.lt (a - 1) (by omega), hp.ne _ _ (by omega) (by omega) (by omega), ?_⟩
    by_cases c : f (p.getD a 0) < f (p.getD (a - 1) 0)
    · simp only [decide_eq_true c, if_true]
      rw [if_neg (by omega)]
      refine KOk.mono (fun r hr => ?_) (desc_ok hp fuel (a + 1) (by omega) (by omega) fun k hk1 hk2 => ?_)
      · obtain ⟨r1, r2, r3, r4, r5⟩ := hr
        exact ⟨r1, r2, by omega, by omega, r5⟩
      · by_cases e : k = a
        · subst e; exact c
        · exact hd k hk1 (by omega)
    · simp only [decide_eq_false c, Bool.false_eq_true, if_false]
      refine ⟨hp.lt (a - 1) (by omega), hp.lt a (by omega), hp.ne _ _ (by omega) (by omega) (by omega), ?_⟩
      have hne := hf _ _ (hp.lt a (by omega)) (hp.lt (a - 1) (by omega)) (hp.ne a (a - 1) (by omega) (by omega) (by omega))
      have d : f (p.getD (a - 1) 0) < f (p.getD a 0) := by omega
      simp only [decide_eq_true d, if_true]
      exact ⟨rfl, rfl, Nat.le_refl _, by show a ≤ a + (fuel + 1); omega, hd⟩

theorem getD_of {p : Array Nat} {k l : Nat} {q : Array Nat} (h : q[k]? = p[l]?) : q.getD k 0 = p.getD l 0 := by
  rw [Array.getD_eq_getD_getElem?, Array.getD_eq_getD_getElem?, h]

theorem rev_at {p : Array Nat} {m : Nat} (hm : m ≤ p.size) (k : Nat) : (kas_rev p 0 m).getD k 0 = if k < m then p.getD (m - 1 - k) 0 else p.getD k 0 := by
  have e := getElem?_mirror_all (xs := p) (i := 0) hm k
  split
  · rename_i h
    rw [if_pos (by omega)] at e
    exact getD_of (by rw [show m - 1 - k = 0 + m - 1 - k by omega]; exact e)
  · rename_i h
    rw [if_neg (by omega)] at e
    exact getD_of e

theorem rev_perm {p : Array Nat} (hp : PermK n p) {m : Nat} (_hm : m ≤ n) : PermK n (kas_rev p 0 m) :=
  (Array.perm_iff_toList_perm.mp (mirror_perm p 0 m _)).trans hp

theorem tail3_ok {p : Array Nat} (hp : PermK n p) {m : Nat} (h1 : 1 ≤ m) (hm : m ≤ n) (hd : ∀ k, 1 ≤ k → k < m → gK f p k < gK f p (k - 1)) :
    KOk n (fun i j => decide (f i < f j)) (kas_tail3 m n p) (fun r => 1 ≤ r.1 ∧ r.1 ≤ n ∧ PermK n r.2 ∧ SrtK f r.2 r.1) := by
  have hq := rev_perm hp hm
  have hs : m ≤ p.size := by rw [hp.sz]; exact hm
  refine KOk.bind (KOk.mono (fun r hr => ?_) (asc_ok f hq (n - m) m h1 (by omega)))
  obtain ⟨r1, r2, r3, _⟩ := hr
  refine ⟨by show 1 ≤ r; omega, by show r ≤ n; omega, hq, srt_of_steps f fun k hk1 hk2 => ?_⟩
  have hk2' : k < r := hk2
  by_cases c : k < m
  · have := hd (m - k) (by omega) (by omega)
    show f ((kas_rev p 0 m).getD (k - 1) 0) ≤ f ((kas_rev p 0 m).getD k 0)
    rw [rev_at hs, rev_at hs, if_pos (by omega), if_pos c]
    have e1 : m - 1 - (k - 1) = m - k := by omega
    have e2 : m - 1 - k = m - k - 1 := by omega
    rw [e1, e2]
    exact Int.le_of_lt this
  · exact r3 k (by omega) hk2'

include hf in
theorem count_ok {p : Array Nat} (hp : PermK n p) (h2 : 2 ≤ n) : KOk n (fun i j => decide (f i < f j)) (kas_count n p) (fun r => 1 ≤ r.1 ∧ r.1 ≤ n ∧ PermK n r.2 ∧ SrtK f r.2 r.1) := by
  refine KOk.bind (KOk.mono (fun r hr => ?_) (asc_ok f hp (n - 1) 1 (Nat.le_refl _) (by omega)))
  obtain ⟨r1, r2, r3, r4⟩ := hr
  have srt : SrtK f p r := srt_of_steps f fun k hk1 hk2 => r3 k hk1 hk2
  by_cases e : r = n
  · subst e
    simp only [beq_self_eq_true, if_true]
    exact ⟨r1, Nat.le_refl _, hp, srt⟩
  · have e' : (r == n) = false := by simpa using e
    simp only [e', Bool.false_eq_true, if_false]
    by_cases c : r > 1
    · rw [if_pos c]
      refine ⟨hp.lt 0 (by omega), hp.lt (r - 1) (by omega), hp.ne _ _ (by omega) (by omega) (by omega), ?_⟩
      have hle : gK f p 0 ≤ gK f p (r - 1) := srt 0 (r - 1) (by omega) (by omega)
      have hne := hf _ _ (hp.lt 0 (by omega)) (hp.lt (r - 1) (by omega)) (hp.ne 0 (r - 1) (by omega) (by omega) (by omega))
      have d : f (p.getD 0 0) < f (p.getD (r - 1) 0) := by unfold gK at hle; omega
      simp only [decide_eq_true d, if_true]
      exact ⟨r1, by omega, hp, srt⟩
    · rw [if_neg c]
      have hr1 : r = 1 := by omega
      subst hr1
      have h0 := r4 (by omega)
      refine KOk.bind (KOk.mono (fun q hq => ?_) (desc_ok f hf hp (n - (1 + 1)) (1 + 1) (by omega) (by omega) fun k hk1 hk2 => ?_))
      · obtain ⟨q1, q2, q3, q4, q5⟩ := hq
        rw [if_neg (by omega), q1]
        exact tail3_ok f hp (by omega) (by omega) q5
      · have : k = 1 := by omega
        subst this; exact h0

theorem place_ok {p : Array Nat} (hp : PermK n p) {k : Nat} (hk : k < n) (hs : SrtK f p k) : ∀ (fuel l r : Nat), l ≤ r → r ≤ k → r - l ≤ fuel → (∀ i, i < l → gK f p i ≤ gK f p k) → (∀ i, r ≤ i → i < k → gK f p k < gK f p i) →
    KOk n (fun i j => decide (f i < f j)) (kas_place p k fuel l r) (fun m => m ≤ k ∧ (∀ i, i < m → gK f p i ≤ gK f p k) ∧ ∀ i, m ≤ i → i < k → gK f p k < gK f p i)
  | 0, l, r, h1, h2, h3, ha, hb => ⟨by omega, ha, fun i hi => hb i (by omega)⟩
  | fuel + 1, l, r, h1, h2, h3, ha, hb => by
    unfold kas_place
    by_cases c : l ≥ r
    · rw [if_pos c]
      exact ⟨by omega, ha, fun i hi => hb i (by omega)⟩
    · rw [if_neg c]
      refine ⟨hp.lt k hk, hp.lt ((l + r) / 2) (by omega), hp.ne _ _ (by omega) (by omega) (by omega), ?_⟩
      by_cases d : f (p.getD k 0) < f (p.getD ((l + r) / 2) 0)
      · simp only [decide_eq_true d, if_true]
        refine place_ok hp hk hs fuel l ((l + r) / 2) (by omega) (by omega) (by omega) ha fun i hi1 hi2 => ?_
        have := hs ((l + r) / 2) i hi1 hi2
        unfold gK at this ⊢; omega
      · simp only [decide_eq_false d, Bool.false_eq_true, if_false]
        refine place_ok hp hk hs fuel ((l + r) / 2 + 1) r (by omega) (by omega) (by omega) (fun i hi => ?_) hb
        have := hs i ((l + r) / 2) (by omega) (by omega)
        unfold gK at this ⊢; omega

theorem bub_cases {p : Array Nat} {k d : Nat} (hk : k < p.size) (hd : d ≤ k) (i : Nat) :
    (i = k - d ∧ (bubble p k d).getD i 0 = p.getD k 0) ∨ (k - d < i ∧ i ≤ k ∧ (bubble p k d).getD i 0 = p.getD (i - 1) 0) ∨ ((i < k - d ∨ k < i) ∧ (bubble p k d).getD i 0 = p.getD i 0) := by
  have e := getElem?_bubble hk d hd i
  by_cases h : i = k - d
  · rw [if_pos h] at e; exact .inl ⟨h, getD_of e⟩
  · rw [if_neg h] at e
    by_cases h' : k - d < i ∧ i ≤ k
    · rw [if_pos h'] at e; exact .inr (.inl ⟨h'.1, h'.2, getD_of e⟩)
    · rw [if_neg h'] at e; exact .inr (.inr ⟨by omega, getD_of e⟩)

theorem bub_perm {p : Array Nat} (hp : PermK n p) {k d : Nat} (_hk : k < n) (_hd : d ≤ k) : PermK n (bubble p k d) :=
  (Array.perm_iff_toList_perm.mp (bubble_perm p k d)).trans hp

theorem bin_ok : ∀ (fuel : Nat) (p : Array Nat) (k : Nat), PermK n p → 1 ≤ k → k + fuel = n → SrtK f p k → KOk n (fun i j => decide (f i < f j)) (kas_bin fuel p k) (fun r => PermK n r ∧ SrtK f r n)
  | 0, p, k, hp, h1, h2, hs => by
    have e : k = n := by omega
    rw [e] at hs
    exact ⟨hp, hs⟩
  | fuel + 1, p, k, hp, h1, h2, hs => by
    have hk : k < n := by omega
    have hz : k < p.size := by rw [hp.sz]; exact hk
    refine KOk.bind (KOk.mono (fun m hm => ?_) (place_ok f hp hk hs k 0 k (Nat.zero_le _) (Nat.le_refl _) (by omega) (fun i hi => by omega) (fun i h1 h2 => by omega)))
    obtain ⟨m1, m2, m3⟩ := hm
    refine bin_ok fuel _ (k + 1) (bub_perm hp hk (by omega)) (by omega) (by omega) fun i j hij hj => ?_
    have A := fun a b (h1 : a ≤ b) (h2 : b < k) => hs a b h1 h2
    unfold gK at A m2 m3 ⊢
    have e0 : k - (k - m) = m := by omega
    rcases bub_cases hz (d := k - m) (by omega) i with ⟨c, e⟩ | ⟨c, c', e⟩ | ⟨c, e⟩ <;> rcases bub_cases hz (d := k - m) (by omega) j with ⟨d, e'⟩ | ⟨d, d', e'⟩ | ⟨d, e'⟩ <;> rw [e, e']
    · exact Int.le_refl _
    · exact Int.le_of_lt (m3 _ (by omega) (by omega))
    · omega
    · omega
    · exact A _ _ (by omega) (by omega)
    · omega
    · exact m2 _ (by omega)
    · exact A _ _ (by omega) (by omega)
    · exact A _ _ (by omega) (by omega)

include hf in
theorem sort_ok (h2 : 2 ≤ n) : KOk n (fun i j => decide (f i < f j)) (kas_sort n) (fun r => PermK n r ∧ SrtK f r n) := by
  have h0 : PermK n (List.toArray (List.range n)) := List.Perm.refl _
  refine KOk.bind (KOk.mono (fun r hr => ?_) (count_ok f hf h0 h2))
  obtain ⟨r1, r2, r3, r4⟩ := hr
  by_cases c : r.1 < n
  · rw [if_pos c]
    have e : max r.1 1 = r.1 := by omega
    rw [e]
    exact bin_ok f _ _ _ r3 r1 (by omega) r4
  · rw [if_neg c]
    have e : r.1 = n := by omega
    rw [e] at r4
    exact ⟨r3, r4⟩
end
end

section
open PySem.Spec PySem.Calls

abbrev Row := Int × Int × Int × Str
def rowD (r : Row) : Dat := .tuple [.int r.1, .int r.2.1, .int r.2.2.1, .str r.2.2.2]
def rowK (r : Row) : Int := r.1 * 64 + r.2.1

theorem kasWp_of {α : Type} {n : Nat} {lt : Nat → Nat → Bool} {cmp : Nat → Nat → (Bool → Shared → Prop) → Shared → Prop} {s : Shared} (hc : ∀ i j (C : Bool → Shared → Prop), i < n → j < n → i ≠ j → C (lt i j) s → cmp i j C s)
    {Q : α → Prop} {G : α → Shared → Prop} (hG : ∀ a, Q a → G a s) : ∀ (t : KasT α), KOk n lt t Q → t.kasWp cmp G s
  | .ret a, h => hG a h
  | .ask i j k, h => hc i j _ h.1 h.2.1 h.2.2.1 (kasWp_of hc hG (k (lt i j)) h.2.2.2)

section
variable {prog : Program} {w : World} {A : Around} {E : Value → Shared → Prop} {s : Shared} {h₀ : Heap} {L : Addr} {m : Str → Option Value}

theorem row_open {T : List (Addr × Obj)} {v : Value} {r : Row} (h : DatIn T v (rowD r)) :
    ∃ a n t1 t2 t3 t4, v = .ref a ∧ (a, ({ cls := .type "tuple", data := .seq #[.int r.1 t1, .int r.2.1 t2, .int r.2.2.1 t3, .str r.2.2.2 t4] n } : Obj)) ∈ T := by
  cases h with
  | tuple hm hd =>
    cases hd with
    | cons h1 hd => cases hd with
      | cons h2 hd => cases hd with
        | cons h3 hd => cases hd with
          | cons h4 hd =>
            cases hd; cases h1; cases h2; cases h3; cases h4
            exact ⟨_, _, _, _, _, _, rfl, hm⟩

theorem row_lt {x y : Addr} {k l : Nat} {p q : Row} {t1 t2 t3 t4 u1 u2 u3 u4 : Tok} {Q : Bool → Shared → Prop}
    (hx : s.heap.get? x = some { cls := .type "tuple", data := .seq #[.int p.1 t1, .int p.2.1 t2, .int p.2.2.1 t3, .str p.2.2.2 t4] k })
    (hy : s.heap.get? y = some { cls := .type "tuple", data := .seq #[.int q.1 u1, .int q.2.1 u2, .int q.2.2.1 u3, .str q.2.2.2 u4] l })
    (hp : 0 ≤ p.2.1 ∧ p.2.1 < 64) (hq : 0 ≤ q.2.1 ∧ q.2.1 < 64) (hne : p.2.1 ≠ q.2.1) (h : Q (decide (rowK p < rowK q)) s) :
    wpAny (model prog w) A (keyLt' (tuples' true) (.ref x) (.ref y)) Q E s := by
  refine kat_lt hx rfl hy rfl (kat_cons (wpAny_eqBool_int (kat_go (fun e1 => kat_yes ?_) fun e1 => kat_no ?_)))
  · refine kat_cons (wpAny_eqBool_int (kat_go (fun e2 => ?_) fun e2 => kat_no ?_))
    · exact absurd (beq_iff_eq.mp e2) hne
    · show wpAny (model prog w) A (oneLt' false _ _) Q _ s
      refine kat_one _ _ (lt_int ?_)
      have e : p.1 = q.1 := beq_iff_eq.mp e1
      have e' : decide (p.2.1 < q.2.1) = decide (rowK p < rowK q) := by unfold rowK; rw [decide_eq_decide]; omega
      show Q (decide (p.2.1 < q.2.1)) s
      rw [e']; exact h
  · show wpAny (model prog w) A (oneLt' true _ _) Q _ s
    refine oneLt_int ?_
    have e : p.1 ≠ q.1 := by simpa using e1
    have e' : decide (p.1 < q.1) = decide (rowK p < rowK q) := by unfold rowK; rw [decide_eq_decide]; omega
    rw [e']; exact h

theorem rows_firsts {h : Heap} {T : List (Addr × Obj)} (hT : ∀ p ∈ T, h.get? p.1 = some p.2) : ∀ {vs : List Value} {rows : List Row}, DatAll T vs (rows.map rowD) → ∃ fs, KatTups h vs fs ∧ fs.length = rows.length ∧ ∀ v ∈ fs, ∃ i t, v = .int i t
  | [], [], _ => ⟨[], trivial, rfl, fun _ h => nomatch h⟩
  | v :: vs, r :: rows, hd => by
    cases hd with
    | cons h1 hd =>
      obtain ⟨fs, a, b, c⟩ := rows_firsts hT hd
      obtain ⟨x, n, t1, t2, t3, t4, rfl, hm⟩ := row_open h1
      refine ⟨.int r.1 t1 :: fs, ⟨⟨x, _, _, n, rfl, hT _ hm, rfl, rfl, rfl⟩, a⟩, by simp [b], fun v hv => ?_⟩
      rcases List.mem_cons.mp hv with rfl | hv
      · exact ⟨_, _, rfl⟩
      · exact c v hv
  | [], _ :: _, hd => by cases hd
  | _ :: _, [], hd => by cases hd

theorem getD_all {T : List (Addr × Obj)} {vs : List Value} {rows : List Row} (hd : DatAll T vs (rows.map rowD)) {i : Nat} (hi : i < rows.length) : DatIn T (vs.getD i Value.none) (rowD (rows.getD i (0, 0, 0, Str.ofString ""))) := by
  obtain ⟨v, hv, hD⟩ := hd.get (k := i) (by simpa using hi)
  have e1 : vs.getD i Value.none = v := by rw [List.getD_eq_getElem?_getD, hv]; rfl
  have e2 : (rows.map rowD)[i]'(by simpa using hi) = rowD (rows.getD i (0, 0, 0, Str.ofString "")) := by
    simp [List.getD_eq_getElem?_getD, hi]
  rw [e1, ← e2]; exact hD

theorem datAll_picks {T : List (Addr × Obj)} {vs : List Value} {rows : List Row} (hd : DatAll T vs (rows.map rowD)) : ∀ l : List Nat, (∀ i ∈ l, i < rows.length) →
    DatAll T (l.map fun i => vs.getD i Value.none) ((l.map fun i => rows.getD i (0, 0, 0, Str.ofString "")).map rowD)
  | [], _ => .nil
  | i :: l, h => .cons (getD_all hd (h i List.mem_cons_self)) (datAll_picks hd l fun j hj => h j (List.mem_cons_of_mem _ hj))

theorem range_getD (rows : List Row) (d : Row) : (List.range rows.length).map (fun i => rows.getD i d) = rows := by
  apply List.ext_getElem
  · simp
  · intro i h1 h2
    have : i < rows.length := h2
    simp [List.getD_eq_getElem?_getD, this]

theorem sorted_rows {l : Addr} {vs : List Value} {nl : Nat} {rows : List Row} {news : List (Addr × Obj)} {Q : Value → Shared → Prop} (F : Fr h₀ L s.heap m) (N : News h₀ L s.heap news) (hl : (l, listOf vs.toArray nl) ∈ news) (hD : DatAll news vs (rows.map rowD))
    (h2 : 2 ≤ rows.length) (h64 : rows.length < 64) (hn : ∀ i, i < rows.length → (rows.getD i (0, 0, 0, Str.ofString "")).2.1 = (i : Int))
    (h : ∀ D out c h', (∀ q ∈ news, q.1 < D) → Fr h₀ L h' m → News h₀ L h' ((D, listOf (List.toArray out) c) :: news) → (∃ rs : List Row, rs.Perm rows ∧ rs.Pairwise (fun a b => a.1 ≤ b.1) ∧ DatAll news out (rs.map rowD)) → Q (.ref D) { s with heap := h' }) :
    wpAny (model prog w) A (call (.builtin "sorted") [.ref l]) Q E s := by
  have hlen : vs.length = rows.length := by have := hD.length; simpa using this
  have hil : s.heap.IsList l vs.toArray := ⟨_, (N _ hl).1, rfl, nl, rfl⟩
  refine kat_sorted F N hil (by omega) (by omega) fun D e1 h' F' N' l1 => ?_
  have hT : ∀ p ∈ news, h'.get? p.1 = some p.2 := fun p hp => (N' p (List.mem_cons_of_mem _ hp)).1
  obtain ⟨fs, kt, hfl, hfi⟩ := rows_firsts hT hD
  refine kat_kind (T := .type "int") kt (by omega) (fun v hv => ?_) (by decide) ?_
  · obtain ⟨i, t, rfl⟩ := hfi v hv
    exact Looks.of_pure rfl
  have hb : (Value.type "int" != Value.type "tuple") = true := by decide
  rw [hb]
  have hrow : ∀ i, i < rows.length → 0 ≤ (rows.getD i (0, 0, 0, Str.ofString "")).2.1 ∧ (rows.getD i (0, 0, 0, Str.ofString "")).2.1 < 64 := fun i hi => by rw [hn i hi]; omega
  have inj : ∀ i j, i < rows.length → j < rows.length → i ≠ j → rowK (rows.getD i (0, 0, 0, Str.ofString "")) ≠ rowK (rows.getD j (0, 0, 0, Str.ofString "")) := fun i j hi hj hij => by
    unfold rowK; rw [hn i hi, hn j hj]; omega
  have ok := sort_ok (n := rows.length) (fun i => rowK (rows.getD i (0, 0, 0, Str.ofString ""))) inj h2
  rw [hlen]
  refine kasWp_of (n := rows.length) (fun i j C hi hj hij hC => ?_) (fun p hp => ?_) _ ok
  · show wpAny (model prog w) A.in1.in1 (keyLt' (tuples' true) (vs.getD i Value.none) (vs.getD j Value.none)) C _ _
    obtain ⟨a, ka, t1, t2, t3, t4, ea, ma⟩ := row_open (getD_all hD hi)
    obtain ⟨b, kb, u1, u2, u3, u4, eb, mb⟩ := row_open (getD_all hD hj)
    rw [ea, eb]
    exact row_lt (hT _ ma) (hT _ mb) (hrow i hi) (hrow j hj) (by rw [hn i hi, hn j hj]; omega) hC
  · obtain ⟨hp1, hp2⟩ := hp
    refine KasFin.intro F' N' (.head fun q hq => Nat.ne_of_lt (l1 q hq)) fun h'' c F'' N'' => h D _ c h'' l1 F'' N'' ⟨p.toList.map fun i => rows.getD i (0, 0, 0, Str.ofString ""), ?_, ?_, ?_⟩
    · have := List.Perm.map (fun i => rows.getD i (0, 0, 0, Str.ofString "")) hp1
      rwa [range_getD] at this
    · rw [List.pairwise_map, List.pairwise_iff_getElem]
      intro i j hi hj hij
      have hz := hp1.sz
      have hi' : i < rows.length := by have : i < p.size := by simpa using hi
                                       omega
      have hj' : j < rows.length := by have : j < p.size := by simpa using hj
                                       omega
      have e1 := hp1.at hi'
      have e2 := hp1.at hj'
      rw [List.getElem?_eq_getElem hi] at e1
      rw [List.getElem?_eq_getElem hj] at e2
      rw [Option.some.inj e1, Option.some.inj e2]
      have := hp2 i j (Nat.le_of_lt hij) hj'
      have r1 := hrow _ (hp1.lt i hi')
      have r2 := hrow _ (hp1.lt j hj')
      unfold gK rowK at this; dsimp only at this ⊢
      omega
    · exact datAll_picks hD _ fun i hi => by
        obtain ⟨k, hk, e⟩ := List.getElem_of_mem hi
        have hz := hp1.sz
        have hk' : k < rows.length := by have : k < p.size := by simpa using hk
                                         omega
        have := hp1.at hk'
        rw [List.getElem?_eq_getElem hk, e] at this
        rw [Option.some.inj this]
        exact hp1.lt k hk'
end
end

section
open PySem.Spec PySem.Calls

def LEnd (h₀ : Heap) (L : Addr) (I : Addr) (oI : Obj) (R : (Str → Option Value) → List (Addr × Obj) → Prop) (s₁ : Shared) (f : Flow) (s₂ : Shared) : Prop :=
  f = .next ∧ ∃ h' tk m' nx, s₂ = { s₁ with heap := h', toks := tk } ∧ Fr h₀ L h' m' ∧ News h₀ L h' ((I, oI) :: nx) ∧ (∀ p ∈ nx, p.1 ≠ I) ∧ R m' nx

section
variable {prog : Program} {w : World} {A : Around} {E : Value → Shared → Prop} {s : Shared} {env : Env} {h₀ : Heap} {target : Expr} {body : List Stmt} {Q : Flow → Shared → Prop}

/-- a for over a list of the ledger, any target, by an invariant over the frame and the ledger -/
theorem loopT {l : Addr} {vs : List Value} {nn : Nat} {m₀ : Str → Option Value} {news : List (Addr × Obj)} (J : Nat → (Str → Option Value) → List (Addr × Obj) → Prop)
    (hh : A.handled = none) (hl : (l, listOf vs.toArray nn) ∈ news) (F : Fr h₀ env.locals s.heap m₀) (N : News h₀ env.locals s.heap news) (hj : J 0 m₀ news) (hJl : ∀ i m nx, J i m nx → (l, listOf vs.toArray nn) ∈ nx)
    (turn : ∀ i v m₁ nx I oI s₁, vs[i]? = some v → J i m₁ nx → (∀ p ∈ nx, p.1 ≠ I) → Fr h₀ env.locals s₁.heap m₁ → News h₀ env.locals s₁.heap ((I, oI) :: nx) →
      wpAny (model prog w) A (assign target env v) (fun _ s₃ => wpAny (model prog w) A (execs body env) (LEnd h₀ env.locals I oI (J (i + 1)) s₁) E s₃) E s₁)
    (done : ∀ m₁ nx h tk, J vs.length m₁ nx → Fr h₀ env.locals h m₁ → News h₀ env.locals h nx → Q .next { s with heap := h, toks := tk }) :
    wpAny (model prog w) A (pyIter (.ref l)) (fun it s₂ => LoopAtT prog w A h₀ env target body Q E it s₂) E s := by
  have hol : s.heap.get? l = some (listOf vs.toArray nn) := (N _ hl).1
  have hls : s.heap.IsList l vs.toArray := ⟨_, hol, rfl, nn, rfl⟩
  have hne : l ≠ s.heap.objs.size := Nat.ne_of_lt (Heap.lt_size hol)
  refine wpAny_pyIter_list hls ?_
  have W := Walks.list (prog := prog) (w := w) hh s.heap.objs.size l hne vs.toArray
  have hlen : vs.toArray.size = vs.length := by simp
  rw [hlen] at W
  refine ⟨_, _, _, vs.length, _, _, m₀, news, J, rfl, W, ?_, ?_, ?_, ⟨⟨_, Heap.get?_push_size _ rfl, rfl, rfl⟩, hls.at fun o e => Heap.get?_push_of_some _ e⟩, F.push _, (fun p hp => ⟨Heap.get?_push_of_some _ (N p hp).1, (N p hp).2⟩),
    (fun i s' v Q' st h => letGo_listiter st.1 h), hj, ?_, ?_⟩
  · intro hm
    rcases List.mem_cons.mp hm with e | hm
    · exact absurd F.ns.lt (e ▸ Nat.lt_irrefl _)
    · exact (N _ hl).2.1 ((List.mem_singleton.mp hm).symm)
  · intro b hb
    rw [List.mem_singleton.mp hb]
    exact next_is_new F
  · intro p hp hI
    exact absurd (Heap.lt_size (N p hp).1) ((List.mem_singleton.mp hI) ▸ Nat.lt_irrefl _)
  · rintro i v m₁ nx s₁ own hin hP hJ hoff hown hget hfp hst F₁ N₁
    have hP' : vs[i]? = some v := by simpa using hP
    have hI0 : h₀.get? s.heap.objs.size = none := next_is_new F
    obtain ⟨⟨oI, hoI, _⟩, _⟩ := id hst
    have hIown : (s.heap.objs.size, oI) ∈ own := hfp _ (List.mem_cons.mpr (.inl rfl)) hI0 _ hoI
    have N₂ : News h₀ env.locals s₁.heap ((s.heap.objs.size, oI) :: nx) := fun p hp => by
      rcases List.mem_cons.mp hp with rfl | hp
      · exact N₁ _ (List.mem_append_left _ hIown)
      · exact N₁ p (List.mem_append_right _ hp)
    have hlo : s₁.heap.get? l = some (listOf vs.toArray nn) := (N₂ _ (List.mem_cons_of_mem _ (hJl _ _ _ hJ))).1
    have hIo : s₁.heap.get? s.heap.objs.size = some oI := (N₂ _ List.mem_cons_self).1
    refine wpAny_mono (turn i v m₁ nx _ oI s₁ hP' hJ (fun p hp e => hoff p hp (List.mem_singleton.mpr e)) F₁ N₂) (fun _ s₃ t => wpAny_mono t (fun f s₄ p => ?_) fun _ _ e => e) fun _ _ e => e
    obtain ⟨rfl, h', tk, m', nx', rfl, F', N', off', hJ'⟩ := p
    refine ⟨rfl, h', tk, m', nx', rfl, F', fun p hp => ?_, fun p hp hq => off' p hp (List.mem_singleton.mp hq), hJ'⟩
    rcases List.mem_append.mp hp with hp | hp
    · have hg := hget p hp
      rcases List.mem_cons.mp (hown p hp) with e | e
      · rw [e, hIo] at hg
        have e2 : p = (s.heap.objs.size, oI) := Prod.ext e (Option.some.inj hg).symm
        rw [e2]; exact N' _ List.mem_cons_self
      · have e' := List.mem_singleton.mp e
        rw [e', hlo] at hg
        have e2 : p = (l, listOf vs.toArray nn) := Prod.ext e' (Option.some.inj hg).symm
        rw [e2]; exact N' _ (List.mem_cons_of_mem _ (hJl _ _ _ hJ'))
    · exact N' p (List.mem_cons_of_mem _ hp)
  · rintro h' tk m' news' F' N' _ hJ
    exact done m' news' h' tk hJ F' N'
end
end

section
open PySem.Spec PySem.Calls
abbrev tupO (vs : List Value) (n : Nat) : Obj := { cls := .type "tuple", data := .seq vs.toArray n }
section
variable {prog : Program} {w : World} {A : Around} {E : Value → Shared → Prop} {s : Shared} {env : Env} {h₀ : Heap} {target : Expr} {body : List Stmt} {Q : Flow → Shared → Prop}
/-- a for over a tuple of the ledger, any target, by an invariant over the frame and the ledger -/
theorem loopTup {l : Addr} {vs : List Value} {nn : Nat} {m₀ : Str → Option Value} {news : List (Addr × Obj)} (J : Nat → (Str → Option Value) → List (Addr × Obj) → Prop)
    (hh : A.handled = none) (hl : (l, tupO vs nn) ∈ news) (F : Fr h₀ env.locals s.heap m₀) (N : News h₀ env.locals s.heap news) (hj : J 0 m₀ news) (hJl : ∀ i m nx, J i m nx → (l, tupO vs nn) ∈ nx)
    (turn : ∀ i v m₁ nx I oI s₁, vs[i]? = some v → J i m₁ nx → (∀ p ∈ nx, p.1 ≠ I) → Fr h₀ env.locals s₁.heap m₁ → News h₀ env.locals s₁.heap ((I, oI) :: nx) →
      wpAny (model prog w) A (assign target env v) (fun _ s₃ => wpAny (model prog w) A (execs body env) (LEnd h₀ env.locals I oI (J (i + 1)) s₁) E s₃) E s₁)
    (done : ∀ m₁ nx h tk, J vs.length m₁ nx → Fr h₀ env.locals h m₁ → News h₀ env.locals h nx → Q .next { s with heap := h, toks := tk }) :
    wpAny (model prog w) A (pyIter (.ref l)) (fun it s₂ => LoopAtT prog w A h₀ env target body Q E it s₂) E s := by
  have hol : s.heap.get? l = some (tupO vs nn) := (N _ hl).1
  have hls : s.heap.IsTuple l vs.toArray := ⟨_, hol, rfl, nn, rfl⟩
  have hne : l ≠ s.heap.objs.size := Nat.ne_of_lt (Heap.lt_size hol)
  refine wpAny_pyIter_tuple hls ?_
  have W := Walks.tuple (prog := prog) (w := w) hh s.heap.objs.size l hne vs.toArray
  have hlen : vs.toArray.size = vs.length := by simp
  rw [hlen] at W
  refine ⟨_, _, _, vs.length, _, _, m₀, news, J, rfl, W, ?_, ?_, ?_, ⟨⟨_, Heap.get?_push_size _ rfl, rfl, rfl⟩, hls.at fun o e => Heap.get?_push_of_some _ e⟩, F.push _, (fun p hp => ⟨Heap.get?_push_of_some _ (N p hp).1, (N p hp).2⟩),
    (fun i s' v Q' st h => letGo_tupleiter st.1 h), hj, ?_, ?_⟩
  · intro hm
    rcases List.mem_cons.mp hm with e | hm
    · exact absurd F.ns.lt (e ▸ Nat.lt_irrefl _)
    · exact (N _ hl).2.1 ((List.mem_singleton.mp hm).symm)
  · intro b hb
    rw [List.mem_singleton.mp hb]
    exact next_is_new F
  · intro p hp hI
    exact absurd (Heap.lt_size (N p hp).1) ((List.mem_singleton.mp hI) ▸ Nat.lt_irrefl _)
  · rintro i v m₁ nx s₁ own hin hP hJ hoff hown hget hfp hst F₁ N₁
    have hP' : vs[i]? = some v := by simpa using hP
    have hI0 : h₀.get? s.heap.objs.size = none := next_is_new F
    obtain ⟨⟨oI, hoI, _⟩, _⟩ := id hst
    have hIown : (s.heap.objs.size, oI) ∈ own := hfp _ (List.mem_cons.mpr (.inl rfl)) hI0 _ hoI
    have N₂ : News h₀ env.locals s₁.heap ((s.heap.objs.size, oI) :: nx) := fun p hp => by
      rcases List.mem_cons.mp hp with rfl | hp
      · exact N₁ _ (List.mem_append_left _ hIown)
      · exact N₁ p (List.mem_append_right _ hp)
    have hlo : s₁.heap.get? l = some (tupO vs nn) := (N₂ _ (List.mem_cons_of_mem _ (hJl _ _ _ hJ))).1
    have hIo : s₁.heap.get? s.heap.objs.size = some oI := (N₂ _ List.mem_cons_self).1
    refine wpAny_mono (turn i v m₁ nx _ oI s₁ hP' hJ (fun p hp e => hoff p hp (List.mem_singleton.mpr e)) F₁ N₂) (fun _ s₃ t => wpAny_mono t (fun f s₄ p => ?_) fun _ _ e => e) fun _ _ e => e
    obtain ⟨rfl, h', tk, m', nx', rfl, F', N', off', hJ'⟩ := p
    refine ⟨rfl, h', tk, m', nx', rfl, F', fun p hp => ?_, fun p hp hq => off' p hp (List.mem_singleton.mp hq), hJ'⟩
    rcases List.mem_append.mp hp with hp | hp
    · have hg := hget p hp
      rcases List.mem_cons.mp (hown p hp) with e | e
      · rw [e, hIo] at hg
        have e2 : p = (s.heap.objs.size, oI) := Prod.ext e (Option.some.inj hg).symm
        rw [e2]; exact N' _ List.mem_cons_self
      · have e' := List.mem_singleton.mp e
        rw [e', hlo] at hg
        have e2 : p = (l, tupO vs nn) := Prod.ext e' (Option.some.inj hg).symm
        rw [e2]; exact N' _ (List.mem_cons_of_mem _ (hJl _ _ _ hJ'))
    · exact N' p (List.mem_cons_of_mem _ hp)
  · rintro h' tk m' news' F' N' _ hJ
    exact done m' news' h' tk hJ F' N'
end
end

section
open PySem.Spec PySem.Calls
section
variable {prog : Program} {w : World} {A : Around} {E : Value → Shared → Prop} {s : Shared} {env : Env} {h₀ : Heap} {target : PySem.Expr} {body : List Stmt} {Q : Flow → Shared → Prop}

/-- a for over range(n), any target, by an invariant over the frame and the ledger -/
theorem loopR {r : Addr} {b₀ : Int} {t0 u0 v0 : Tok} {m₀ : Str → Option Value} {news : List (Addr × Obj)} (n : Nat) (J : Nat → (Str → Option Value) → List (Addr × Obj) → Prop)
    (hh : A.handled = none) (hm : (r, ({ cls := .type "range", data := .fields #[.int 0 t0, .int b₀ u0, .int 1 v0] } : Obj)) ∈ news) (hb : b₀ = (n : Int)) (hn : n < 1000)
    (F : Fr h₀ env.locals s.heap m₀) (N : News h₀ env.locals s.heap news) (hj : J 0 m₀ news)
    (turn : ∀ i t m₁ nx I oI s₁, i < n → J i m₁ nx → (∀ p ∈ nx, p.1 ≠ I) → Fr h₀ env.locals s₁.heap m₁ → News h₀ env.locals s₁.heap ((I, oI) :: nx) →
      wpAny (model prog w) A (assign target env (.int (i : Nat) t)) (fun _ s₃ => wpAny (model prog w) A (execs body env) (LEnd h₀ env.locals I oI (J (i + 1)) s₁) E s₃) E s₁)
    (done : ∀ m₁ nx h tk, J n m₁ nx → Fr h₀ env.locals h m₁ → News h₀ env.locals h nx → Q .next { s with heap := h, toks := tk })
    (hg : ∀ I v, letOwnedTupleGo target I v = pure () := by intro _ _; rfl) :
    wpAny (model prog w) A (pyIter (.ref r)) (fun it s₂ => LoopAtT prog w A h₀ env target body Q E it s₂) E s := by
  subst hb
  have hr : IsRange s.heap r 0 (n : Int) 1 t0 u0 v0 := (N _ hm).1
  have hsz : Builtin.Range.rangeSize 0 (n : Int) 1 = (n : Int) := by rw [rangeSize_one]; split <;> omega
  have hsmall : Builtin.Range.small 0 (n : Int) 1 = true := by
    unfold Builtin.Range.small
    rw [hsz]
    unfold Builtin.Range.rangeFitsLong
    simp
    omega
  refine wpAny_pyIter_range hr hsmall ?_
  have W := (Walks.range (prog := prog) (w := w) hh s.heap.objs.size 0 1 n).bound
  refine ⟨_, _, _, n, _, _, m₀, news, J, rfl, W, ?_, ?_, ?_, (by show IsRangeIter _ _ _ _ _; rw [hsz]; simpa using Heap.get?_push_size _ rfl), F.push _, (fun p hp => ⟨Heap.get?_push_of_some _ (N p hp).1, (N p hp).2⟩),
    ?_, hj, ?_, ?_⟩
  · intro hm'
    exact absurd F.ns.lt ((List.mem_singleton.mp hm') ▸ Nat.lt_irrefl _)
  · intro b hb
    rw [List.mem_singleton.mp hb]
    exact next_is_new F
  · intro p hp hI
    exact absurd (Heap.lt_size (N p hp).1) ((List.mem_singleton.mp hI) ▸ Nat.lt_irrefl _)
  · intro i s' v Q' _ h
    rw [hg]
    exact wpAny_pure h
  · rintro i v m₁ nx s₁ own hin ⟨_, t, rfl⟩ hJ hoff hown hget hfp hst F₁ N₁
    have hI0 : h₀.get? s.heap.objs.size = none := next_is_new F
    obtain ⟨oI, hoI⟩ : ∃ oI, s₁.heap.get? s.heap.objs.size = some oI := ⟨_, hst⟩
    have hIown : (s.heap.objs.size, oI) ∈ own := hfp _ (List.mem_cons.mpr (.inl rfl)) hI0 _ hoI
    have N₂ : News h₀ env.locals s₁.heap ((s.heap.objs.size, oI) :: nx) := fun p hp => by
      rcases List.mem_cons.mp hp with rfl | hp
      · exact N₁ _ (List.mem_append_left _ hIown)
      · exact N₁ p (List.mem_append_right _ hp)
    have e0 : (0 : Int) + (i : Nat) * 1 = (i : Nat) := by omega
    rw [e0]
    refine wpAny_mono (turn i t m₁ nx _ oI s₁ hin hJ (fun p hp e => hoff p hp (List.mem_singleton.mpr e)) F₁ N₂) (fun _ s₃ t => wpAny_mono t (fun f s₄ p => ?_) fun _ _ e => e) fun _ _ e => e
    obtain ⟨rfl, h', tk, m', nx', rfl, F', N', off', hJ'⟩ := p
    refine ⟨rfl, h', tk, m', nx', rfl, F', fun p hp => ?_, fun p hp hq => off' p hp (List.mem_singleton.mp hq), hJ'⟩
    rcases List.mem_append.mp hp with hp | hp
    · have hg' := hget p hp
      have e := List.mem_singleton.mp (hown p hp)
      rw [e, hoI] at hg'
      have e2 : p = (s.heap.objs.size, oI) := Prod.ext e (Option.some.inj hg').symm
      rw [e2]; exact N' _ List.mem_cons_self
    · exact N' p (List.mem_cons_of_mem _ hp)
  · rintro h' tk m' news' F' N' _ hJ
    exact done m' news' h' tk hJ F' N'
theorem my_range {L : Addr} {m : Str → Option Value} {Q : Value → Shared → Prop} {n : Int} {t : Tok} {news : List (Addr × Obj)} (F : Fr h₀ L s.heap m) (N : News h₀ L s.heap news)
    (h : ∀ r t0 v0 h' tk, Fr h₀ L h' m → News h₀ L h' ((r, ({ cls := .type "range", data := .fields #[.int 0 t0, .int n t, .int 1 v0] } : Obj)) :: news) → (∀ p ∈ news, p.1 < r) → Q (.ref r) { s with heap := h', toks := tk }) :
    wpAny (model prog w) A (call (.type "range") [.int n t]) Q E s := by
  refine call_range_1 (h s.heap.objs.size s.toks (s.toks + 1) _ _ (F.push _) (fun p hp => ?_) fun p hp => Heap.lt_size (N p hp).1)
  rcases List.mem_cons.mp hp with rfl | hp
  · exact ⟨Heap.get?_push_size _ rfl, fun e => absurd F.ns.lt (e ▸ Nat.lt_irrefl _), next_is_new F⟩
  · exact ⟨Heap.get?_push_of_some _ (N p hp).1, (N p hp).2⟩
end
end

section
theorem item_ints {prog : Program} {w : World} {A : Around} {E : Value → Shared → Prop} {s : Shared} {h₀ : Heap} {L l : Addr}
    {value slice : PySem.Expr} {news : List (Addr × Obj)} {vs : List Value} {ns : List Int} {nl : Nat} {k : Int} {u : Tok} {Q : Value → Shared → Prop}
    (N : News h₀ L s.heap news) (hm : (l, listOf vs.toArray nl) ∈ news) (hi : IntsAre vs ns) (h0 : 0 ≤ k) (h1 : k < (ns.length : Int)) (hfit : k < 2 ^ 63)
    (h : ∀ i t, Q (.int i t) s)
    (hs : subscripted slice false (.ref l) (.int k u) = operate [.ref l, .int k u] (getItem (.ref l) (.int k u)) := by with_unfolding_all rfl) :
    wpAny (model prog w) A (subscriptTail value slice (.ref l) (.int k u)) Q E s := by
  have hk : k.toNat < ns.length := by omega
  obtain ⟨t, hx⟩ := hi.get k.toNat (ns[k.toNat]'hk) (List.getElem?_eq_getElem hk)
  have hl : s.heap.IsList l vs.toArray := ⟨_, (N _ hm).1, rfl, nl, rfl⟩
  exact tail_any hl.typeIs slot_list_getitem.lookup (wpAny_getItem_list hl h0 hfit (by simpa using hx) (h _ _)) hs

local macro_rules | `(tactic| k_all) => `(tactic| assumption)
local macro_rules | `(tactic| k_memK) => `(tactic| assumption)
local macro_rules | `(tactic| walk_at "subscriptTail") => `(tactic| (k_here; (with_reducible show wpAny _ _ (subscriptTail _ _ (Value.ref _) (Value.int _ _)) _ _ _); (with_unfolding_all refine' item_ints ?k1 ?k2 ?k3 ?k4 ?k5 ?k6 ?_ ?k7; (case k1 => k_asm); (case k2 => k_memK); (case k3 => assumption); (case k4 => omega); (case k5 => omega); (case k6 => omega); (case k7 => with_unfolding_all rfl); k_whole); intro i' t'))

theorem drawn_spec {w : World} {mean : ExcName → Option Value} {mg mb : Str → Option Value} {dp un : Nat} {gd : Option (List Code)} {cn : Str} {cs : Scope} {a : Addr} {ccd : Value} {cl : List (Str × Addr)}
    {outer : List Env} {A₀ : Around} {base h₀ : Heap} {L : Addr} {m : Str → Option Value} {s : Shared} {rest : List (Addr × Obj)} {b l : Addr} {vs : List Value} {ns : List Int} {n nl : Nat} {k many : Int} {t tm : Tok}
    {Q E : Value → Shared → Prop}
    (B : Below A₀ base outer h₀) (F : Fr h₀ L s.heap m) (X : (hd.heap_39 w.params).In h₀) (T : Top hd.view_39 (looseW hd.view_39 []) mean mg mb h₀) (hk : cs.kind = .function)
    (N : News h₀ L s.heap ((b, listOf #[.ref l, .int k t] n) :: rest)) (hl : (l, listOf vs.toArray nl) ∈ rest) (hi : IntsAre vs ns) (hoff : ∀ p ∈ rest, p.1 ≠ b)
    (hk0 : 0 ≤ k) (hk1 : k < 1000) (hns : ns.length < 1000) (hm : 0 < many) (hm2 : many < 10 ^ 12) (hd : dp < 900) (hu : un < 1000)
    (h : ∀ r t' tr n' h' tk, 0 ≤ r → r < many → Fr h₀ L h' m → News h₀ L h' ((b, listOf #[.ref l, .int (k + 1) t'] n') :: rest) → Q (.int r tr) { s with heap := h', toks := tk }) :
    wpAny (model PySem.Challenge.rw_sj0106_01.row.prog w) (ktrTop dp un gd cn cs L a ccd cl outer) (call (.ref 173) [.ref b, .int many tm]) Q E s := by
  have hMk := kstMark
  have hL := hi.length
  refine wpAny_call ?_
  k_dflt ktr_enter
  k_steps
  all_goals exact h _ _ _ _ _ _ (Int.fmod_nonneg_of_pos _ hm) (Int.fmod_lt_of_pos _ hm) (by assumption) (by assumption)
end

section
local macro_rules | `(tactic| walk_at "exec Assign cons ListComp") => `(tactic| (k_here; k_dflt (refine compA (F₀ := by k_asm) (by rfl) (by with_unfolding_all rfl) (by with_unfolding_all rfl) (by decide) (by rfl) (by decide) (by rfl) (by rfl) ?_)))

def waitO (o p w : Int) : Option Int := if 0 < o then (if 0 < p then some (max (min o p) (3 * w)) else some (max o (3 * w))) else if 0 < p then some (max p (3 * w)) else none
def optV : Option Int → Tok → Value
  | none, _ => .none
  | some i, t => .int i t

def posV : Value → Option Value
  | .int i t => if 0 < i then some (.int i t) else none
  | _ => none

theorem Qint {Q : Value → Shared → Prop} {x : Option Int} {v : Int} {t : Tok} {s : Shared} (h : Q (optV x t) s) (e : x = some v) : Q (.int v t) s := by rw [e] at h; exact h
theorem Qnone {Q : Value → Shared → Prop} {x : Option Int} {t : Tok} {s : Shared} (h : Q (optV x t) s) (e : x = none) : Q .none s := by rw [e] at h; exact h
theorem wait_spec {w : World} {mean : ExcName → Option Value} {mg mb : Str → Option Value} {dp un : Nat} {gd : Option (List Code)} {cn : Str} {cs : Scope} {a : Addr} {ccd : Value} {cl : List (Str × Addr)}
    {outer : List Env} {A₀ : Around} {base h₀ : Heap} {L : Addr} {m : Str → Option Value} {s : Shared} {news : List (Addr × Obj)} {o p pw : Int} {to tp tw : Tok}
    {Q E : Value → Shared → Prop}
    (B : Below A₀ base outer h₀) (F : Fr h₀ L s.heap m) (X : (hd.heap_39 w.params).In h₀) (T : Top hd.view_39 (looseW hd.view_39 []) mean mg mb h₀) (hk : cs.kind = .function)
    (N : News h₀ L s.heap news) (hw0 : 0 ≤ pw) (hw1 : pw < 10 ^ 6) (ho : o < 10 ^ 6) (hp : p < 10 ^ 6)
    (hd : dp < 900) (hu : un < 1000)
    (h : ∀ tr h' tk, Fr h₀ L h' m → News h₀ L h' news → Q (optV (waitO o p pw) tr) { s with heap := h', toks := tk }) :
    wpAny (model PySem.Challenge.rw_sj0106_01.row.prog w) (ktrTop dp un gd cn cs L a ccd cl outer) (call (.ref 26) [.int o to, .int p tp, .int pw tw]) Q E s := by
  refine wpAny_call ?_
  k_dflt ktr_enter
  k_steps
  rename_i D' h' F' N' l1
  refine ⟨D', [.int o to, .int p tp], _, true, _, fun i ys nw => nw = (D', srcO true [.int o to, .int p tp] 0) :: news ∧ ys = ([Value.int o to, Value.int p tp].take i).filterMap posV, rfl, rfl, F', N', List.mem_cons_self, Nat.le_of_ble_eq_true rfl, ⟨rfl, rfl⟩, (by rintro i ys nw ⟨rfl, _⟩; exact List.mem_cons_self), ?_, ?_⟩
  · intro C I D nCI nCD nDI nCL hC₀ i v ys pv nw oI h1 tk1 E' hP hJ hPv F1 N1 off
    obtain ⟨rfl, rfl⟩ := hJ
    obtain ⟨oC, m', rfl, hn⟩ := hPv
    obtain ⟨n, tn, rfl⟩ : ∃ n tn, v = .int n tn := by
      match i, hP with
      | 0, hP => exact ⟨_, _, (Option.some.inj hP).symm⟩
      | 1, hP => exact ⟨_, _, (Option.some.inj hP).symm⟩
    have e1 := fun (k : Option Value) (hk : posV (.int n tn) = k) => show ([Value.int o to, Value.int p tp].take (i + 1)).filterMap posV = ([Value.int o to, Value.int p tp].take i).filterMap posV ++ k.toList by
      rw [List.take_add_one, hP, List.filterMap_append, ← hk]; cases hq : posV (.int n tn) <;> simp [hq]
    refine cAssign1 (by rfl) (by rfl) F1 N1 hn nCI nCD (fun p hp => (off p hp).2.2) fun h2 oC2 m2 tk2 hn2 hx2 F2 N2 => ?_
    clear hn N1 F1
    simp only [List.cons_append, List.nil_append] at N2
    refine wpAny_tests_one ?_
    k_steps
    all_goals (refine CEnd.calm hn2 F2 N2 off ⟨rfl, ?_⟩)
    · rw [e1 (some (.int n tn)) (by simp_all [posV])]; rfl
    · rw [e1 none (by simp_all [posV])]; simp
  · rintro ys nw ⟨rfl, rfl⟩ D h1 tk1 F1 N1 oD
    by_cases h0 : 0 < o <;> by_cases h1 : 0 < p <;> simp only [posV, h0, h1, List.length_cons, List.length_nil, List.take_succ_cons, List.take_zero, List.filterMap_cons, List.filterMap_nil, if_true, if_false] at N1 <;> dsimp only at N1 ⊢
    all_goals k_steps
    all_goals (rename News h₀ _ _ _ => kN; rename Fr h₀ _ _ _ => kF)
    all_goals first
      | exact Qnone (h 0 _ _ kF (fun p hp => kN p (by simp [hp]))) (by unfold waitO; simp only [h0, h1, if_true, if_false])
      | (refine Qint (h _ _ _ kF (fun p hp => kN p (by simp [hp]))) ?_; unfold waitO; simp only [h0, h1, if_true, if_false]; congr 1; split <;> omega)
end

section
local macro_rules | `(tactic| k_all) => `(tactic| assumption)
local macro_rules | `(tactic| k_memK) => `(tactic| assumption)
local macro_rules | `(tactic| walk_at "call ref") => `(tactic| (k_here; (with_reducible show wpAny _ _ (call (Value.ref 26) _ _) _ _ _); k_dflt (refine' wait_spec ?kB ?kF ?kX ?kT ?kK ?kN ?k0 ?k1 ?k2 ?k3 ?k4 ?k5 ?_; (case kB => k_asm); (case kF => k_asm); (case kX => k_asm); (case kT => k_asm); (case kK => exact rfl); (case kN => k_asm); (case k0 => omega); (case k1 => omega); (case k2 => omega); (case k3 => omega); (case k4 => ((try simp only [depth_deeper, depth_in1, depth_under_make, depth_under_kw]); (try dsimp only [ktrTop]); omega)); (case k5 => ((try simp only [units_deeper, units_in1]); (try dsimp only [ktrTop]); omega)); k_whole); intro tr' h' tk' F' N'; (rcases hq' : waitO _ _ _ with _ | i') <;> simp only [optV]))

def dlO : Option Int → Option Int → Option Int
  | some w, some s => some (s + w)
  | _, _ => none

abbrev idleD (h1 h2 h3 h4 : Int) (k1 k2 k3 k4 : Tok) (own peer since asked : Value) : Obj := dictOf [⟨h1, .str "own" k1, own⟩, ⟨h2, .str "peer" k2, peer⟩, ⟨h3, .str "since" k3, since⟩, ⟨h4, .str "has_asked" k4, asked⟩] 4

theorem deadline_spec {w : World} {mean : ExcName → Option Value} {mg mb : Str → Option Value} {dp un : Nat} {gd : Option (List Code)} {cn : Str} {cs : Scope} {a : Addr} {ccd : Value} {cl : List (Str × Addr)}
    {outer : List Env} {A₀ : Around} {base h₀ : Heap} {L : Addr} {m : Str → Option Value} {s : Shared} {news : List (Addr × Obj)} {x d : Addr} {h1 h2 h3 h4 : Int} {k1 k2 k3 k4 to tp ts : Tok} {o p pw : Int} {si : Option Int} {av : Value} {tw : Tok}
    {Q E : Value → Shared → Prop}
    (B : Below A₀ base outer h₀) (F : Fr h₀ L s.heap m) (X : (hd.heap_39 w.params).In h₀) (T : Top hd.view_39 (looseW hd.view_39 []) mean mg mb h₀) (hk : cs.kind = .function)
    (N : News h₀ L s.heap news) (hx : (x, instObj 85 d) ∈ news) (hdx : (d, idleD h1 h2 h3 h4 k1 k2 k3 k4 (.int o to) (.int p tp) (optV si ts) av) ∈ news) (hw0 : 0 ≤ pw) (hw1 : pw < 10 ^ 6) (ho : o < 10 ^ 6) (hp : p < 10 ^ 6)
    (hd : dp < 800) (hu : un < 900)
    (h : ∀ tr h' tk, Fr h₀ L h' m → News h₀ L h' news → Q (optV (dlO (waitO o p pw) si) tr) { s with heap := h', toks := tk }) :
    wpAny (model PySem.Challenge.rw_sj0106_01.row.prog w) (ktrTop dp un gd cn cs L a ccd cl outer) (call (.ref 68) [.ref x, .int pw tw]) Q E s := by
  cases si with
  | none =>
    simp only [optV] at hdx
    refine wpAny_call ?_
    k_dflt ktr_enter
    k_steps
    all_goals (rename News h₀ _ _ _ => kN; rename Fr h₀ _ _ _ => kF; rename waitO _ _ _ = _ => hW)
    all_goals first | exact Qnone (h 0 _ _ kF kN) (by simp [hW, dlO]) | exact Qint (h _ _ _ kF kN) (by simp [hW, dlO])
  | some i =>
    simp only [optV] at hdx
    refine wpAny_call ?_
    k_dflt ktr_enter
    k_steps
    all_goals (rename News h₀ _ _ _ => kN; rename Fr h₀ _ _ _ => kF; rename waitO _ _ _ = _ => hW)
    all_goals first | exact Qnone (h 0 _ _ kF kN) (by simp [hW, dlO]) | exact Qint (h _ _ _ kF kN) (by simp [hW, dlO])

def overO : Option Int → Int → Bool
  | some e, now => decide (e ≤ now)
  | none, _ => false

local macro_rules | `(tactic| walk_at "call ref") => `(tactic| (k_here; (with_reducible show wpAny _ _ (call (Value.ref 68) _ _) _ _ _); k_dflt (refine' deadline_spec ?kB ?kF ?kX ?kT ?kK ?kN ?kx ?kd ?k0 ?k1 ?k2 ?k3 ?k4 ?k5 ?_; (case kB => k_asm); (case kF => k_asm); (case kX => k_asm); (case kT => k_asm); (case kK => exact rfl); (case kN => k_asm); (case kx => k_mem); (case kd => k_mem); (case k0 => omega); (case k1 => omega); (case k2 => omega); (case k3 => omega); (case k4 => ((try simp only [depth_deeper, depth_in1, depth_under_make, depth_under_kw]); (try dsimp only [ktrTop]); omega)); (case k5 => ((try simp only [units_deeper, units_in1]); (try dsimp only [ktrTop]); omega)); k_whole); intro tr' h' tk' F' N'; (rcases hq' : dlO (waitO _ _ _) _ with _ | i') <;> simp only [optV]))

theorem Qbool {Q : Value → Shared → Prop} {b c : Bool} {s : Shared} (h : Q (.bool b) s) (e : b = c) : Q (.bool c) s := by rw [e] at h; exact h

theorem over_spec {w : World} {mean : ExcName → Option Value} {mg mb : Str → Option Value} {dp un : Nat} {gd : Option (List Code)} {cn : Str} {cs : Scope} {a : Addr} {ccd : Value} {cl : List (Str × Addr)}
    {outer : List Env} {A₀ : Around} {base h₀ : Heap} {L : Addr} {m : Str → Option Value} {s : Shared} {news : List (Addr × Obj)} {x d : Addr} {h1 h2 h3 h4 : Int} {k1 k2 k3 k4 to tp ts : Tok} {o p pw now : Int} {si : Option Int} {av : Value} {tw tn : Tok}
    {Q E : Value → Shared → Prop}
    (B : Below A₀ base outer h₀) (F : Fr h₀ L s.heap m) (X : (hd.heap_39 w.params).In h₀) (T : Top hd.view_39 (looseW hd.view_39 []) mean mg mb h₀) (hk : cs.kind = .function)
    (N : News h₀ L s.heap news) (hx : (x, instObj 85 d) ∈ news) (hdx : (d, idleD h1 h2 h3 h4 k1 k2 k3 k4 (.int o to) (.int p tp) (optV si ts) av) ∈ news) (hw0 : 0 ≤ pw) (hw1 : pw < 10 ^ 6) (ho : o < 10 ^ 6) (hp : p < 10 ^ 6)
    (hd : dp < 700) (hu : un < 800)
    (h : ∀ h' tk, Fr h₀ L h' m → News h₀ L h' news → Q (.bool (overO (dlO (waitO o p pw) si) now)) { s with heap := h', toks := tk }) :
    wpAny (model PySem.Challenge.rw_sj0106_01.row.prog w) (ktrTop dp un gd cn cs L a ccd cl outer) (call (.ref 75) [.ref x, .int now tn, .int pw tw]) Q E s := by
  refine wpAny_call ?_
  k_dflt ktr_enter
  k_steps
  all_goals (rename News h₀ _ _ _ => kN; rename Fr h₀ _ _ _ => kF; rename dlO _ _ = _ => hW; exact Qbool (h _ _ kF kN) (by rw [hW]; rfl))

theorem over_specB (b : Bool) {w : World} {mean : ExcName → Option Value} {mg mb : Str → Option Value} {dp un : Nat} {gd : Option (List Code)} {cn : Str} {cs : Scope} {a : Addr} {ccd : Value} {cl : List (Str × Addr)}
    {outer : List Env} {A₀ : Around} {base h₀ : Heap} {L : Addr} {m : Str → Option Value} {s : Shared} {news : List (Addr × Obj)} {x d : Addr} {h1 h2 h3 h4 : Int} {k1 k2 k3 k4 to tp ts : Tok} {o p pw now : Int} {si : Option Int} {av : Value} {tw tn : Tok}
    {Q E : Value → Shared → Prop}
    (B : Below A₀ base outer h₀) (F : Fr h₀ L s.heap m) (X : (hd.heap_39 w.params).In h₀) (T : Top hd.view_39 (looseW hd.view_39 []) mean mg mb h₀) (hk : cs.kind = .function)
    (N : News h₀ L s.heap news) (hx : (x, instObj 85 d) ∈ news) (hdx : (d, idleD h1 h2 h3 h4 k1 k2 k3 k4 (.int o to) (.int p tp) (optV si ts) av) ∈ news) (hw0 : 0 ≤ pw) (hw1 : pw < 10 ^ 6) (ho : o < 10 ^ 6) (hp : p < 10 ^ 6)
    (hd : dp < 700) (hu : un < 800)
    (hb : overO (dlO (waitO o p pw) si) now = b) (h : ∀ h' tk, Fr h₀ L h' m → News h₀ L h' news → Q (.bool b) { s with heap := h', toks := tk }) :
    wpAny (model PySem.Challenge.rw_sj0106_01.row.prog w) (ktrTop dp un gd cn cs L a ccd cl outer) (call (.ref 75) [.ref x, .int now tn, .int pw tw]) Q E s :=
  over_spec B F X T hk N hx hdx hw0 hw1 ho hp hd hu fun h' tk F' N' => by rw [hb]; exact h h' tk F' N'
end

section
local macro_rules | `(tactic| k_all) => `(tactic| first | exact List.forall_mem_nil _ | (refine' List.forall_mem_cons.mpr ⟨?a, ?b⟩; (case a => k_ne); (case b => k_all)) | with_reducible assumption | kst_allNe)
local macro_rules | `(tactic| k_room) => `(tactic| ((try simp only [depth_under_make, depth_under_kw, depth_in1, depth_deeper, depth_caller]); (try dsimp only [ktrTop]); (simp only [recursionLimit]); omega))
local macro_rules | `(tactic| k_memK) => `(tactic| with_reducible_and_instances assumption)
local macro_rules | `(tactic| k_mem) => `(tactic| with_reducible_and_instances assumption)
local macro_rules | `(tactic| walk_at "callWith ref") => `(tactic| (k_here; k_dflt (first | refine' callWith_K ?k1 ?k2 ?_; (case k1 => with_reducible assumption); (case k2 => k_is); k_whole | refine' callWith_K0 ?k1 ?k2 ?_; (case k1 => exact Frag.In.keeps (by with_reducible assumption) (Fr.keep (by with_reducible assumption))); (case k2 => k_is); k_whole)))
local macro_rules | `(tactic| walk_at "exec Assign cons ListComp") => `(tactic| (k_here; k_dflt (refine compA (F₀ := by k_asm) (by rfl) (by with_unfolding_all rfl) (by with_unfolding_all rfl) (by decide) (by rfl) (by decide) (by rfl) (by rfl) ?_)))
local macro_rules | `(tactic| walk_at "pyIter ref") => `(tactic| (k_here; (with_reducible show wpAny _ _ (pyIter (Value.ref _)) (fun it s₂ => TurnsAt _ _ _ _ _ _ _ _ _ it s₂) _ _); (with_unfolding_all refine' iter_tupTurns ?h ?F ?N ?m ?c ?d ?_; (case h => rfl); (case F => k_asm); (case N => k_asm); (case m => exact List.Mem.head _); (case c => rfl); (case d => rfl); k_whole); intro i' l1; (try k_lt l1); (try dsimp only [List.map])))
local macro_rules | `(tactic| walk_at "UnrEndW") => `(tactic| (refine' endW ?F ?N ?D ?o ?_; (case F => k_asm); (case N => k_asm); (case D => first | exact .here | exact .skip .here | exact .skip (.skip .here) | exact .skip (.skip (.skip .here)) | exact .skip (.skip (.skip (.skip .here))) | exact .skip (.skip (.skip (.skip (.skip .here)))) | exact .skip (.skip (.skip (.skip (.skip (.skip .here))))) | exact .skip (.skip (.skip (.skip (.skip (.skip (.skip .here)))))) | exact .skip (.skip (.skip (.skip (.skip (.skip (.skip (.skip .here))))))) | exact .skip (.skip (.skip (.skip (.skip (.skip (.skip (.skip (.skip .here)))))))) | exact .skip (.skip (.skip (.skip (.skip (.skip (.skip (.skip (.skip (.skip .here))))))))) | exact .skip (.skip (.skip (.skip (.skip (.skip (.skip (.skip (.skip (.skip (.skip .here))))))))))); (case o => k_all); (refine ⟨by k_subL, ?_⟩)))
local macro_rules | `(tactic| walk_at "compareOp Eq str str") => `(tactic| first | (refine eqLit true (by decide +kernel) ?_) | (refine eqLit false (by decide +kernel) ?_))

section
local macro_rules | `(tactic| walk_at "call ref") => `(tactic| (k_here; (with_reducible show wpAny _ _ (call (Value.ref 75) _ _) _ _ _); k_dflt (first | (refine' over_specB false ?kB ?kF ?kX ?kT ?kK ?kN ?kx ?kd ?k0 ?k1 ?k2 ?k3 ?k4 ?k5 ?kb ?_; (case kB => k_asm); (case kF => k_asm); (case kX => k_asm); (case kT => k_asm); (case kK => exact rfl); (case kN => k_asm); (case kx => k_mem); (case kd => k_mem); (case k0 => omega); (case k1 => omega); (case k2 => omega); (case k3 => omega); (case k4 => ((try simp only [depth_deeper, depth_in1, depth_under_make, depth_under_kw]); (try dsimp only [ktrTop]); omega)); (case k5 => ((try simp only [units_deeper, units_in1]); (try dsimp only [ktrTop]); omega)); (case kb => ((rename dlO _ _ = _ => hW'); rw [hW']; simp only [overO]; first | exact decide_eq_false (by omega) | exact decide_eq_true (by omega))); k_whole) | (refine' over_specB true ?kB ?kF ?kX ?kT ?kK ?kN ?kx ?kd ?k0 ?k1 ?k2 ?k3 ?k4 ?k5 ?kb ?_; (case kB => k_asm); (case kF => k_asm); (case kX => k_asm); (case kT => k_asm); (case kK => exact rfl); (case kN => k_asm); (case kx => k_mem); (case kd => k_mem); (case k0 => omega); (case k1 => omega); (case k2 => omega); (case k3 => omega); (case k4 => ((try simp only [depth_deeper, depth_in1, depth_under_make, depth_under_kw]); (try dsimp only [ktrTop]); omega)); (case k5 => ((try simp only [units_deeper, units_in1]); (try dsimp only [ktrTop]); omega)); (case kb => ((rename dlO _ _ = _ => hW'); rw [hW']; simp only [overO]; first | exact decide_eq_false (by omega) | exact decide_eq_true (by omega))); k_whole)); intro h' tk' F' N'))
local macro_rules | `(tactic| walk_at "compareOp Eq ref ref") => `(tactic| (k_here; (with_reducible show wpAny _ _ (compareOp CmpOp.Eq (Value.ref _) (Value.ref _)) _ _ _); k_dflt (refine' eq_dataH (reads_list_at (News.get ?N ?m1) ?c1 ?d1 ?r1) (reads_list_at (News.get ?N2 ?m2) ?c2 ?d2 ?r2) ?s1 ?s2 ?u ?_; (case N => k_asm); (case m1 => k_mem); (case c1 => rfl); (case d1 => rfl); (case N2 => k_asm); (case m2 => k_mem); (case c2 => rfl); (case d2 => rfl); (case r1 => repeat (first | exact ReadsAll.nil | refine ReadsAll.cons (Reads.bool _) ?_)); (case r2 => repeat (first | exact ReadsAll.nil | refine ReadsAll.cons (Reads.bool _) ?_)); (case s1 => ked_shaped); (case s2 => ked_shaped); (case u => ((try simp only [units_deeper, units_in1]); (try dsimp only [ktrTop]); (have hcL9 := cLine_is); omega))); ked_norm))

theorem closes_spec {w : World} {mean : ExcName → Option Value} {mg mb : Str → Option Value} {dp un : Nat} {gd : Option (List Code)} {cn : Str} {cs : Scope} {a : Addr} {ccd : Value} {cl : List (Str × Addr)}
    {outer : List Env} {A₀ : Around} {base h₀ : Heap} {L : Addr} {m : Str → Option Value} {s : Shared} {news : List (Addr × Obj)} {x d : Addr} {h1 h2 h3 h4 : Int} {k1 k2 k3 k4 to tp ts : Tok} {o p pw en : Int} {si : Option Int} {av : Value} {tw te : Tok}
    {Q E : Value → Shared → Prop}
    (B : Below A₀ base outer h₀) (F : Fr h₀ L s.heap m) (X : (hd.heap_39 w.params).In h₀) (T : Top hd.view_39 (looseW hd.view_39 []) mean mg mb h₀) (hk : cs.kind = .function)
    (N : News h₀ L s.heap news) (hx : (x, instObj 85 d) ∈ news) (hdx : (d, idleD h1 h2 h3 h4 k1 k2 k3 k4 (.int o to) (.int p tp) (optV si ts) av) ∈ news) (hw0 : 0 ≤ pw) (hw1 : pw < 10 ^ 6) (ho : o < 10 ^ 6) (hp : p < 10 ^ 6)
    (hdl : dlO (waitO o p pw) si = some en) (he1 : -(10 ^ 15) < en) (he2 : en < 10 ^ 15)
    (hd : dp < 600) (hu : un < 700)
    (h : ∀ h' tk, Fr h₀ L h' m → News h₀ L h' news → Q (.bool true) { s with heap := h', toks := tk }) :
    wpAny (model PySem.Challenge.rw_sj0106_01.row.prog w) (ktrTop dp un gd cn cs L a ccd cl outer) (call (.ref 190) [.ref x, .int en te, .int pw tw]) Q E s := by
  refine wpAny_call ?_
  k_dflt ktr_enter
  k_steps
  (rename News h₀ _ _ _ => kN; rename Fr h₀ _ _ _ => kF)
  exact Qbool (b := true) (h _ _ kF (fun p hp => kN p (by simp [hp]))) (by decide)
end

section
abbrev Ask := Int × Int × Int
def askD (a : Ask) : Dat := .tuple [.int a.1, .int a.2.1, .int a.2.2]
def row4 (way : Int) (k : Nat) (a : Ask) : List Row :=
  [(a.1, (k : Int), a.2.1, Str.ofString "ask"), (a.1 + way, ((k + 1 : Nat) : Int), 1 - a.2.1, Str.ofString "came"), (a.1 + way + a.2.2, ((k + 2 : Nat) : Int), 1 - a.2.1, Str.ofString "answer"), (a.1 + 2 * way + a.2.2, ((k + 3 : Nat) : Int), a.2.1, Str.ofString "came")]
def rowsF (way : Int) (acc : List Row) (a : Ask) : List Row := acc ++ row4 way acc.length a
def rowsOf (way : Int) (asks : List Ask) : List Row := asks.foldl (rowsF way) []

theorem ask_open {T : List (Addr × Obj)} {v : Value} {r : Ask} (h : DatIn T v (askD r)) :
    ∃ a n t1 t2 t3, v = .ref a ∧ (a, ({ cls := .type "tuple", data := .seq #[.int r.1 t1, .int r.2.1 t2, .int r.2.2 t3] n } : Obj)) ∈ T := by
  cases h with
  | tuple hm hd =>
    cases hd with
    | cons h1 hd => cases hd with
      | cons h2 hd => cases hd with
        | cons h3 hd =>
          cases hd; cases h1; cases h2; cases h3
          exact ⟨_, _, _, _, _, rfl, hm⟩

theorem rows_take (way : Int) (asks : List Ask) (i : Nat) (h : i < asks.length) : rowsOf way (asks.take (i + 1)) = rowsF way (rowsOf way (asks.take i)) asks[i] := by
  unfold rowsOf
  rw [List.take_add_one, List.getElem?_eq_getElem h, List.foldl_append]
  rfl
theorem rows_len (way : Int) (asks : List Ask) : (rowsOf way asks).length = 4 * asks.length := by
  have : ∀ (asks : List Ask) (acc : List Row), (asks.foldl (rowsF way) acc).length = acc.length + 4 * asks.length := by
    intro asks
    induction asks with
    | nil => intro acc; simp
    | cons a r ih => intro acc; rw [List.foldl_cons, ih]; simp [rowsF, row4]; omega
  simpa [rowsOf] using this asks []

theorem my_len {prog : Program} {w : World} {A : Around} {E : Value → Shared → Prop} {s : Shared} {h₀ : Heap} {L l : Addr} {news : List (Addr × Obj)} {arr : Array Value} {c : Nat} {Q : Value → Shared → Prop} (N : News h₀ L s.heap news) (hm : (l, listOf arr c) ∈ news) (hfit : arr.size < 1000)
    (h : Q (.int (arr.size : Int) (s.toks + 1)) { s with toks := s.toks + 1 + 1 }) : wpAny (model prog w) A (call (.builtin "len") [.ref l]) Q E s := by
  have hl : s.heap.IsList l arr := ⟨_, (N _ hm).1, rfl, c, rfl⟩
  exact len_list hl (by omega) h
theorem my_append {prog : Program} {w : World} {A : Around} {E : Value → Shared → Prop} {s : Shared} {h₀ : Heap} {L l : Addr} {m : Str → Option Value} {news news' : List (Addr × Obj)} {arr : Array Value} {c : Nat} {x : Value} {Q : Value → Shared → Prop} (F : Fr h₀ L s.heap m) (N : News h₀ L s.heap news)
    (U : Upd l (listOf arr c) (listOf (arr.push x) (c + 1)) news news') (hfit : arr.size < 1000) (h : ∀ h', Fr h₀ L h' m → News h₀ L h' news' → Q .none { s with heap := h' }) : wpAny (model prog w) A (call (.builtin "list.append") [.ref l, x]) Q E s := by
  obtain ⟨pre, post, rfl, rfl, a, b⟩ := U.split
  have z := N (l, listOf arr c) (List.mem_append_right _ List.mem_cons_self)
  refine append_at (hsz := by rw [sizeLine_eq]; omega) z.1 fun h' hs hl => h h' (F.change hs z.2.1 z.2.2) fun p hp => ?_
  rcases List.mem_append.mp hp with hp | hp
  · have y := N p (List.mem_append_left _ hp)
    exact ⟨hs.extBut _ _ (a p hp) y.1, y.2⟩
  · rcases List.mem_cons.mp hp with rfl | hp
    · exact ⟨hl, z.2⟩
    · have y := N p (List.mem_append_right _ (List.mem_cons_of_mem _ hp))
      exact ⟨hs.extBut _ _ (b p hp) y.1, y.2⟩
local macro_rules | `(tactic| walk_at "call builtin:list.append") => `(tactic| (k_here; (with_reducible show wpAny _ _ (call (Value.builtin "list.append") [Value.ref _, _]) _ _ _); k_dflt (refine' my_append ?F ?N ?U ?f ?_; (case F => k_asm); (case N => k_asm); (case U => k_upd); (case f => ((try simp only [Array.size_push, List.size_toArray, List.length_append, List.length_cons, List.length_nil]); omega)); intro h' F' N')))
local macro_rules | `(tactic| walk_at "call builtin:len") => `(tactic| (k_here; (with_reducible show wpAny _ _ (call (Value.builtin "len") [Value.ref _]) _ _ _); k_dflt (refine' my_len ?N ?m ?f ?_; (case N => k_asm); (case m => k_mem); (case f => ((try simp only [Array.size_push, List.size_toArray, List.length_append, List.length_cons, List.length_nil]); omega)))))

local macro_rules | `(tactic| walk_at "exec For Tuple Name") => `(tactic| (k_here; (rename Fr _ _ _ _ => lF'); (with_unfolding_all refine For_invTF lF' ?_ (by intro _; rfl))))
local macro_rules | `(tactic| walk_at "eval ListComp") => `(tactic| (k_here; k_dflt (refine compE (by k_asm) (by with_unfolding_all rfl) (by decide) (by rfl) (by decide) ?_)))

def EvJ (r : Addr) (news : List (Addr × Obj)) (way : Int) (asks : List Ask) (m₀ : Str → Option Value) (i : Nat) (m' : Str → Option Value) (nx : List (Addr × Obj)) : Prop :=
  ∃ vs n T, nx = (r, listOf (List.toArray vs) n) :: T ∧ (∀ p ∈ T, p.1 ≠ r) ∧ (∀ p ∈ news, p ∈ T) ∧ DatAll T vs ((rowsOf way (asks.take i)).map rowD) ∧ ∀ z, ([Str.ofString "time", Str.ofString "side", Str.ofString "late", Str.ofString "row"]).contains z = false → m' z = m₀ z

theorem fr_stored {stored : List Str} {h₀ h : Heap} {L : Addr} {m₀ m' : Str → Option Value} (F : Fr h₀ L h m') (hm : ∀ z, stored.contains z = false → m' z = m₀ z) : Fr h₀ L h (fun y => if stored.contains y = true then m' y else m₀ y) := by
  have e : (fun y => if stored.contains y = true then m' y else m₀ y) = m' := by
    funext y
    cases hc : stored.contains y with
    | true => simp
    | false => simp only [Bool.false_eq_true, if_false]; exact (hm y hc).symm
  rw [e]; exact F

theorem events_iter {prog : Program} {w : World} {A : Around} {E : Value → Shared → Prop} {s : Shared} {env : Env} {h₀ : Heap} {target : Expr} {body : List Stmt} {Q : Flow → Shared → Prop} {m₀ : Str → Option Value} {r q : Addr} {us : List Value} {nq : Nat} {news : List (Addr × Obj)} {asks : List Ask} {way : Int}
    (hh : A.handled = none) (F : Fr h₀ env.locals s.heap m₀) (N : News h₀ env.locals s.heap ((r, listOf #[] 0) :: news)) (hr : ∀ p ∈ news, p.1 < r) (hq : (q, listOf us.toArray nq) ∈ news) (hD : DatAll news us (asks.map askD))
    (turn : ∀ i (hi : i < asks.length) v (m₁ : Str → Option Value) vs n T I oI s₁, DatIn T v (askD asks[i]) → (∀ p ∈ news, p ∈ T) → (∀ p ∈ T, p.1 ≠ r) → (∀ p ∈ T, p.1 ≠ I) → @Ne Nat r I → DatAll T vs ((rowsOf way (asks.take i)).map rowD) → vs.length = 4 * i →
      Fr h₀ env.locals s₁.heap (fun y => if ([Str.ofString "time", Str.ofString "side", Str.ofString "late", Str.ofString "row"]).contains y = true then m₁ y else m₀ y) → News h₀ env.locals s₁.heap ((I, oI) :: (r, listOf (List.toArray vs) n) :: T) →
      wpAny (model prog w) A (assign target env v) (fun _ s₃ => wpAny (model prog w) A (execs body env) (LEnd h₀ env.locals I oI (EvJ r news way asks m₀ (i + 1)) s₁) E s₃) E s₁)
    (done : ∀ (m₁ : Str → Option Value) vs n T h tk, (∀ p ∈ news, p ∈ T) → (∀ p ∈ T, p.1 ≠ r) → DatAll T vs ((rowsOf way asks).map rowD) → Fr h₀ env.locals h (fun y => if ([Str.ofString "time", Str.ofString "side", Str.ofString "late", Str.ofString "row"]).contains y = true then m₁ y else m₀ y) →
      News h₀ env.locals h ((r, listOf (List.toArray vs) n) :: T) → Q .next { s with heap := h, toks := tk }) :
    wpAny (model prog w) A (pyIter (.ref q)) (fun it s₂ => LoopAtT prog w A h₀ env target body Q E it s₂) E s := by
  have hus : us.length = asks.length := by have := hD.length; simpa using this
  refine loopT (EvJ r news way asks m₀) hh (List.mem_cons_of_mem _ hq) F N ⟨[], 0, news, rfl, fun p hp => Nat.ne_of_lt (hr p hp), fun p hp => hp, .nil, fun _ _ => rfl⟩ ?_ ?_ ?_
  · rintro i m' nx ⟨vs, n, T, rfl, _, hT, _⟩
    exact List.mem_cons_of_mem _ (hT _ hq)
  · rintro i v m₁ nx I oI s₁ hv ⟨vs, n, T, rfl, hTr, hT, hA, hm⟩ hI F₁ N₁
    have hi : i < asks.length := by rw [← hus]; exact (List.getElem?_eq_some_iff.mp hv).1
    obtain ⟨v', hv', hDv⟩ := hD.get (k := i) (by simpa using hi)
    rw [hv] at hv'
    cases hv'
    have e : (asks.map askD)[i]'(by simpa using hi) = askD asks[i] := by simp
    rw [e] at hDv
    have hl : vs.length = 4 * i := by
      have := hA.length
      rw [List.length_map, rows_len, List.length_take] at this
      omega
    exact turn i hi v m₁ vs n T I oI s₁ (hDv.mono hT) hT hTr (fun p hp => hI p (List.mem_cons_of_mem _ hp)) (hI _ List.mem_cons_self) hA hl (fr_stored F₁ hm) N₁
  · rintro m₁ nx h tk ⟨vs, n, T, rfl, hTr, hT, hA, hm⟩ F₁ N₁
    rw [hus, List.take_length] at hA
    exact done m₁ vs n T h tk hT hTr hA (fr_stored F₁ hm) N₁

abbrev Ev := Int × Int × Str
def evD (e : Ev) : Dat := .tuple [.int e.1, .int e.2.1, .str e.2.2]
def evR (r : Row) : Ev := (r.1, r.2.2.1, r.2.2.2)
def evsOf (way : Int) (asks : List Ask) : List Ev := (rowsOf way asks).map evR

theorem rows_num (way : Int) (asks : List Ask) (i : Nat) (h : i < (rowsOf way asks).length) : ((rowsOf way asks).getD i (0, 0, 0, Str.ofString "")).2.1 = (i : Int) := by
  have : ∀ (asks : List Ask) (acc : List Row), (∀ i, i < acc.length → (acc.getD i (0, 0, 0, Str.ofString "")).2.1 = (i : Int)) → ∀ i, i < (asks.foldl (rowsF way) acc).length → ((asks.foldl (rowsF way) acc).getD i (0, 0, 0, Str.ofString "")).2.1 = (i : Int) := by
    intro asks
    induction asks with
    | nil => intro acc h i hi; exact h i hi
    | cons a r ih =>
      intro acc h i hi
      rw [List.foldl_cons] at hi ⊢
      refine ih _ (fun j hj => ?_) i hi
      by_cases c : j < acc.length
      · have := h j c
        rw [List.getD_eq_getElem?_getD] at this ⊢
        rw [rowsF, List.getElem?_append_left c]
        exact this
      · rw [List.getD_eq_getElem?_getD, rowsF, List.getElem?_append_right (by omega)]
        have hl : (rowsF way acc a).length = acc.length + 4 := by simp [rowsF, row4]
        obtain ⟨d, hd⟩ : ∃ d, j = acc.length + d := ⟨j - acc.length, by omega⟩
        subst hd
        have hd4 : d < 4 := by omega
        rw [Nat.add_sub_cancel_left]
        match d, hd4 with
        | 0, _ => rfl
        | 1, _ => rfl
        | 2, _ => rfl
        | 3, _ => rfl
  exact this asks [] (fun i hi => by simp at hi) i h

theorem events_end {h₀ h' : Heap} {L r I : Addr} {oI : Obj} {news T all : List (Addr × Obj)} {way at' as' al' : Int} {asks : List Ask} {m₀ m' : Str → Option Value} {i tk : Nat} {hi : i < asks.length} {vs : List Value} {n n1 n2 n3 n4 : Nat} {s₁ : Shared} {d1 d2 d3 d4 : Addr} {v1 v2 v3 v4 : Int} {t1 t2 t3 t4 u1 u2 u3 u4 w1 w2 w3 w4 x1 x2 x3 x4 : Tok}
    (F : Fr h₀ L h' m') (N : News h₀ L h' all) (hak : asks[i] = (at', as', al')) (hA : DatAll T vs ((rowsOf way (asks.take i)).map rowD)) (hl : vs.length = 4 * i) (hT : ∀ p ∈ news, p ∈ T) (hTr : ∀ p ∈ T, p.1 ≠ r) (hTI : ∀ p ∈ T, p.1 ≠ I)
    (mr : (r, listOf (List.toArray (vs ++ [Value.ref d1] ++ [Value.ref d2] ++ [Value.ref d3] ++ [Value.ref d4])) n) ∈ all) (mI : (I, oI) ∈ all) (mT : ∀ p ∈ T, p ∈ all)
    (m1 : (d1, ({ cls := .type "tuple", data := .seq #[.int at' t1, .int v1 u1, .int as' w1, .str (Str.ofString "ask") x1] n1 } : Obj)) ∈ all)
    (m2 : (d2, ({ cls := .type "tuple", data := .seq #[.int (at' + way) t2, .int v2 u2, .int (1 - as') w2, .str (Str.ofString "came") x2] n2 } : Obj)) ∈ all)
    (m3 : (d3, ({ cls := .type "tuple", data := .seq #[.int (at' + way + al') t3, .int v3 u3, .int (1 - as') w3, .str (Str.ofString "answer") x3] n3 } : Obj)) ∈ all)
    (m4 : (d4, ({ cls := .type "tuple", data := .seq #[.int (at' + 2 * way + al') t4, .int v4 u4, .int as' w4, .str (Str.ofString "came") x4] n4 } : Obj)) ∈ all)
    (e1 : v1 = ((4 * i : Nat) : Int)) (e2 : v2 = ((4 * i + 1 : Nat) : Int)) (e3 : v3 = ((4 * i + 2 : Nat) : Int)) (e4 : v4 = ((4 * i + 3 : Nat) : Int))
    (a1 : @Ne Nat d1 r ∧ @Ne Nat d1 I) (a2 : @Ne Nat d2 r ∧ @Ne Nat d2 I) (a3 : @Ne Nat d3 r ∧ @Ne Nat d3 I) (a4 : @Ne Nat d4 r ∧ @Ne Nat d4 I) (aI : @Ne Nat r I)
    (hm : ∀ z, ([Str.ofString "time", Str.ofString "side", Str.ofString "late", Str.ofString "row"]).contains z = false → m' z = m₀ z) :
    LEnd h₀ L I oI (EvJ r news way asks m₀ (i + 1)) s₁ .next { s₁ with heap := h', toks := tk } := by
  subst e1 e2 e3 e4
  generalize ho1 : ({ cls := .type "tuple", data := .seq #[.int at' t1, .int ((4 * i : Nat) : Int) u1, .int as' w1, .str (Str.ofString "ask") x1] n1 } : Obj) = o1 at m1
  generalize ho2 : ({ cls := .type "tuple", data := .seq #[.int (at' + way) t2, .int ((4 * i + 1 : Nat) : Int) u2, .int (1 - as') w2, .str (Str.ofString "came") x2] n2 } : Obj) = o2 at m2
  generalize ho3 : ({ cls := .type "tuple", data := .seq #[.int (at' + way + al') t3, .int ((4 * i + 2 : Nat) : Int) u3, .int (1 - as') w3, .str (Str.ofString "answer") x3] n3 } : Obj) = o3 at m3
  generalize ho4 : ({ cls := .type "tuple", data := .seq #[.int (at' + 2 * way + al') t4, .int ((4 * i + 3 : Nat) : Int) u4, .int as' w4, .str (Str.ofString "came") x4] n4 } : Obj) = o4 at m4
  have hT' : ∀ p ∈ (d1, o1) :: (d2, o2) :: (d3, o3) :: (d4, o4) :: T, p ∈ all ∧ p.1 ≠ r ∧ p.1 ≠ I := fun p hp => by
    simp only [List.mem_cons] at hp
    rcases hp with rfl | rfl | rfl | rfl | hp
    · exact ⟨m1, a1⟩
    · exact ⟨m2, a2⟩
    · exact ⟨m3, a3⟩
    · exact ⟨m4, a4⟩
    · exact ⟨mT p hp, hTr p hp, hTI p hp⟩
  have sub : ∀ p ∈ T, p ∈ (d1, o1) :: (d2, o2) :: (d3, o3) :: (d4, o4) :: T := fun p hp => by
    simp only [List.mem_cons]; exact .inr (.inr (.inr (.inr hp)))
  refine ⟨rfl, h', tk, m', (r, listOf (List.toArray (vs ++ [Value.ref d1] ++ [Value.ref d2] ++ [Value.ref d3] ++ [Value.ref d4])) n) :: ((d1, o1) :: (d2, o2) :: (d3, o3) :: (d4, o4) :: T), rfl, F, fun p hp => ?_, fun p hp => ?_,
    ⟨vs ++ [Value.ref d1] ++ [Value.ref d2] ++ [Value.ref d3] ++ [Value.ref d4], n, (d1, o1) :: (d2, o2) :: (d3, o3) :: (d4, o4) :: T, rfl, fun p hp => (hT' p hp).2.1, fun p hp => sub p (hT p hp), ?_, hm⟩⟩
  · rcases List.mem_cons.mp hp with rfl | hp
    · exact N _ mI
    · rcases List.mem_cons.mp hp with rfl | hp
      · exact N _ mr
      · exact N _ (hT' p hp).1
  · rcases List.mem_cons.mp hp with rfl | hp
    · exact aI
    · exact (hT' p hp).2.2
  · have hk : (rowsOf way (asks.take i)).length = 4 * i := by rw [rows_len, List.length_take]; omega
    rw [rows_take way asks i hi, rowsF, hk, hak, List.map_append]
    simp only [List.append_assoc, List.cons_append, List.nil_append]
    subst ho1 ho2 ho3 ho4
    refine DatAll.append (hA.mono sub) (.cons ?_ (.cons ?_ (.cons ?_ (.cons ?_ .nil))))
    · exact .tuple (n := n1) List.mem_cons_self (.cons (.int _ _) (.cons (.int _ _) (.cons (.int _ _) (.cons (.str _ _) .nil))))
    · exact .tuple (n := n2) (List.mem_cons_of_mem _ List.mem_cons_self) (.cons (.int _ _) (.cons (.int _ _) (.cons (.int _ _) (.cons (.str _ _) .nil))))
    · exact .tuple (n := n3) (List.mem_cons_of_mem _ (List.mem_cons_of_mem _ List.mem_cons_self)) (.cons (.int _ _) (.cons (.int _ _) (.cons (.int _ _) (.cons (.str _ _) .nil))))
    · exact .tuple (n := n4) (List.mem_cons_of_mem _ (List.mem_cons_of_mem _ (List.mem_cons_of_mem _ List.mem_cons_self))) (.cons (.int _ _) (.cons (.int _ _) (.cons (.int _ _) (.cons (.str _ _) .nil))))

theorem events_spec {w : World} {mean : ExcName → Option Value} {mg mb : Str → Option Value} {dp un : Nat} {gd : Option (List Code)} {cn : Str} {cs : Scope} {a : Addr} {ccd : Value} {cl : List (Str × Addr)}
    {outer : List Env} {A₀ : Around} {base h₀ : Heap} {L : Addr} {m : Str → Option Value} {s : Shared} {news : List (Addr × Obj)} {q : Addr} {us : List Value} {nq : Nat} {asks : List Ask} {way : Int} {tw : Tok}
    {Q E : Value → Shared → Prop}
    (B : Below A₀ base outer h₀) (F : Fr h₀ L s.heap m) (X : (hd.heap_39 w.params).In h₀) (T : Top hd.view_39 (looseW hd.view_39 []) mean mg mb h₀) (hk : cs.kind = .function)
    (N : News h₀ L s.heap news) (hq : (q, listOf us.toArray nq) ∈ news) (hD : DatAll news us (asks.map askD)) (ha0 : 1 ≤ asks.length) (ha : asks.length < 8) (hr : ∀ a ∈ asks, 0 ≤ a.1 ∧ a.1 < 10 ^ 6 ∧ 0 ≤ a.2.1 ∧ a.2.1 ≤ 1 ∧ 0 ≤ a.2.2 ∧ a.2.2 < 1000) (hw0 : 0 ≤ way) (hw1 : way < 1000)
    (hd : dp < 900) (hu : un < 1000)
    (h : ∀ D (es : List Ev) evs c tl h' tk, Fr h₀ L h' m → News h₀ L h' ((D, listOf (List.toArray evs) c) :: (tl ++ news)) → (∀ p ∈ news, p.1 ≠ D) → (∀ p ∈ tl, p.1 ≠ D) → (∀ p ∈ tl, ∀ q ∈ news, p.1 ≠ q.1) → DatAll tl evs (es.map evD) → es.Perm (evsOf way asks) → es.Pairwise (fun a b => a.1 ≤ b.1) → Q (.ref D) { s with heap := h', toks := tk }) :
    wpAny (model PySem.Challenge.rw_sj0106_01.row.prog w) (ktrTop dp un gd cn cs L a ccd cl outer) (call (.ref 178) [.ref q, .int way tw]) Q E s := by
  have hMk := kstMark
  refine wpAny_call ?_
  k_dflt ktr_enter
  k_steps
  rename_i r hx l1 h1 F1 N1
  refine events_iter (asks := asks) (way := way) (by rfl) F1 N1 l1 hq hD ?_ ?_
  · intro i hi v m₁ vs n T I oI s₁ hv hT hTr hTI hrI hA hl F2 N2
    clear F1 N1
    obtain ⟨ta, nt, t1, t2, t3, rfl, hm⟩ := ask_open hv
    obtain ⟨b1, b2, b3, b4, b5, b6⟩ := hr _ (List.getElem_mem hi)
    generalize hak : asks[i] = ak at hm b1 b2 b3 b4 b5 b6
    obtain ⟨at', as', al'⟩ := ak
    dsimp only at hm b1 b2 b3 b4 b5 b6
    k_steps
    (rename News _ _ _ _ => N9)
    (rename Fr _ _ _ _ => F9)
    simp only [List.push_toArray] at N9
    refine' events_end F9 N9 hak hA hl hT hTr hTI ?mr ?mI ?mT ?m1 ?m2 ?m3 ?m4 ?e1 ?e2 ?e3 ?e4 ?a1 ?a2 ?a3 ?a4 hrI ?hm
    case mr => k_mem
    case mI => k_mem
    case mT => (intro p hp; simp only [List.mem_cons, hp, or_true])
    case m1 => k_mem
    case m2 => k_mem
    case m3 => k_mem
    case m4 => k_mem
    case e1 => (simp only [Array.size_push, List.size_toArray, List.length_append, List.length_cons, List.length_nil]; omega)
    case e2 => (simp only [Array.size_push, List.size_toArray, List.length_append, List.length_cons, List.length_nil]; omega)
    case e3 => (simp only [Array.size_push, List.size_toArray, List.length_append, List.length_cons, List.length_nil]; omega)
    case e4 => (simp only [Array.size_push, List.size_toArray, List.length_append, List.length_cons, List.length_nil]; omega)
    case a1 => omega
    case a2 => omega
    case a3 => omega
    case a4 => omega
    case hm => (intro z hz; simp only [List.contains_cons, List.contains_nil, Bool.or_false, Bool.or_eq_false_iff, beq_eq_false_iff_ne, ne_eq] at hz; obtain ⟨z1, z2, z3, z4⟩ := hz; simp only [z1, z2, z3, z4, if_false]; simp [z1, z2, z3, z4])
  · intro m₁ vs n T h2 tk2 hT hTr hA F2 N2
    clear F1 N1
    k_steps
    refine' sorted_rows (news := (r, listOf (List.toArray vs) n) :: T) (rows := rowsOf way asks) ?F ?N ?m (hA.mono (fun p hp => List.mem_cons_of_mem _ hp)) (by rw [rows_len]; omega) (by rw [rows_len]; omega) (fun i hi => rows_num way asks i hi) ?_
    case F => k_asm
    case N => k_asm
    case m => exact List.mem_cons_self
    rintro D out c h3 l3 F3 N3 ⟨rs, hp1, hp2, hA3⟩
    refine ⟨D, out, c, false, _, fun i ys nw => ∃ tl, nw = tl ++ ((D, listOf (List.toArray out) c) :: (r, listOf (List.toArray vs) n) :: T) ∧ DatAll tl ys (((rs.take i).map evR).map evD) ∧ ∀ p ∈ tl, ∀ q ∈ ((D, listOf (List.toArray out) c) :: (r, listOf (List.toArray vs) n) :: T), q.1 < p.1, rfl, rfl, F3, N3, List.mem_cons_self, ?_, ⟨[], rfl, .nil, fun _ hp => nomatch hp⟩, ?_, ?_, ?_⟩
    · have hlen : out.length = rs.length := by have := hA3.length; simpa using this
      have hl2 := hp1.length_eq
      rw [rows_len] at hl2
      rw [sizeLine_eq]; omega
    · rintro i ys nw ⟨tl, rfl, _⟩
      exact List.mem_append_right _ List.mem_cons_self
    · intro C I D9 nCI nCD nDI nCL hC₀ i v ys pv nw oI h4 tk4 E' hP hJ hPv F4 N4 off
      obtain ⟨tl, rfl, hA4, hlt⟩ := hJ
      obtain ⟨oC, m4, rfl, hn4⟩ := hPv
      have hlen : out.length = rs.length := by have := hA3.length; simpa using this
      have hi : i < rs.length := by rw [← hlen]; exact (List.getElem?_eq_some_iff.mp hP).1
      obtain ⟨v', hv', hDv⟩ := hA3.get (k := i) (by simpa using hi)
      rw [hP] at hv'
      cases hv'
      have e : (rs.map rowD)[i]'(by simpa using hi) = rowD rs[i] := by simp
      rw [e] at hDv
      obtain ⟨ta, nt, t1, t2, t3, t4, rfl, hm⟩ := row_open hDv
      refine cAssignT (xs := [(Str.ofString "time", _), (Str.ofString "number", _), (Str.ofString "side", _), (Str.ofString "sort", _)]) (by rfl) (by rfl) (by rfl) (by decide +kernel) (by decide +kernel) F4 N4 hn4 nCI nCD (fun p hp => (off p hp).2.2) (List.mem_append_right _ (List.mem_cons_of_mem _ hm)) ?_
      rintro h5 oC5 m5 tk5 hn5 ⟨x1, x2, x3, x4, _⟩ F5 N5
      clear F4 N4 hn4
      simp only [List.cons_append, List.nil_append] at N5
      refine wpAny_tests_nil ?_
      simp only [if_true]
      k_steps
      rename_i t6 h6 F6 N6 l6
      obtain ⟨lI, lD, lC, lA⟩ := l6
      have lA' := kst_ltOf lA
      have et : ((rs.take (i + 1)).map evR).map evD = ((rs.take i).map evR).map evD ++ [evD (evR rs[i])] := by
        rw [List.take_add_one, List.getElem?_eq_getElem hi, List.map_append, List.map_append]; rfl
      refine CEnd.calm hn5 F6 (nw := (t6, ({ cls := .type "tuple", data := .seq #[.int rs[i].1 t1, .int rs[i].2.2.1 t3, .str rs[i].2.2.2 t4] } : Obj)) :: (tl ++ _)) (fun p hp => N6 p ?_) (fun p hp => ?_) ⟨(t6, ({ cls := .type "tuple", data := .seq #[.int rs[i].1 t1, .int rs[i].2.2.1 t3, .str rs[i].2.2.2 t4] } : Obj)) :: tl, rfl, ?_, fun p hp q hq => ?_⟩
      · simp only [List.mem_cons] at hp ⊢
        rcases hp with hp | hp | hp | hp | hp
        · exact .inr (.inl hp)
        · exact .inr (.inr (.inl hp))
        · exact .inr (.inr (.inr (.inl hp)))
        · exact .inl hp
        · exact .inr (.inr (.inr (.inr hp)))
      · rcases List.mem_cons.mp hp with rfl | hp
        · exact ⟨Nat.ne_of_gt lI, Nat.ne_of_gt lD, fun hm => Nat.ne_of_gt lC (List.mem_singleton.mp hm)⟩
        · exact off p hp
      · rw [et]
        exact DatAll.append (hA4.mono fun p hp => List.mem_cons_of_mem _ hp) (.one (.tuple (n := 0) List.mem_cons_self (.cons (.int _ _) (.cons (.int _ _) (.cons (.str _ _) .nil)))))
      · rcases List.mem_cons.mp hp with rfl | hp
        · exact lA' q (List.mem_append_right _ hq)
        · exact hlt p hp q hq
    · rintro ys nw ⟨tl, rfl, hA4, hlt⟩ D9 h9 tk9 F9 N9 o9
      clear F3 N3 F2 N2
      k_steps
      (rename News h₀ _ _ _ => kN; rename Fr h₀ _ _ _ => kF)
      have hlen : out.length = rs.length := by have := hA3.length; simpa using this
      rw [hlen, List.take_length] at hA4
      refine h D9 (rs.map evR) ys ys.length tl h9 _ kF (fun p hp => kN p ?_) (fun p hp => o9 p ?_) (fun p hp => o9 p (List.mem_append_left _ hp)) (fun p hp q hq => ?_) hA4 (hp1.map evR) ?_
      · rcases List.mem_cons.mp hp with rfl | hp
        · exact List.mem_cons_self
        · refine List.mem_cons_of_mem _ ?_
          rcases List.mem_append.mp hp with hp | hp
          · exact List.mem_append_left _ hp
          · exact List.mem_append_right _ (List.mem_cons_of_mem _ (List.mem_cons_of_mem _ (hT p hp)))
      · exact List.mem_append_right _ (List.mem_cons_of_mem _ (List.mem_cons_of_mem _ (hT p hp)))
      · exact Nat.ne_of_gt (hlt p hp q (List.mem_cons_of_mem _ (List.mem_cons_of_mem _ (hT q hq))))
      · rw [List.pairwise_map]; exact hp2
end

section
theorem upd_out {h₀ h : Heap} {L d x : Addr} {o o' oi : Obj} {news news' : List (Addr × Obj)} (U : Upd d o o' news news') (N : News h₀ L h news) (hx : (x, oi) ∈ news) (hne : oi ≠ o) :
    ∃ rest, News h₀ L h ((d, o) :: (x, oi) :: rest) ∧ @Ne Nat x d ∧ (∀ p ∈ rest, p.1 ≠ d) ∧ ∀ p ∈ news', p = (d, o') ∨ p ∈ rest := by
  obtain ⟨pre, post, rfl, rfl, a, b⟩ := U.split
  refine ⟨pre ++ post, fun p hp => N p ?_, ?_, ?_, ?_⟩
  · simp only [List.mem_cons, List.mem_append] at hp ⊢
    rcases hp with rfl | rfl | hp | hp
    · exact .inr (.inl rfl)
    · simpa using hx
    · exact .inl hp
    · exact .inr (.inr hp)
  · rcases List.mem_append.mp hx with hx | hx
    · exact a _ hx
    · rcases List.mem_cons.mp hx with e | hx
      · exact absurd (congrArg Prod.snd e) hne
      · exact b _ hx
  · intro p hp
    rcases List.mem_append.mp hp with hp | hp
    · exact a p hp
    · exact b p hp
  · intro p hp
    simp only [List.mem_cons, List.mem_append] at hp ⊢
    rcases hp with hp | hp | hp
    · exact .inr (.inl hp)
    · exact .inl hp
    · exact .inr (.inr hp)

theorem idle_ne {d : Addr} {l : List DictEntry} {n : Nat} : instObj 85 d ≠ dictOf l n := by
  intro e
  have := congrArg Obj.data e
  cases this

theorem received_spec {w : World} {mean : ExcName → Option Value} {mg mb : Str → Option Value} {dp un : Nat} {gd : Option (List Code)} {cn : Str} {cs : Scope} {a : Addr} {ccd : Value} {cl : List (Str × Addr)}
    {outer : List Env} {A₀ : Around} {base h₀ : Heap} {L : Addr} {m : Str → Option Value} {s : Shared} {news news' : List (Addr × Obj)} {x d : Addr} {h1 h2 h3 h4 : Int} {k1 k2 k3 k4 : Tok} {ov pv : Value} {now : Int} {sv : Value} {asked b : Bool} {tn : Tok}
    {Q E : Value → Shared → Prop}
    (B : Below A₀ base outer h₀) (F : Fr h₀ L s.heap m) (X : (hd.heap_39 w.params).In h₀) (T : Top hd.view_39 (looseW hd.view_39 []) mean mg mb h₀) (hk : cs.kind = .function)
    (N : News h₀ L s.heap news) (hx : (x, instObj 85 d) ∈ news)
    (U : Upd d (idleD h1 h2 h3 h4 k1 k2 k3 k4 ov pv sv (.bool asked)) (idleD h1 h2 h3 h4 k1 k2 k3 k4 ov pv (.int now tn) (.bool false)) news news')
    (hd : dp < 900) (hu : un < 1000)
    (h : ∀ h' tk, Fr h₀ L h' m → News h₀ L h' news' → Q .none { s with heap := h', toks := tk }) :
    wpAny (model PySem.Challenge.rw_sj0106_01.row.prog w) (ktrTop dp un gd cn cs L a ccd cl outer) (call (.ref 54) [.ref x, .int now tn]) Q E s := by
  have hMk := kstMark
  obtain ⟨rest, N2, hne, hr, hsub⟩ := upd_out U N hx idle_ne
  clear N
  refine wpAny_call ?_
  k_dflt ktr_enter
  k_steps
  (rename News h₀ _ _ _ => kN; rename Fr h₀ _ _ _ => kF)
  refine h _ _ kF fun p hp => kN p ?_
  rcases hsub p hp with rfl | hp
  · exact List.mem_cons_self
  · exact List.mem_cons_of_mem _ (List.mem_cons_of_mem _ hp)

theorem sent_spec {w : World} {mean : ExcName → Option Value} {mg mb : Str → Option Value} {dp un : Nat} {gd : Option (List Code)} {cn : Str} {cs : Scope} {a : Addr} {ccd : Value} {cl : List (Str × Addr)}
    {outer : List Env} {A₀ : Around} {base h₀ : Heap} {L : Addr} {m : Str → Option Value} {s : Shared} {news news' : List (Addr × Obj)} {x d : Addr} {h1 h2 h3 h4 : Int} {k1 k2 k3 k4 : Tok} {ov pv : Value} {now : Int} {sv : Value} {asked b : Bool} {tn : Tok}
    {Q E : Value → Shared → Prop}
    (B : Below A₀ base outer h₀) (F : Fr h₀ L s.heap m) (X : (hd.heap_39 w.params).In h₀) (T : Top hd.view_39 (looseW hd.view_39 []) mean mg mb h₀) (hk : cs.kind = .function)
    (N : News h₀ L s.heap news) (hx : (x, instObj 85 d) ∈ news)
    (U : Upd d (idleD h1 h2 h3 h4 k1 k2 k3 k4 ov pv sv (.bool asked)) (idleD h1 h2 h3 h4 k1 k2 k3 k4 ov pv (if (b && !asked) = true then (.int now tn) else sv) (.bool (asked || b))) news news')
    (hd : dp < 900) (hu : un < 1000)
    (h : ∀ h' tk, Fr h₀ L h' m → News h₀ L h' news' → Q .none { s with heap := h', toks := tk }) :
    wpAny (model PySem.Challenge.rw_sj0106_01.row.prog w) (ktrTop dp un gd cn cs L a ccd cl outer) (call (.ref 61) [.ref x, .int now tn, .bool b]) Q E s := by
  have hMk := kstMark
  obtain ⟨rest, N2, hne, hr, hsub⟩ := upd_out U N hx idle_ne
  clear N
  cases asked <;> cases b <;> simp only [Bool.not_false, Bool.not_true, Bool.and_true, Bool.and_false, Bool.or_true, Bool.or_false, if_true, Bool.false_eq_true, if_false] at hsub
  all_goals (
    refine wpAny_call ?_
    k_dflt ktr_enter
    k_steps
    (rename News h₀ _ _ _ => kN; rename Fr h₀ _ _ _ => kF)
    refine h _ _ kF fun p hp => kN p ?_
    rcases hsub p hp with rfl | hp
    · exact List.mem_cons_self
    · exact List.mem_cons_of_mem _ (List.mem_cons_of_mem _ hp))
end

section
abbrev SA := Option Int × Bool
def tl1 (x : Int) (e : Ev) (c : SA) : SA :=
  if e.2.1 = x then (if (e.2.2 == Str.ofString "came") = true then (some e.1, false) else ((if ((e.2.2 == Str.ofString "ask") && !c.2) = true then some e.1 else c.1), c.2 || (e.2.2 == Str.ofString "ask"))) else c
def runE (x : Int) (es : List Ev) : SA := es.foldl (fun c e => tl1 x e c) (none, false)
def relO (bs : Int) : Option Int → Option Int
  | some s => some (bs + s)
  | none => none
def optDat : Option Int → Dat
  | some i => .int i
  | none => .none
def endAt (w0 w1 : Option Int) (es : List Ev) : Dat := .list [optDat (dlO w0 (runE 0 es).1), optDat (dlO w1 (runE 1 es).1)]
theorem runE_take (x : Int) (es : List Ev) (i : Nat) (h : i < es.length) : runE x (es.take (i + 1)) = tl1 x es[i] (runE x (es.take i)) := by
  unfold runE
  rw [List.take_add_one, List.getElem?_eq_getElem h, List.foldl_append]
  rfl
theorem over_rel (w si : Option Int) (bs t : Int) : overO (dlO w (relO bs si)) (bs + t) = overO (dlO w si) t := by
  cases w <;> cases si <;> simp [relO, dlO, overO]
  omega
theorem ev_open {T : List (Addr × Obj)} {v : Value} {r : Ev} (h : DatIn T v (evD r)) :
    ∃ a n t1 t2 t3, v = .ref a ∧ (a, ({ cls := .type "tuple", data := .seq #[.int r.1 t1, .int r.2.1 t2, .str r.2.2 t3] n } : Obj)) ∈ T := by
  cases h with
  | tuple hm hd =>
    cases hd with
    | cons h1 hd => cases hd with
      | cons h2 hd => cases hd with
        | cons h3 hd =>
          cases hd; cases h1; cases h2; cases h3
          exact ⟨_, _, _, _, _, rfl, hm⟩

section
variable {prog : Program} {w : World} {A : Around} {E : Value → Shared → Prop} {s : Shared} {env : Env} {h₀ : Heap} {Q : Flow → Shared → Prop}
def NowEnd (h₀ : Heap) (L : Addr) (M : Str → Option Value) (nw : List (Addr × Obj)) (ti sd n : Int) (t1 t2 t3 : Tok) (so : Str) (s : Shared) (f : Flow) (s' : Shared) : Prop :=
  f = .next ∧ ∃ h' tk tn, s' = { s with heap := h', toks := tk } ∧ Fr h₀ L h' (fun y => if y = Str.ofString "now" then some (.int n tn) else if y = Str.ofString "sort" then some (.str so t3) else if y = Str.ofString "side" then some (.int sd t2) else if y = Str.ofString "time" then some (.int ti t1) else M y) ∧ News h₀ L h' nw
theorem NowEnd.mk {L : Addr} {M : Str → Option Value} {nw : List (Addr × Obj)} {ti sd n : Int} {t1 t2 t3 tn : Tok} {so : Str} {h' : Heap} {tk : Nat} (F : Fr h₀ L h' (fun y => if y = Str.ofString "now" then some (.int n tn) else if y = Str.ofString "sort" then some (.str so t3) else if y = Str.ofString "side" then some (.int sd t2) else if y = Str.ofString "time" then some (.int ti t1) else M y)) (N : News h₀ L h' nw) : NowEnd h₀ L M nw ti sd n t1 t2 t3 so s .next { s with heap := h', toks := tk } :=
  ⟨rfl, h', tk, tn, rfl, F, N⟩
theorem cutNow {target : Expr} {v : Value} {a b : Stmt} {rest : List Stmt} {M : Str → Option Value} {nw : List (Addr × Obj)} (ti sd n : Int) (t1 t2 t3 : Tok) (so : Str) (_F : Fr h₀ env.locals s.heap M) (_N : News h₀ env.locals s.heap nw)
    (h1 : wpAny (model prog w) A (assign target env v) (fun _ s₀ => wpAny (model prog w) A (exec a env) (fun f s₁ => match f with | .next => wpAny (model prog w) A (exec b env) (NowEnd h₀ env.locals M nw ti sd n t1 t2 t3 so s) E s₁ | _ => False) E s₀) E s)
    (h2 : ∀ h' tk tn, Fr h₀ env.locals h' (fun y => if y = Str.ofString "now" then some (.int n tn) else if y = Str.ofString "sort" then some (.str so t3) else if y = Str.ofString "side" then some (.int sd t2) else if y = Str.ofString "time" then some (.int ti t1) else M y) → News h₀ env.locals h' nw → wpAny (model prog w) A (execs rest env) Q E { s with heap := h', toks := tk }) :
    wpAny (model prog w) A (assign target env v) (fun _ s₃ => wpAny (model prog w) A (execs (a :: b :: rest) env) Q E s₃) E s := by
  refine wpAny_mono h1 (fun _ s₀ h1 => ?_) fun _ _ e => e
  refine wpAny_execs_cons (wpAny_mono h1 (fun f s' p => ?_) fun _ _ e => e)
  cases f with
  | next =>
    refine wpAny_execs_cons (wpAny_mono p (fun f s' p => ?_) fun _ _ e => e)
    obtain ⟨rfl, h', tk, tn, rfl, F', N'⟩ := p
    exact h2 h' tk tn F' N'
  | _ => exact absurd p id
def IfEnd (h₀ : Heap) (L : Addr) (M : Str → Option Value) (nw : Tok → Tok → List (Addr × Obj)) (s : Shared) (f : Flow) (s' : Shared) : Prop :=
  f = .next ∧ ∃ h' tk ts0 ts1, s' = { s with heap := h', toks := tk } ∧ Fr h₀ L h' M ∧ News h₀ L h' (nw ts0 ts1)
theorem IfEnd.mk {L : Addr} {M : Str → Option Value} {nw : Tok → Tok → List (Addr × Obj)} {h' : Heap} {tk : Nat} {nw' : List (Addr × Obj)} (F : Fr h₀ L h' M) (N : News h₀ L h' nw') (ts0 ts1 : Tok) (e : nw ts0 ts1 = nw') : IfEnd h₀ L M nw s .next { s with heap := h', toks := tk } :=
  ⟨rfl, h', tk, ts0, ts1, rfl, F, e ▸ N⟩
theorem cutIf {st : Stmt} {rest : List Stmt} {M : Str → Option Value} {I le d0 d1 : Addr} {oI : Obj} {vs : List Value} {n : Nat} {g1 g2 g3 g4 : Int} {j1 j2 j3 j4 q1 q2 q3 q4 tta ttb ts0 ts1 : Tok} {ta tb bs : Int} {c0 c1 : SA} {T : List (Addr × Obj)} (e : Ev) (_F : Fr h₀ env.locals s.heap M) (_N : News h₀ env.locals s.heap ((I, oI) :: (le, listOf (List.toArray vs) n) :: (d0, idleD g1 g2 g3 g4 j1 j2 j3 j4 (.int ta tta) (.int tb ttb) (optV (relO bs c0.1) ts0) (.bool c0.2)) :: (d1, idleD g1 g2 g3 g4 q1 q2 q3 q4 (.int tb ttb) (.int ta tta) (optV (relO bs c1.1) ts1) (.bool c1.2)) :: T))
    (h1 : wpAny (model prog w) A (exec st env) (IfEnd h₀ env.locals M (fun x0 x1 => ((I, oI) :: (le, listOf (List.toArray vs) n) :: (d0, idleD g1 g2 g3 g4 j1 j2 j3 j4 (.int ta tta) (.int tb ttb) (optV (relO bs (tl1 0 e c0).1) x0) (.bool (tl1 0 e c0).2)) :: (d1, idleD g1 g2 g3 g4 q1 q2 q3 q4 (.int tb ttb) (.int ta tta) (optV (relO bs (tl1 1 e c1).1) x1) (.bool (tl1 1 e c1).2)) :: T)) s) E s)
    (h2 : ∀ h' tk x0 x1, Fr h₀ env.locals h' M → News h₀ env.locals h' ((I, oI) :: (le, listOf (List.toArray vs) n) :: (d0, idleD g1 g2 g3 g4 j1 j2 j3 j4 (.int ta tta) (.int tb ttb) (optV (relO bs (tl1 0 e c0).1) x0) (.bool (tl1 0 e c0).2)) :: (d1, idleD g1 g2 g3 g4 q1 q2 q3 q4 (.int tb ttb) (.int ta tta) (optV (relO bs (tl1 1 e c1).1) x1) (.bool (tl1 1 e c1).2)) :: T) → wpAny (model prog w) A (execs rest env) Q E { s with heap := h', toks := tk }) :
    wpAny (model prog w) A (execs (st :: rest) env) Q E s := by
  refine wpAny_execs_cons (wpAny_mono h1 (fun f s' p => ?_) fun _ _ e => e)
  obtain ⟨rfl, h', tk, x0, x1, rfl, F', N'⟩ := p
  exact h2 h' tk x0 x1 F' N'
theorem tl1_came {x ti : Int} {so : Str} {c : SA} (h : (so == Str.ofString "came") = true) : tl1 x (ti, x, so) c = (some ti, false) := by simp [tl1, h]
theorem tl1_sent {x ti : Int} {so : Str} {c : SA} {b : Bool} (h : (so == Str.ofString "came") = false) (hb : (so == Str.ofString "ask") = b) : tl1 x (ti, x, so) c = ((if (b && !c.2) = true then some ti else c.1), c.2 || b) := by simp [tl1, h, hb]
theorem tl1_other {x y ti : Int} {so : Str} {c : SA} (h : y ≠ x) : tl1 x (ti, y, so) c = c := by simp [tl1, h]
theorem sent_val {b a : Bool} {bs ti : Int} {tn t0 : Tok} {c : Option Int} : ∃ t, optV (relO bs (if (b && !a) = true then some ti else c)) t = (if (b && !a) = true then (.int (bs + ti) tn) else optV (relO bs c) t0) := by
  cases (b && !a)
  · exact ⟨t0, rfl⟩
  · exact ⟨tn, rfl⟩

def RunJ (stat : List (Addr × Obj)) (le d0 d1 : Addr) (g1 g2 g3 g4 : Int) (j1 j2 j3 j4 q1 q2 q3 q4 tta ttb : Tok) (ta tb bs : Int) (w0 w1 : Option Int) (es : List Ev) (m₀ : Str → Option Value) (i : Nat) (m' : Str → Option Value) (nx : List (Addr × Obj)) : Prop :=
  ∃ vs n T ts0 ts1, nx = (le, listOf (List.toArray vs) n) :: (d0, idleD g1 g2 g3 g4 j1 j2 j3 j4 (.int ta tta) (.int tb ttb) (optV (relO bs (runE 0 (es.take i)).1) ts0) (.bool (runE 0 (es.take i)).2)) ::
      (d1, idleD g1 g2 g3 g4 q1 q2 q3 q4 (.int tb ttb) (.int ta tta) (optV (relO bs (runE 1 (es.take i)).1) ts1) (.bool (runE 1 (es.take i)).2)) :: T ∧
    (∀ p ∈ T, p.1 ≠ le) ∧ (∀ p ∈ T, p.1 ≠ d0) ∧ (∀ p ∈ T, p.1 ≠ d1) ∧ (∀ p ∈ stat, p ∈ T) ∧ DatAll T vs ((List.range i).map fun k => endAt w0 w1 (es.take (k + 1))) ∧
    ∀ z, ([Str.ofString "time", Str.ofString "side", Str.ofString "sort", Str.ofString "now", Str.ofString "due"]).contains z = false → m' z = m₀ z

theorem run_iter {target : Expr} {body : List Stmt} {m₀ : Str → Option Value} {le d0 d1 ev : Addr} {g1 g2 g3 g4 : Int} {j1 j2 j3 j4 q1 q2 q3 q4 tta ttb : Tok} {ta tb bs : Int} {us : List Value} {nu : Nat} {stat N₀ : List (Addr × Obj)} {es : List Ev} (w0 w1 : Option Int)
    (hh : A.handled = none) (F : Fr h₀ env.locals s.heap m₀) (N : News h₀ env.locals s.heap N₀)
    (hsub : ∀ p ∈ (le, listOf #[] 0) :: (d0, idleD g1 g2 g3 g4 j1 j2 j3 j4 (.int ta tta) (.int tb ttb) .none (.bool false)) :: (d1, idleD g1 g2 g3 g4 q1 q2 q3 q4 (.int tb ttb) (.int ta tta) .none (.bool false)) :: stat, p ∈ N₀)
    (h1 : ∀ p ∈ stat, p.1 ≠ le) (h2 : ∀ p ∈ stat, p.1 ≠ d0) (h3 : ∀ p ∈ stat, p.1 ≠ d1) (hq : (ev, listOf us.toArray nu) ∈ stat) (hD : DatAll stat us (es.map evD))
    (turn : ∀ i (hi : i < es.length) v (m₁ : Str → Option Value) vs n T ts0 ts1 I oI s₁, DatIn T v (evD es[i]) → (∀ p ∈ stat, p ∈ T) → (∀ p ∈ T, p.1 ≠ le) → (∀ p ∈ T, p.1 ≠ d0) → (∀ p ∈ T, p.1 ≠ d1) → (∀ p ∈ T, p.1 ≠ I) → @Ne Nat le I → @Ne Nat d0 I → @Ne Nat d1 I →
      DatAll T vs ((List.range i).map fun k => endAt w0 w1 (es.take (k + 1))) → vs.length = i →
      Fr h₀ env.locals s₁.heap (fun y => if ([Str.ofString "time", Str.ofString "side", Str.ofString "sort", Str.ofString "now", Str.ofString "due"]).contains y = true then m₁ y else m₀ y) →
      News h₀ env.locals s₁.heap ((I, oI) :: (le, listOf (List.toArray vs) n) :: (d0, idleD g1 g2 g3 g4 j1 j2 j3 j4 (.int ta tta) (.int tb ttb) (optV (relO bs (runE 0 (es.take i)).1) ts0) (.bool (runE 0 (es.take i)).2)) ::
        (d1, idleD g1 g2 g3 g4 q1 q2 q3 q4 (.int tb ttb) (.int ta tta) (optV (relO bs (runE 1 (es.take i)).1) ts1) (.bool (runE 1 (es.take i)).2)) :: T) →
      wpAny (model prog w) A (assign target env v) (fun _ s₃ => wpAny (model prog w) A (execs body env) (LEnd h₀ env.locals I oI (RunJ stat le d0 d1 g1 g2 g3 g4 j1 j2 j3 j4 q1 q2 q3 q4 tta ttb ta tb bs w0 w1 es m₀ (i + 1)) s₁) E s₃) E s₁)
    (done : ∀ (m₁ : Str → Option Value) vs n T h tk, (∀ p ∈ stat, p ∈ T) → (∀ p ∈ T, p.1 ≠ le) → DatAll T vs ((List.range es.length).map fun k => endAt w0 w1 (es.take (k + 1))) →
      Fr h₀ env.locals h (fun y => if ([Str.ofString "time", Str.ofString "side", Str.ofString "sort", Str.ofString "now", Str.ofString "due"]).contains y = true then m₁ y else m₀ y) → News h₀ env.locals h ((le, listOf (List.toArray vs) n) :: T) → Q .next { s with heap := h, toks := tk }) :
    wpAny (model prog w) A (pyIter (.ref ev)) (fun it s₂ => LoopAtT prog w A h₀ env target body Q E it s₂) E s := by
  have hus : us.length = es.length := by have := hD.length; simpa using this
  have N' : News h₀ env.locals s.heap ((le, listOf #[] 0) :: (d0, idleD g1 g2 g3 g4 j1 j2 j3 j4 (.int ta tta) (.int tb ttb) .none (.bool false)) :: (d1, idleD g1 g2 g3 g4 q1 q2 q3 q4 (.int tb ttb) (.int ta tta) .none (.bool false)) :: stat) := fun p hp => N p (hsub p hp)
  refine loopT (RunJ stat le d0 d1 g1 g2 g3 g4 j1 j2 j3 j4 q1 q2 q3 q4 tta ttb ta tb bs w0 w1 es m₀) hh (List.mem_cons_of_mem _ (List.mem_cons_of_mem _ (List.mem_cons_of_mem _ hq))) F N' ⟨[], 0, stat, 0, 0, rfl, h1, h2, h3, fun p hp => hp, .nil, fun _ _ => rfl⟩ ?_ ?_ ?_
  · rintro i m' nx ⟨vs, n, T, ts0, ts1, rfl, _, _, _, hT, _⟩
    exact List.mem_cons_of_mem _ (List.mem_cons_of_mem _ (List.mem_cons_of_mem _ (hT _ hq)))
  · rintro i v m₁ nx I oI s₁ hv ⟨vs, n, T, ts0, ts1, rfl, a1, a2, a3, hT, hA, hm⟩ hI F₁ N₁
    have hi : i < es.length := by rw [← hus]; exact (List.getElem?_eq_some_iff.mp hv).1
    obtain ⟨v', hv', hDv⟩ := hD.get (k := i) (by simpa using hi)
    rw [hv] at hv'
    cases hv'
    have e : (es.map evD)[i]'(by simpa using hi) = evD es[i] := by simp
    rw [e] at hDv
    have hl : vs.length = i := by
      have := hA.length
      rw [List.length_map, List.length_range] at this
      omega
    exact turn i hi v m₁ vs n T ts0 ts1 I oI s₁ (hDv.mono hT) hT a1 a2 a3 (fun p hp => hI p (List.mem_cons_of_mem _ (List.mem_cons_of_mem _ (List.mem_cons_of_mem _ hp)))) (hI _ List.mem_cons_self) (hI _ (List.mem_cons_of_mem _ List.mem_cons_self)) (hI _ (List.mem_cons_of_mem _ (List.mem_cons_of_mem _ List.mem_cons_self))) hA hl (fr_stored F₁ hm) N₁
  · rintro m₁ nx h tk ⟨vs, n, T, ts0, ts1, rfl, a1, a2, a3, hT, hA, hm⟩ F₁ N₁
    rw [hus] at hA
    refine done m₁ vs n T h tk hT a1 hA (fr_stored F₁ hm) fun p hp => N₁ p ?_
    simp only [List.mem_cons] at hp ⊢
    rcases hp with hp | hp
    · exact .inl hp
    · exact .inr (.inr (.inr hp))
theorem run_iter2 {target : Expr} {body : List Stmt} {m₀ : Str → Option Value} {le d0 d1 ev : Addr} {g1 g2 g3 g4 : Int} {j1 j2 j3 j4 q1 q2 q3 q4 tta ttb : Tok} {ta tb : Int} {us : List Value} {nu : Nat} {news : List (Addr × Obj)} {u1 u2 e1 e2 e3 e4 : Addr × Obj} {es : List Ev} (bs : Int) (w0 w1 : Option Int)
    (hh : A.handled = none) (F : Fr h₀ env.locals s.heap m₀) (N : News h₀ env.locals s.heap (u1 :: u2 :: (le, listOf #[] 0) :: e1 :: e2 :: (d1, idleD g1 g2 g3 g4 q1 q2 q3 q4 (.int tb ttb) (.int ta tta) .none (.bool false)) :: e3 :: (d0, idleD g1 g2 g3 g4 j1 j2 j3 j4 (.int ta tta) (.int tb ttb) .none (.bool false)) :: e4 :: news))
    (hq : (ev, listOf us.toArray nu) ∈ news) (hD : DatAll news us (es.map evD)) (h1 : ∀ p ∈ e1 :: e2 :: e3 :: e4 :: news, p.1 ≠ le) (h2 : ∀ p ∈ e1 :: e2 :: e3 :: e4 :: news, p.1 ≠ d0) (h3 : ∀ p ∈ e1 :: e2 :: e3 :: e4 :: news, p.1 ≠ d1)
    (turn : ∀ i (hi : i < es.length) v (m₁ : Str → Option Value) vs n T ts0 ts1 I oI s₁, DatIn T v (evD es[i]) → e1 ∈ T → e2 ∈ T → e3 ∈ T → e4 ∈ T → (∀ p ∈ news, p ∈ T) → (∀ p ∈ T, p.1 ≠ le) → (∀ p ∈ T, p.1 ≠ d0) → (∀ p ∈ T, p.1 ≠ d1) → (∀ p ∈ T, p.1 ≠ I) → @Ne Nat le I → @Ne Nat d0 I → @Ne Nat d1 I →
      DatAll T vs ((List.range i).map fun k => endAt w0 w1 (es.take (k + 1))) → vs.length = i →
      Fr h₀ env.locals s₁.heap (fun y => if ([Str.ofString "time", Str.ofString "side", Str.ofString "sort", Str.ofString "now", Str.ofString "due"]).contains y = true then m₁ y else m₀ y) →
      News h₀ env.locals s₁.heap ((I, oI) :: (le, listOf (List.toArray vs) n) :: (d0, idleD g1 g2 g3 g4 j1 j2 j3 j4 (.int ta tta) (.int tb ttb) (optV (relO bs (runE 0 (es.take i)).1) ts0) (.bool (runE 0 (es.take i)).2)) ::
        (d1, idleD g1 g2 g3 g4 q1 q2 q3 q4 (.int tb ttb) (.int ta tta) (optV (relO bs (runE 1 (es.take i)).1) ts1) (.bool (runE 1 (es.take i)).2)) :: T) →
      wpAny (model prog w) A (assign target env v) (fun _ s₃ => wpAny (model prog w) A (execs body env) (LEnd h₀ env.locals I oI (RunJ (e1 :: e2 :: e3 :: e4 :: news) le d0 d1 g1 g2 g3 g4 j1 j2 j3 j4 q1 q2 q3 q4 tta ttb ta tb bs w0 w1 es m₀ (i + 1)) s₁) E s₃) E s₁)
    (done : ∀ (m₁ : Str → Option Value) vs n T h tk, (∀ p ∈ news, p ∈ T) → (∀ p ∈ T, p.1 ≠ le) → DatAll T vs ((List.range es.length).map fun k => endAt w0 w1 (es.take (k + 1))) →
      Fr h₀ env.locals h (fun y => if ([Str.ofString "time", Str.ofString "side", Str.ofString "sort", Str.ofString "now", Str.ofString "due"]).contains y = true then m₁ y else m₀ y) → News h₀ env.locals h ((le, listOf (List.toArray vs) n) :: T) → Q .next { s with heap := h, toks := tk }) :
    wpAny (model prog w) A (pyIter (.ref ev)) (fun it s₂ => LoopAtT prog w A h₀ env target body Q E it s₂) E s := by
  refine run_iter (stat := e1 :: e2 :: e3 :: e4 :: news) w0 w1 hh F N (fun p hp => ?_) h1 h2 h3 (List.mem_cons_of_mem _ (List.mem_cons_of_mem _ (List.mem_cons_of_mem _ (List.mem_cons_of_mem _ hq)))) (hD.mono fun p hp => List.mem_cons_of_mem _ (List.mem_cons_of_mem _ (List.mem_cons_of_mem _ (List.mem_cons_of_mem _ hp))))
    (fun i hi v m₁ vs n T ts0 ts1 I oI s₁ hv hT => turn i hi v m₁ vs n T ts0 ts1 I oI s₁ hv (hT _ List.mem_cons_self) (hT _ (List.mem_cons_of_mem _ List.mem_cons_self)) (hT _ (List.mem_cons_of_mem _ (List.mem_cons_of_mem _ List.mem_cons_self))) (hT _ (List.mem_cons_of_mem _ (List.mem_cons_of_mem _ (List.mem_cons_of_mem _ List.mem_cons_self)))) (fun p hp => hT p (List.mem_cons_of_mem _ (List.mem_cons_of_mem _ (List.mem_cons_of_mem _ (List.mem_cons_of_mem _ hp))))))
    (fun m₁ vs n T h tk hT => done m₁ vs n T h tk (fun p hp => hT p (List.mem_cons_of_mem _ (List.mem_cons_of_mem _ (List.mem_cons_of_mem _ (List.mem_cons_of_mem _ hp))))))
  simp only [List.mem_cons] at hp ⊢
  rcases hp with hp | hp | hp | hp | hp | hp | hp | hp
  · exact .inr (.inr (.inl hp))
  · exact .inr (.inr (.inr (.inr (.inr (.inr (.inr (.inl hp)))))))
  · exact .inr (.inr (.inr (.inr (.inr (.inl hp)))))
  · exact .inr (.inr (.inr (.inl hp)))
  · exact .inr (.inr (.inr (.inr (.inl hp))))
  · exact .inr (.inr (.inr (.inr (.inr (.inr (.inl hp))))))
  · exact .inr (.inr (.inr (.inr (.inr (.inr (.inr (.inr (.inl hp))))))))
  · exact .inr (.inr (.inr (.inr (.inr (.inr (.inr (.inr (.inr hp))))))))
theorem my_item {M : Str → Option Value} {L : Addr} {news : List (Addr × Obj)} {value slice : Expr} {l : Addr} {vs : List Value} {n j : Nat} {k : Int} {u : Tok} {x : Value} {Q : Value → Shared → Prop} (_F : Fr h₀ L s.heap M) (N : News h₀ L s.heap news) (hm : (l, listOf vs.toArray n) ∈ news) (h0 : 0 ≤ k) (hf : k < 2 ^ 63) (hj : k.toNat = j)
    (hx : vs[j]? = some x) (h : Q x s) (hs : subscripted slice false (.ref l) (.int k u) = operate [.ref l, .int k u] (getItem (.ref l) (.int k u)) := by with_unfolding_all rfl) :
    wpAny (model prog w) A (subscriptTail value slice (.ref l) (.int k u)) Q E s := by
  have hl : s.heap.IsList l vs.toArray := ⟨_, (N _ hm).1, rfl, n, rfl⟩
  exact PyProof.Rows.tail_any hl.typeIs slot_list_getitem.lookup (wpAny_getItem_list hl h0 hf (by rw [hj]; simpa using hx) h) hs
theorem run_end {L I le d0 d1 D : Addr} {oI : Obj} {vs ys : List Value} {n' i tk : Nat} {g1 g2 g3 g4 : Int} {j1 j2 j3 j4 q1 q2 q3 q4 tta ttb ts0 ts1 : Tok} {ta tb bs : Int} {w0 w1 : Option Int} {z0 z1 : SA} {T news : List (Addr × Obj)} {es : List Ev} {du e1 e2 e3 e4 : Addr × Obj} {m₀ m' : Str → Option Value} {h' : Heap}
    (F : Fr h₀ L h' m') (N : News h₀ L h' ((D, LCg.lst ys) :: du :: (I, oI) :: (le, listOf (List.toArray (vs ++ [.ref D])) n') :: (d0, idleD g1 g2 g3 g4 j1 j2 j3 j4 (.int ta tta) (.int tb ttb) (optV (relO bs z0.1) ts0) (.bool z0.2)) :: (d1, idleD g1 g2 g3 g4 q1 q2 q3 q4 (.int tb ttb) (.int ta tta) (optV (relO bs z1.1) ts1) (.bool z1.2)) :: T))
    (r0 : runE 0 (es.take (i + 1)) = z0) (r1 : runE 1 (es.take (i + 1)) = z1) (hA : DatAll T vs ((List.range i).map fun k => endAt w0 w1 (es.take (k + 1)))) (hys : DatAll [] ys [optDat (dlO w0 z0.1), optDat (dlO w1 z1.1)])
    (o1 : I ≠ D) (o2 : le ≠ D) (o3 : d0 ≠ D) (o4 : d1 ≠ D) (hTl : ∀ p ∈ T, p.1 ≠ le) (hT0 : ∀ p ∈ T, p.1 ≠ d0) (hT1 : ∀ p ∈ T, p.1 ≠ d1) (hTI : ∀ p ∈ T, p.1 ≠ I) (hlI : @Ne Nat le I) (h0I : @Ne Nat d0 I) (h1I : @Ne Nat d1 I)
    (hx1 : e1 ∈ T) (hx2 : e2 ∈ T) (hx3 : e3 ∈ T) (hx4 : e4 ∈ T) (hT : ∀ p ∈ news, p ∈ T)
    (hm : ∀ z, ([Str.ofString "time", Str.ofString "side", Str.ofString "sort", Str.ofString "now", Str.ofString "due"]).contains z = false → m' z = m₀ z) :
    LEnd h₀ L I oI (RunJ (e1 :: e2 :: e3 :: e4 :: news) le d0 d1 g1 g2 g3 g4 j1 j2 j3 j4 q1 q2 q3 q4 tta ttb ta tb bs w0 w1 es m₀ (i + 1)) s .next { s with heap := h', toks := tk } := by
  subst r0 r1
  refine ⟨rfl, h', tk, m', (le, listOf (List.toArray (vs ++ [.ref D])) n') :: (d0, idleD g1 g2 g3 g4 j1 j2 j3 j4 (.int ta tta) (.int tb ttb) (optV (relO bs (runE 0 (es.take (i + 1))).1) ts0) (.bool (runE 0 (es.take (i + 1))).2)) :: (d1, idleD g1 g2 g3 g4 q1 q2 q3 q4 (.int tb ttb) (.int ta tta) (optV (relO bs (runE 1 (es.take (i + 1))).1) ts1) (.bool (runE 1 (es.take (i + 1))).2)) :: (D, LCg.lst ys) :: T, rfl, F, fun p hp => N p ?_, fun p hp => ?_,
    ⟨vs ++ [.ref D], n', (D, LCg.lst ys) :: T, ts0, ts1, rfl, ?_, ?_, ?_, ?_, ?_, hm⟩⟩
  · simp only [List.mem_cons] at hp ⊢
    rcases hp with hp | hp | hp | hp | hp | hp
    · exact .inr (.inr (.inl hp))
    · exact .inr (.inr (.inr (.inl hp)))
    · exact .inr (.inr (.inr (.inr (.inl hp))))
    · exact .inr (.inr (.inr (.inr (.inr (.inl hp)))))
    · exact .inl hp
    · exact .inr (.inr (.inr (.inr (.inr (.inr hp)))))
  · simp only [List.mem_cons] at hp
    rcases hp with rfl | rfl | rfl | rfl | hp
    · exact hlI
    · exact h0I
    · exact h1I
    · exact o1.symm
    · exact hTI p hp
  · exact List.forall_mem_cons.mpr ⟨o2.symm, hTl⟩
  · exact List.forall_mem_cons.mpr ⟨o3.symm, hT0⟩
  · exact List.forall_mem_cons.mpr ⟨o4.symm, hT1⟩
  · intro p hp
    simp only [List.mem_cons] at hp ⊢
    rcases hp with rfl | rfl | rfl | rfl | hp
    · exact .inr hx1
    · exact .inr hx2
    · exact .inr hx3
    · exact .inr hx4
    · exact .inr (hT p hp)
  · rw [List.range_succ, List.map_append]
    exact DatAll.append (hA.mono fun p hp => List.mem_cons_of_mem _ hp) (.one (.list List.mem_cons_self (hys.mono (by intro _ hp; cases hp))))
end
end

section
local macro_rules | `(tactic| walk_at "call ref") => `(tactic| (k_here; (with_reducible show wpAny _ _ (call (Value.ref 75) _ _) _ _ _); k_dflt (refine' over_specB false ?kB ?kF ?kX ?kT ?kK ?kN ?kx ?kd ?k0 ?k1 ?k2 ?k3 ?k4 ?k5 ?kb ?_; (case kB => k_asm); (case kF => k_asm); (case kX => k_asm); (case kT => k_asm); (case kK => exact rfl); (case kN => k_asm); (case kx => k_mem); (case kd => k_mem); (case k0 => omega); (case k1 => omega); (case k2 => omega); (case k3 => omega); (case k4 => ((try simp only [depth_deeper, depth_in1, depth_under_make, depth_under_kw]); (try dsimp only [ktrTop]); omega)); (case k5 => ((try simp only [units_deeper, units_in1]); (try dsimp only [ktrTop]); omega)); (case kb => with_reducible assumption); k_whole); intro h' tk' F' N'))
local macro_rules | `(tactic| walk_at "call ref") => `(tactic| (k_here; (with_reducible show wpAny _ _ (call (Value.ref 68) _ _) _ _ _); k_dflt (refine' deadline_spec ?kB ?kF ?kX ?kT ?kK ?kN ?kx ?kd ?k0 ?k1 ?k2 ?k3 ?k4 ?k5 ?_; (case kB => k_asm); (case kF => k_asm); (case kX => k_asm); (case kT => k_asm); (case kK => exact rfl); (case kN => k_asm); (case kx => k_mem); (case kd => k_mem); (case k0 => omega); (case k1 => omega); (case k2 => omega); (case k3 => omega); (case k4 => ((try simp only [depth_deeper, depth_in1, depth_under_make, depth_under_kw]); (try dsimp only [ktrTop]); omega)); (case k5 => ((try simp only [units_deeper, units_in1]); (try dsimp only [ktrTop]); omega));  k_whole); intro tr' h' tk' F' N'))
local macro_rules | `(tactic| walk_at "call ref") => `(tactic| (k_here; (with_reducible show wpAny _ _ (call (Value.ref 54) _ _) _ _ _); k_dflt (refine' received_spec ?kB ?kF ?kX ?kT ?kK ?kN ?kx ?kd ?k4 ?k5 ?_; (case kB => k_asm); (case kF => k_asm); (case kX => k_asm); (case kT => k_asm); (case kK => exact rfl); (case kN => k_asm); (case kx => k_mem); (case kd => k_upd); (case k4 => ((try simp only [depth_deeper, depth_in1, depth_under_make, depth_under_kw]); (try dsimp only [ktrTop]); omega)); (case k5 => ((try simp only [units_deeper, units_in1]); (try dsimp only [ktrTop]); omega));  k_whole); intro h' tk' F' N'))
local macro_rules | `(tactic| walk_at "call ref") => `(tactic| (k_here; (with_reducible show wpAny _ _ (call (Value.ref 61) _ _) _ _ _); k_dflt (refine' sent_spec ?kB ?kF ?kX ?kT ?kK ?kN ?kx ?kd ?k4 ?k5 ?_; (case kB => k_asm); (case kF => k_asm); (case kX => k_asm); (case kT => k_asm); (case kK => exact rfl); (case kN => k_asm); (case kx => k_mem); (case kd => k_upd); (case k4 => ((try simp only [depth_deeper, depth_in1, depth_under_make, depth_under_kw]); (try dsimp only [ktrTop]); omega)); (case k5 => ((try simp only [units_deeper, units_in1]); (try dsimp only [ktrTop]); omega));  k_whole); intro h' tk' F' N'))
local macro_rules | `(tactic| walk_at "compareOp Eq str str") => `(tactic| refine eqLit _ (by with_reducible assumption) ?_)
local macro_rules | `(tactic| walk_at "exec For Tuple Name") => `(tactic| (k_here; (rename Fr _ _ _ _ => lF'); (with_unfolding_all refine For_invTF lF' ?_ (by intro _; rfl))))
local macro_rules | `(tactic| walk_at "subscriptTail") => `(tactic| (k_here; (with_reducible show wpAny _ _ (subscriptTail _ _ (Value.ref _) (Value.int _ _)) _ _ _); k_dflt (refine' my_item ?F ?N ?m ?a ?b ?c ?d ?_; (case F => k_asm); (case N => k_asm); (case m => k_mem); (case a => decide); (case b => decide); (case c => rfl); (case d => rfl); k_whole)))
local macro_rules | `(tactic| walk_at "call builtin:list.append") => `(tactic| (k_here; (with_reducible show wpAny _ _ (call (Value.builtin "list.append") [Value.ref _, _]) _ _ _); k_dflt (refine' my_append ?F ?N ?U ?f ?_; (case F => k_asm); (case N => k_asm); (case U => k_upd); (case f => ((try simp only [Array.size_push, List.size_toArray, List.length_append, List.length_cons, List.length_nil]); omega)); intro h' F' N')))
local macro_rules | `(tactic| walk_at "eval ListComp") => `(tactic| (k_here; k_dflt (refine compE (by k_asm) (by with_unfolding_all rfl) (by decide) (by rfl) (by decide) ?_)))

theorem run_spec {w : World} {mean : ExcName → Option Value} {mg mb : Str → Option Value} {dp un : Nat} {gd : Option (List Code)} {cn : Str} {cs : Scope} {a : Addr} {ccd : Value} {cl : List (Str × Addr)}
    {outer : List Env} {A₀ : Around} {base h₀ : Heap} {L : Addr} {m : Str → Option Value} {s : Shared} {news : List (Addr × Obj)} {ev tt pp : Addr} {us : List Value} {nu ntt npp : Nat} {es : List Ev} {bs ta tb p0 p1 : Int} {tbs tta ttb tp0 tp1 : Tok}
    {Q E : Value → Shared → Prop}
    (B : Below A₀ base outer h₀) (F : Fr h₀ L s.heap m) (X : (hd.heap_39 w.params).In h₀) (T : Top hd.view_39 (looseW hd.view_39 []) mean mg mb h₀) (hk : cs.kind = .function)
    (N : News h₀ L s.heap news) (hev : (ev, listOf us.toArray nu) ∈ news) (hD : DatAll news us (es.map evD)) (htt : (tt, ({ cls := .type "tuple", data := .seq #[.int ta tta, .int tb ttb] ntt } : Obj)) ∈ news) (hpp : (pp, ({ cls := .type "tuple", data := .seq #[.int p0 tp0, .int p1 tp1] npp } : Obj)) ∈ news)
    (hl : es.length < 64) (h1 : 0 ≤ p0 ∧ p0 < 10 ^ 6) (h2 : 0 ≤ p1 ∧ p1 < 10 ^ 6) (h3 : ta < 10 ^ 6) (h4 : tb < 10 ^ 6) (hb : 0 ≤ bs ∧ bs < 10 ^ 10)
    (hes : ∀ e ∈ es, 0 ≤ e.1 ∧ e.1 < 10 ^ 6 ∧ (e.2.1 = 0 ∨ e.2.1 = 1))
    (hsafe : ∀ i (hi : i < es.length), overO (dlO (waitO ta tb p0) (runE 0 (es.take i)).1) es[i].1 = false ∧ overO (dlO (waitO tb ta p1) (runE 1 (es.take i)).1) es[i].1 = false)
    (hd : dp < 600) (hu : un < 700)
    (h : ∀ D vs c T h' tk, Fr h₀ L h' m → News h₀ L h' ((D, listOf (List.toArray vs) c) :: T) → (∀ p ∈ news, p ∈ T) → (∀ p ∈ T, p.1 ≠ D) → DatAll T vs ((List.range es.length).map fun k => endAt (waitO ta tb p0) (waitO tb ta p1) (es.take (k + 1))) → Q (.ref D) { s with heap := h', toks := tk }) :
    wpAny (model PySem.Challenge.rw_sj0106_01.row.prog w) (ktrTop dp un gd cn cs L a ccd cl outer) (call (.ref 183) [.int bs tbs, .ref ev, .ref tt, .ref pp]) Q E s := by
  have hMk := kstMark
  refine wpAny_call ?_
  k_dflt (refine' code_defC ?k1 ?k2 ?k3 ?k4 ?k5 ?kA ?kF ?kK ?k6 ?k7 ?k8 ?k9 ?kB ?kD ?_ ?c2 ?c3 ?c4)
  case kA => exact rfl
  case kF => exact rfl
  case kK => assumption
  case k1 => k_asm
  case k2 => k_asm
  case k3 => k_asm
  case k4 => k_asm
  case k5 => k_asm
  case k6 => k_dflt k_is
  case k7 => k_dflt k_is
  case k8 => ktr_room
  case k9 => exact BindsTo.of_eq rfl
  case kB => exact rfl
  case kD => decide +kernel
  case c2 => exact rfl
  case c3 => exact rfl
  case c4 => exact rfl
  intro g' L' h' tk' cells' FG' F' N' Y' B' X' T' l1
  (try k_lt l1)
  k_cells Y'
  (try simp only [List.cons_append, List.nil_append] at N')
  (try dsimp only)
  (try k_fold)
  k_steps
  (rename News _ _ _ _ => N9)
  (rename Fr _ _ _ _ => F9)
  refine run_iter2 bs (waitO ta tb p0) (waitO tb ta p1) (by rfl) F9 N9 hev hD ?s1 ?s2 ?s3 ?turn ?done
  case s1 => k_all
  case s2 => k_all
  case s3 => k_all
  case turn =>
    clear F9 N9
    intro i hi v m₁ vs n T ts0 ts1 I oI s₁ hv hx1 hx2 hx3 hx4 hT hTl hT0 hT1 hTI hlI h0I h1I hA hvl F2 N2
    obtain ⟨te, nt, t1, t2, t3, rfl, hm⟩ := ev_open hv
    obtain ⟨b1, b2, b3⟩ := hes _ (List.getElem_mem hi)
    obtain ⟨s0, s1⟩ := hsafe i hi
    have hpp' := hT _ hpp
    have r0 := runE_take 0 es i hi
    have r1 := runE_take 1 es i hi
    generalize hek : es[i] = ek at hm b1 b2 b3 s0 s1 r0 r1
    obtain ⟨ti, sd, so⟩ := ek
    dsimp only at hm b1 b2 b3 s0 s1
    generalize hc0 : runE 0 (es.take i) = c0 at N2 s0 r0
    generalize hc1 : runE 1 (es.take i) = c1 at N2 s1 r1
    rw [← over_rel _ _ bs] at s0 s1
    refine cutNow ti sd (bs + ti) t1 t2 t3 so F2 N2 ?hA ?hB
    case hA =>
      k_steps
      (rename News _ _ _ _ => N9)
      (rename Fr _ _ _ _ => F9)
      exact NowEnd.mk F9 N9
    clear F2 N2
    intro h3 tk3 tn3 F3 N3
    refine cutIf (ti, sd, so) F3 N3 ?iA ?iB
    case iA =>
      clear r0 r1 s0 s1 hek hc0 hc1
      cases hcm : (so == Str.ofString "came") with
      | true =>
        rcases b3 with rfl | rfl
        all_goals k_steps
        all_goals (rename News _ _ _ _ => N9; rename Fr _ _ _ _ => F9)
        · exact IfEnd.mk F9 N9 tn3 ts1 (by simp only [tl1_came hcm, tl1_other (show (0 : Int) ≠ 1 by decide)]; rfl)
        · exact IfEnd.mk F9 N9 ts0 tn3 (by simp only [tl1_came hcm, tl1_other (show (1 : Int) ≠ 0 by decide)]; rfl)
      | false =>
        generalize hsk : (so == Str.ofString "ask") = bk
        rcases b3 with rfl | rfl
        all_goals k_steps
        all_goals (rename News _ _ _ _ => N9; rename Fr _ _ _ _ => F9)
        · obtain ⟨z, hz⟩ := sent_val (b := bk) (a := c0.2) (bs := bs) (ti := ti) (tn := tn3) (t0 := ts0) (c := c0.1)
          exact IfEnd.mk F9 N9 z ts1 (by simp only [tl1_sent hcm hsk, tl1_other (show (0 : Int) ≠ 1 by decide), hz])
        · obtain ⟨z, hz⟩ := sent_val (b := bk) (a := c1.2) (bs := bs) (ti := ti) (tn := tn3) (t0 := ts1) (c := c1.1)
          exact IfEnd.mk F9 N9 ts0 z (by simp only [tl1_sent hcm hsk, tl1_other (show (1 : Int) ≠ 0 by decide), hz])
    case iB =>
      clear F3 N3
      intro h4 tk4 ts0' ts1' F4 N4
      k_steps
      (rename News _ _ _ _ => N9; rename Fr _ _ _ _ => F9)
      generalize hz0 : tl1 0 (ti, sd, so) c0 = z0 at N9 r0 ⊢
      generalize hz1 : tl1 1 (ti, sd, so) c1 = z1 at N9 r1 ⊢
      clear F4 N4
      refine ⟨_, [_, _], 0, false, _, fun i ys nw => nw = _ ∧ DatAll [] ys (([optDat (dlO (waitO ta tb p0) z0.1), optDat (dlO (waitO tb ta p1) z1.1)] : List Dat).take i), rfl, rfl, F9, N9, List.mem_cons_self, Nat.le_of_ble_eq_true rfl, ⟨rfl, .nil⟩, ?jS, ?jT, ?jF⟩
      case jS => (rintro i ys nw ⟨rfl, _⟩; exact List.mem_cons_self)
      case jT =>
        intro C I' D nCI nCD nDI nCL hC₀ i v ys pv nw oI' h5 tk5 E' hP hJ hPv F5 N5 off
        obtain ⟨rfl, hA5⟩ := hJ
        obtain ⟨oC, m', rfl, hn⟩ := hPv
        obtain ⟨x, si, tr, rfl, hx⟩ : ∃ x si tr, v = optV (dlO x (relO bs si)) tr ∧ ([optDat (dlO (waitO ta tb p0) z0.1), optDat (dlO (waitO tb ta p1) z1.1)] : List Dat)[i]? = some (optDat (dlO x si)) := by
          match i, hP with
          | 0, hP => exact ⟨_, _, _, (Option.some.inj hP).symm, rfl⟩
          | 1, hP => exact ⟨_, _, _, (Option.some.inj hP).symm, rfl⟩
        refine cAssign1 (by rfl) (by rfl) F5 N5 hn nCI nCD (fun p hp => (off p hp).2.2) fun h6 oC6 m6 tk6 hn6 hx6 F6 N6 => ?_
        clear hn N5 F5 F9 N9
        simp only [List.cons_append, List.nil_append] at N6
        refine wpAny_tests_nil ?_
        simp only [if_true]
        have hnx : ∀ d : Value, DatIn [] d (optDat (dlO x si)) → DatAll [] (ys ++ [d]) (([optDat (dlO (waitO ta tb p0) z0.1), optDat (dlO (waitO tb ta p1) z1.1)] : List Dat).take (i + 1)) := fun d hd => by
          rw [List.take_add_one, hx]; exact DatAll.append hA5 (.one hd)
        clear hx hA5
        cases x with
        | none =>
          simp only [dlO, optV] at hx6 hnx
          k_steps
          (rename News _ _ _ _ => N9; rename Fr _ _ _ _ => F9)
          exact CEnd.calm hn6 F9 N9 off ⟨rfl, hnx _ .none⟩
        | some x => cases si with
          | none =>
            simp only [dlO, optV, relO] at hx6 hnx
            k_steps
            (rename News _ _ _ _ => N9; rename Fr _ _ _ _ => F9)
            exact CEnd.calm hn6 F9 N9 off ⟨rfl, hnx _ .none⟩
          | some si =>
            simp only [dlO, optV, relO] at hx6 hnx
            k_steps
            (rename News _ _ _ _ => N9; rename Fr _ _ _ _ => F9)
            refine CEnd.calm hn6 F9 N9 off ⟨rfl, hnx _ ?_⟩
            rw [show bs + si + x - bs = si + x by omega]
            exact .int _ _
      case jF =>
        rintro ys nw ⟨rfl, hA5⟩ D h5 tk5 F5 N5 oD
        clear F9 N9
        simp only [List.forall_mem_cons] at oD
        obtain ⟨oD1, oD2, oD3, oD4, oD5, oD6⟩ := oD
        have oD3' := oD3.symm
        k_steps
        (rename News _ _ _ _ => N9; rename Fr _ _ _ _ => F9)
        (try simp only [List.push_toArray] at N9)
        exact run_end F9 N9 r0 r1 hA hA5 oD2 oD3 oD4 oD5 hTl hT0 hT1 hTI hlI h0I h1I hx1 hx2 hx3 hx4 hT (by
          intro z hz
          simp only [List.contains_cons, List.contains_nil, Bool.or_false, Bool.or_eq_false_iff, beq_eq_false_iff_ne, ne_eq] at hz
          obtain ⟨y1, y2, y3, y4, y5⟩ := hz
          simp only [y1, y2, y3, y4, y5, if_false]
          simp [y1, y2, y3, y4, y5])
  case done =>
    clear F9 N9
    intro m₁ vs n T h' tk hT hTl hA F2 N2
    k_steps
    (rename News h₀ _ _ _ => kN; rename Fr h₀ _ _ _ => kF)
    exact h _ vs n T _ _ kF kN hT hTl hA
end

section
theorem drawnU {w : World} {mean : ExcName → Option Value} {mg mb : Str → Option Value} {dp un : Nat} {gd : Option (List Code)} {cn : Str} {cs : Scope} {a : Addr} {ccd : Value} {cl : List (Str × Addr)}
    {outer : List Env} {A₀ : Around} {base h₀ : Heap} {L : Addr} {m : Str → Option Value} {s : Shared} {news : List (Addr × Obj)} {b l : Addr} {vs : List Value} {ns : List Int} {n nl : Nat} {k many : Int} {t tm : Tok} {g : Obj → List (Addr × Obj)}
    {Q E : Value → Shared → Prop}
    (B : Below A₀ base outer h₀) (F : Fr h₀ L s.heap m) (X : (hd.heap_39 w.params).In h₀) (T : Top hd.view_39 (looseW hd.view_39 []) mean mg mb h₀) (hk : cs.kind = .function)
    (N : News h₀ L s.heap news) (U : UpdF b (listOf #[.ref l, .int k t] n) news g) (hl : (l, listOf vs.toArray nl) ∈ news) (hne : @Ne Nat l b) (hi : IntsAre vs ns)
    (hk0 : 0 ≤ k) (hk1 : k < 1000) (hns : ns.length < 1000) (hm : 0 < many) (hm2 : many < 10 ^ 12) (hd : dp < 900) (hu : un < 1000)
    (h : ∀ r t' tr n' h' tk, 0 ≤ r → r < many → Fr h₀ L h' m → News h₀ L h' (g (listOf #[.ref l, .int (k + 1) t'] n')) → Q (.int r tr) { s with heap := h', toks := tk }) :
    wpAny (model PySem.Challenge.rw_sj0106_01.row.prog w) (ktrTop dp un gd cn cs L a ccd cl outer) (call (.ref 173) [.ref b, .int many tm]) Q E s := by
  obtain ⟨pre, post, rfl, hg, a1, a2⟩ := U.split
  refine drawn_spec (rest := pre ++ post) (l := l) (n := n) (t := t) B F X T hk (fun p hp => N p ?_) (vs := vs) (nl := nl) ?_ hi ?_ hk0 hk1 hns hm hm2 hd hu fun r t' tr n' h' tk r0 r1 F' N' => h r t' tr n' h' tk r0 r1 F' fun p hp => N' p ?_
  · simp only [List.mem_cons, List.mem_append] at hp ⊢
    rcases hp with rfl | hp | hp
    · exact .inr (.inl rfl)
    · exact .inl hp
    · exact .inr (.inr hp)
  · rcases List.mem_append.mp hl with hl | hl
    · exact List.mem_append_left _ hl
    · rcases List.mem_cons.mp hl with e | hl
      · exact absurd (congrArg Prod.fst e) hne
      · exact List.mem_append_right _ hl
  · intro p hp
    rcases List.mem_append.mp hp with hp | hp
    · exact a1 p hp
    · exact a2 p hp
  · rw [hg] at hp
    simp only [List.mem_cons, List.mem_append] at hp ⊢
    rcases hp with hp | rfl | hp
    · exact .inr (.inl hp)
    · exact .inl rfl
    · exact .inr (.inr hp)

def Stop (p : Prop) : Prop := p
theorem stopIt {p : Prop} (h : Stop p) : p := h
def Menu (ns : List Int) (x : Int) : Prop := x ∈ ns
theorem item_menu {prog : Program} {w : World} {A : Around} {E : Value → Shared → Prop} {s : Shared} {h₀ : Heap} {L l : Addr}
    {value slice : PySem.Expr} {news : List (Addr × Obj)} {vs : List Value} {ns : List Int} {nl : Nat} {k : Int} {u : Tok} {Q : Value → Shared → Prop}
    (N : News h₀ L s.heap news) (hm : (l, listOf vs.toArray nl) ∈ news) (hi : IntsAre vs ns) (h0 : 0 ≤ k) (h1 : k < (ns.length : Int)) (hfit : k < 2 ^ 63) (hb : ∀ x ∈ ns, 0 ≤ x ∧ x < 2000)
    (h : ∀ i t, Menu ns i → 0 ≤ i → i < 2000 → Q (.int i t) s)
    (hs : subscripted slice false (.ref l) (.int k u) = operate [.ref l, .int k u] (getItem (.ref l) (.int k u)) := by with_unfolding_all rfl) :
    wpAny (model prog w) A (subscriptTail value slice (.ref l) (.int k u)) Q E s := by
  have hk : k.toNat < ns.length := by omega
  obtain ⟨t, hx⟩ := hi.get k.toNat (ns[k.toNat]'hk) (List.getElem?_eq_getElem hk)
  have hl : s.heap.IsList l vs.toArray := ⟨_, (N _ hm).1, rfl, nl, rfl⟩
  have hmm := List.getElem_mem hk
  exact tail_any hl.typeIs slot_list_getitem.lookup (wpAny_getItem_list hl h0 hfit (by simpa using hx) (h _ _ hmm (hb _ hmm).1 (hb _ hmm).2)) hs
end

section
inductive AskOk : List Ask → Int → Prop
  | nil : AskOk [] 0
  | snoc {l : List Ask} {t : Int} (g sd late : Int) : AskOk l t → 0 ≤ g → g < 200 → (sd = 0 ∨ sd = 1) → 0 ≤ late → late < 30 → AskOk (l ++ [(t + g, sd, late)]) (t + g)
theorem AskOk.bound {l : List Ask} {t : Int} (h : AskOk l t) : 0 ≤ t ∧ t ≤ 199 * l.length ∧ ∀ a ∈ l, 0 ≤ a.1 ∧ a.1 ≤ t ∧ (a.2.1 = 0 ∨ a.2.1 = 1) ∧ 0 ≤ a.2.2 ∧ a.2.2 < 30 := by
  induction h with
  | nil => exact ⟨by decide, by decide, fun a ha => by cases ha⟩
  | snoc g sd late _ g0 g1 hs l0 l1 ih =>
    obtain ⟨i1, i2, i3⟩ := ih
    refine ⟨by omega, by rw [List.length_append]; simp only [List.length_cons, List.length_nil]; omega, fun a ha => ?_⟩
    rcases List.mem_append.mp ha with ha | ha
    · obtain ⟨b1, b2, b3⟩ := i3 a ha
      exact ⟨b1, by omega, b3⟩
    · rw [List.mem_singleton.mp ha]
      exact ⟨by show 0 ≤ _; omega, Int.le_refl _, hs, l0, l1⟩

def AskJ (b q l : Addr) (news : List (Addr × Obj)) (m₀ : Str → Option Value) (i : Nat) (m' : Str → Option Value) (nx : List (Addr × Obj)) : Prop :=
  ∃ asks t tt k tk nb vs na T, nx = (b, listOf #[.ref l, .int k tk] nb) :: (q, listOf (List.toArray vs) na) :: T ∧ (∀ p ∈ T, p.1 ≠ b) ∧ (∀ p ∈ T, p.1 ≠ q) ∧ (∀ p ∈ news, p ∈ T) ∧ DatAll T vs (asks.map askD) ∧ asks.length = i ∧ k = 6 + 3 * (i : Int) ∧ AskOk asks t ∧
    m' (Str.ofString "time") = some (.int t tt) ∧ ∀ z, ([Str.ofString "turn", Str.ofString "time", Str.ofString "side"]).contains z = false → m' z = m₀ z

theorem ask_frame {h₀ h : Heap} {L : Addr} {m₀ m₁ : Str → Option Value} {t : Int} {tt : Tok} (F : Fr h₀ L h m₁) (ht : m₁ (Str.ofString "time") = some (.int t tt)) (hm : ∀ z, ([Str.ofString "turn", Str.ofString "time", Str.ofString "side"]).contains z = false → m₁ z = m₀ z) : Fr h₀ L h (fun y => if y = Str.ofString "time" then some (.int t tt) else if ([Str.ofString "turn", Str.ofString "time", Str.ofString "side"]).contains y = true then m₁ y else m₀ y) := by
  have e : (fun y => if y = Str.ofString "time" then some (.int t tt) else if ([Str.ofString "turn", Str.ofString "time", Str.ofString "side"]).contains y = true then m₁ y else m₀ y) = m₁ := by
    funext y
    by_cases hy : y = Str.ofString "time"
    · subst hy; simp [ht]
    · simp only [hy, if_false]
      cases hc : ([Str.ofString "turn", Str.ofString "time", Str.ofString "side"]).contains y with
      | true => simp
      | false => simp only [Bool.false_eq_true, if_false]; exact (hm y hc).symm
  rw [e]; exact F

section
variable {prog : Program} {w : World} {A : Around} {E : Value → Shared → Prop} {s : Shared} {env : Env} {h₀ : Heap} {Q : Flow → Shared → Prop}
theorem ask_iter {target : PySem.Expr} {body : List Stmt} {m₀ : Str → Option Value} {r b q l : Addr} {n₀ : Int} {t0 u0 v0 tk0 : Tok} {nb0 : Nat} {news : List (Addr × Obj)}
    (hh : A.handled = none) (h0 : 1 ≤ n₀) (h1 : n₀ < 8) (F : Fr h₀ env.locals s.heap m₀) (N : News h₀ env.locals s.heap ((b, listOf #[.ref l, .int 6 tk0] nb0) :: (q, listOf #[] 0) :: news)) (hr : (r, ({ cls := .type "range", data := .fields #[.int 0 t0, .int n₀ u0, .int 1 v0] } : Obj)) ∈ news)
    (hb : ∀ p ∈ news, p.1 ≠ b) (hq : ∀ p ∈ news, p.1 ≠ q) (hbq : @Ne Nat b q) {tm0 : Tok} (htm : m₀ (Str.ofString "time") = some (.int 0 tm0))
    (turn : ∀ (i : Nat) u (m₁ : Str → Option Value) asks t tt k tk nb vs na T I oI s₁, (i : Int) < n₀ → asks.length = i → k = 6 + 3 * (i : Int) → AskOk asks t → 0 ≤ t → t ≤ 2000 → (∀ p ∈ news, p ∈ T) → (∀ p ∈ T, p.1 ≠ b) → (∀ p ∈ T, p.1 ≠ q) → (∀ p ∈ T, p.1 ≠ I) → @Ne Nat b I → @Ne Nat q I → DatAll T vs (asks.map askD) → vs.length = i →
      Fr h₀ env.locals s₁.heap (fun y => if y = Str.ofString "time" then some (.int t tt) else if ([Str.ofString "turn", Str.ofString "time", Str.ofString "side"]).contains y = true then m₁ y else m₀ y) → News h₀ env.locals s₁.heap ((I, oI) :: (b, listOf #[.ref l, .int k tk] nb) :: (q, listOf (List.toArray vs) na) :: T) →
      wpAny (model prog w) A (assign target env (.int (i : Nat) u)) (fun _ s₃ => wpAny (model prog w) A (execs body env) (LEnd h₀ env.locals I oI (AskJ b q l news m₀ (i + 1)) s₁) E s₃) E s₁)
    (done : ∀ (m₁ : Str → Option Value) asks t tt k tk nb vs na T h tk', 1 ≤ asks.length → asks.length < 8 → 0 ≤ k → k < 100 → AskOk asks t → (∀ p ∈ news, p ∈ T) → (∀ p ∈ T, p.1 ≠ b) → (∀ p ∈ T, p.1 ≠ q) → DatAll T vs (asks.map askD) →
      Fr h₀ env.locals h (fun y => if y = Str.ofString "time" then some (.int t tt) else if ([Str.ofString "turn", Str.ofString "time", Str.ofString "side"]).contains y = true then m₁ y else m₀ y) → News h₀ env.locals h ((b, listOf #[.ref l, .int k tk] nb) :: (q, listOf (List.toArray vs) na) :: T) → Q .next { s with heap := h, toks := tk' })
    (hg : ∀ I v, letOwnedTupleGo target I v = pure () := by intro _ _; rfl) :
    wpAny (model prog w) A (pyIter (.ref r)) (fun it s₂ => LoopAtT prog w A h₀ env target body Q E it s₂) E s := by
  refine loopR n₀.toNat (AskJ b q l news m₀) hh (List.mem_cons_of_mem _ (List.mem_cons_of_mem _ hr)) (by omega) (by omega) F N ⟨[], 0, tm0, 6, tk0, nb0, [], 0, news, rfl, hb, hq, fun p hp => hp, .nil, rfl, rfl, .nil, htm, fun _ _ => rfl⟩ ?_ ?_ hg
  · rintro i u m₁ nx I oI s₁ hi ⟨asks, t, tt, k, tk, nb, vs, na, T, rfl, a1, a2, hT, hA, hlen, hk, hok, ht, hm⟩ hI F₁ N₁
    obtain ⟨o1, o2, _⟩ := hok.bound
    have hv := hA.length
    rw [List.length_map] at hv
    exact turn i u m₁ asks t tt k tk nb vs na T I oI s₁ (by omega) hlen hk hok o1 (by omega) hT a1 a2 (fun p hp => hI p (List.mem_cons_of_mem _ (List.mem_cons_of_mem _ hp))) (hI _ List.mem_cons_self) (hI _ (List.mem_cons_of_mem _ List.mem_cons_self)) hA (by omega) (ask_frame F₁ ht hm) N₁
  · rintro m₁ nx h tk' ⟨asks, t, tt, k, tk, nb, vs, na, T, rfl, a1, a2, hT, hA, hlen, hk, hok, ht, hm⟩ F₁ N₁
    exact done m₁ asks t tt k tk nb vs na T h tk' (by omega) (by omega) (by omega) (by omega) hok hT a1 a2 hA (ask_frame F₁ ht hm) N₁
theorem ask_iter2 {target : PySem.Expr} {body : List Stmt} {m₀ : Str → Option Value} {r b q l : Addr} {n₀ k0 : Int} {t0 u0 v0 tk0 : Tok} {nb0 : Nat} {e1 e2 e3 e4 e5 : Addr × Obj} {rest : List (Addr × Obj)}
    (hh : A.handled = none) (h0 : 1 ≤ n₀) (h1 : n₀ < 8) (hk0 : k0 = 6) (F : Fr h₀ env.locals s.heap m₀)
    (N : News h₀ env.locals s.heap ((r, ({ cls := .type "range", data := .fields #[.int 0 t0, .int n₀ u0, .int 1 v0] } : Obj)) :: e1 :: e2 :: e3 :: e4 :: e5 :: (q, listOf #[] 0) :: (b, listOf #[.ref l, .int k0 tk0] nb0) :: rest))
    (hb : ∀ p ∈ (r, ({ cls := .type "range", data := .fields #[.int 0 t0, .int n₀ u0, .int 1 v0] } : Obj)) :: e1 :: e2 :: e3 :: e4 :: e5 :: rest, p.1 ≠ b) (hq : ∀ p ∈ (r, ({ cls := .type "range", data := .fields #[.int 0 t0, .int n₀ u0, .int 1 v0] } : Obj)) :: e1 :: e2 :: e3 :: e4 :: e5 :: rest, p.1 ≠ q) (hbq : @Ne Nat b q) {tm0 : Tok} (htm : m₀ (Str.ofString "time") = some (.int 0 tm0))
    (turn : ∀ (i : Nat) u (m₁ : Str → Option Value) asks t tt k tk nb vs na T I oI s₁, (i : Int) < n₀ → asks.length = i → k = 6 + 3 * (i : Int) → AskOk asks t → 0 ≤ t → t ≤ 2000 → (∀ p ∈ ((r, ({ cls := .type "range", data := .fields #[.int 0 t0, .int n₀ u0, .int 1 v0] } : Obj)) :: e1 :: e2 :: e3 :: e4 :: e5 :: rest), p ∈ T) → e1 ∈ T → e2 ∈ T → (∀ p ∈ rest, p ∈ T) → (∀ p ∈ T, p.1 ≠ b) → (∀ p ∈ T, p.1 ≠ q) → (∀ p ∈ T, p.1 ≠ I) → @Ne Nat b I → @Ne Nat q I → DatAll T vs (asks.map askD) → vs.length = i →
      Fr h₀ env.locals s₁.heap (fun y => if y = Str.ofString "time" then some (.int t tt) else if ([Str.ofString "turn", Str.ofString "time", Str.ofString "side"]).contains y = true then m₁ y else m₀ y) → News h₀ env.locals s₁.heap ((I, oI) :: (b, listOf #[.ref l, .int k tk] nb) :: (q, listOf (List.toArray vs) na) :: T) →
      wpAny (model prog w) A (assign target env (.int (i : Nat) u)) (fun _ s₃ => wpAny (model prog w) A (execs body env) (LEnd h₀ env.locals I oI (AskJ b q l ((r, ({ cls := .type "range", data := .fields #[.int 0 t0, .int n₀ u0, .int 1 v0] } : Obj)) :: e1 :: e2 :: e3 :: e4 :: e5 :: rest) m₀ (i + 1)) s₁) E s₃) E s₁)
    (done : ∀ (m₁ : Str → Option Value) asks t tt k tk nb vs na T h tk', 1 ≤ asks.length → asks.length < 8 → 0 ≤ k → k < 100 → AskOk asks t → (∀ p ∈ ((r, ({ cls := .type "range", data := .fields #[.int 0 t0, .int n₀ u0, .int 1 v0] } : Obj)) :: e1 :: e2 :: e3 :: e4 :: e5 :: rest), p ∈ T) → e1 ∈ T → e2 ∈ T → (∀ p ∈ rest, p ∈ T) → (∀ p ∈ T, p.1 ≠ b) → (∀ p ∈ T, p.1 ≠ q) → DatAll T vs (asks.map askD) →
      Fr h₀ env.locals h (fun y => if y = Str.ofString "time" then some (.int t tt) else if ([Str.ofString "turn", Str.ofString "time", Str.ofString "side"]).contains y = true then m₁ y else m₀ y) → News h₀ env.locals h ((b, listOf #[.ref l, .int k tk] nb) :: (q, listOf (List.toArray vs) na) :: T) → Q .next { s with heap := h, toks := tk' })
    (hg : ∀ I v, letOwnedTupleGo target I v = pure () := by intro _ _; rfl) :
    wpAny (model prog w) A (pyIter (.ref r)) (fun it s₂ => LoopAtT prog w A h₀ env target body Q E it s₂) E s := by
  subst hk0
  have up : ∀ T : List (Addr × Obj), (∀ p ∈ (r, ({ cls := .type "range", data := .fields #[.int 0 t0, .int n₀ u0, .int 1 v0] } : Obj)) :: e1 :: e2 :: e3 :: e4 :: e5 :: rest, p ∈ T) → e1 ∈ T ∧ e2 ∈ T ∧ ∀ p ∈ rest, p ∈ T := fun T h => by
    simp only [List.forall_mem_cons] at h
    exact ⟨h.2.1, h.2.2.1, h.2.2.2.2.2.2⟩
  refine ask_iter (tk0 := tk0) (nb0 := nb0) (news := (r, ({ cls := .type "range", data := .fields #[.int 0 t0, .int n₀ u0, .int 1 v0] } : Obj)) :: e1 :: e2 :: e3 :: e4 :: e5 :: rest) hh h0 h1 F (fun p hp => N p ?_) List.mem_cons_self hb hq hbq htm
    (fun i u m₁ asks t tt k tk nb vs na T I oI s₁ a1 a2 a3 a4 a5 a6 hT => turn i u m₁ asks t tt k tk nb vs na T I oI s₁ a1 a2 a3 a4 a5 a6 hT (up T hT).1 (up T hT).2.1 (up T hT).2.2)
    (fun m₁ asks t tt k tk nb vs na T h tk' a1 a2 a3 a4 a5 hT => done m₁ asks t tt k tk nb vs na T h tk' a1 a2 a3 a4 a5 hT (up T hT).1 (up T hT).2.1 (up T hT).2.2) hg
  simp only [List.mem_cons] at hp ⊢
  rcases hp with hp | hp | hp | hp | hp | hp | hp | hp | hp <;> simp [hp]
theorem ask_end {L I b q l D : Addr} {oI : Obj} {news T all : List (Addr × Obj)} {m₀ m' : Str → Option Value} {h' : Heap} {asks : List Ask} {i tk nb na nt : Nat} {k k' t g sd late : Int} {tkk tt x1 x2 x3 : Tok} {vs : List Value}
    (F : Fr h₀ L h' m') (N : News h₀ L h' all) (mb : (b, listOf #[.ref l, .int k' tkk] nb) ∈ all) (mq : (q, listOf (List.toArray (vs ++ [.ref D])) na) ∈ all) (mI : (I, oI) ∈ all) (mT : ∀ p ∈ T, p ∈ all)
    (mD : (D, ({ cls := .type "tuple", data := .seq #[.int (t + g) x1, .int sd x2, .int late x3] nt } : Obj)) ∈ all) (aD : @Ne Nat D b ∧ @Ne Nat D q ∧ @Ne Nat D I) (hlen : asks.length = i) (hk : k = 6 + 3 * (i : Int)) (hk' : k' = k + 1 + 1 + 1) (hok : AskOk asks t)
    (g0 : 0 ≤ g) (g1 : g < 200) (s0 : 0 ≤ sd) (s1 : sd < 2) (l0 : 0 ≤ late) (l1 : late < 30) (hT : ∀ p ∈ news, p ∈ T) (hTb : ∀ p ∈ T, p.1 ≠ b) (hTq : ∀ p ∈ T, p.1 ≠ q) (hTI : ∀ p ∈ T, p.1 ≠ I) (hbI : @Ne Nat b I) (hqI : @Ne Nat q I) (hA : DatAll T vs (asks.map askD))
    (htm : m' (Str.ofString "time") = some (.int (t + g) tt)) (hm : ∀ z, ([Str.ofString "turn", Str.ofString "time", Str.ofString "side"]).contains z = false → m' z = m₀ z) :
    LEnd h₀ L I oI (AskJ b q l news m₀ (i + 1)) s .next { s with heap := h', toks := tk } := by
  generalize ho : ({ cls := .type "tuple", data := .seq #[.int (t + g) x1, .int sd x2, .int late x3] nt } : Obj) = o at mD
  refine ⟨rfl, h', tk, m', (b, listOf #[.ref l, .int k' tkk] nb) :: (q, listOf (List.toArray (vs ++ [.ref D])) na) :: (D, o) :: T, rfl, F, fun p hp => ?_, fun p hp => ?_,
    ⟨asks ++ [(t + g, sd, late)], t + g, tt, k', tkk, nb, vs ++ [.ref D], na, (D, o) :: T, rfl, ?_, ?_, fun p hp => List.mem_cons_of_mem _ (hT p hp), ?_, ?_, ?_, .snoc g sd late hok g0 g1 (by omega) l0 l1, htm, hm⟩⟩
  · simp only [List.mem_cons] at hp
    rcases hp with rfl | rfl | rfl | rfl | hp
    · exact N _ mI
    · exact N _ mb
    · exact N _ mq
    · exact N _ mD
    · exact N _ (mT p hp)
  · simp only [List.mem_cons] at hp
    rcases hp with rfl | rfl | rfl | hp
    · exact hbI
    · exact hqI
    · exact aD.2.2
    · exact hTI p hp
  · exact List.forall_mem_cons.mpr ⟨aD.1, hTb⟩
  · exact List.forall_mem_cons.mpr ⟨aD.2.1, hTq⟩
  · rw [List.map_append]
    subst ho
    exact DatAll.append (hA.mono fun p hp => List.mem_cons_of_mem _ hp) (.one (.tuple (n := nt) List.mem_cons_self (.cons (.int _ _) (.cons (.int _ _) (.cons (.int _ _) .nil)))))
  · rw [List.length_append]; simp [hlen]
  · omega
end
end

section
def evs4 (way : Int) (a : Ask) : List Ev := [(a.1, a.2.1, Str.ofString "ask"), (a.1 + way, 1 - a.2.1, Str.ofString "came"), (a.1 + way + a.2.2, 1 - a.2.1, Str.ofString "answer"), (a.1 + 2 * way + a.2.2, a.2.1, Str.ofString "came")]
theorem evsOf_snoc (way : Int) (asks : List Ask) (a : Ask) : evsOf way (asks ++ [a]) = evsOf way asks ++ evs4 way a := by
  unfold evsOf rowsOf
  rw [List.foldl_append]
  show List.map evR (rowsF way (List.foldl (rowsF way) [] asks) a) = _
  unfold rowsF
  rw [List.map_append]
  rfl
def cmT (way x : Int) (a : Ask) : Int := if a.2.1 = x then a.1 + 2 * way + a.2.2 else a.1 + way

theorem ev_cases {way : Int} {asks : List Ask} {t : Int} (hk : AskOk asks t) (hw : 1 ≤ way ∧ way ≤ 50) {e : Ev} (he : e ∈ evsOf way asks) :
    ∃ a ∈ asks, a.1 ≤ e.1 ∧ e.1 ≤ a.1 + 129 ∧ (e.2.1 = 0 ∨ e.2.1 = 1) ∧ ((e.2.2 == Str.ofString "came") = true → e.1 = cmT way e.2.1 a) ∧ ((e.2.2 == Str.ofString "ask") = true → e.1 = a.1 ∧ e.2.1 = a.2.1) := by
  induction hk with
  | nil => cases he
  | snoc g sd late hk' g0 g1 hs l0 l1 ih =>
    rename_i l t
    rw [evsOf_snoc] at he
    rcases List.mem_append.mp he with he | he
    · obtain ⟨a, ha, r⟩ := ih he
      exact ⟨a, List.mem_append_left _ ha, r⟩
    · refine ⟨_, List.mem_append_right _ (List.mem_singleton.mpr rfl), ?_⟩
      simp only [evs4, List.mem_cons, List.not_mem_nil, or_false] at he
      have d1 : (Str.ofString "ask" == Str.ofString "came") = false := by decide +kernel
      have d2 : (Str.ofString "came" == Str.ofString "ask") = false := by decide +kernel
      have d3 : (Str.ofString "answer" == Str.ofString "came") = false := by decide +kernel
      have d4 : (Str.ofString "answer" == Str.ofString "ask") = false := by decide +kernel
      rcases he with rfl | rfl | rfl | rfl
      · refine ⟨by simp, by simp; omega, hs, fun h => ?_, fun _ => ⟨rfl, rfl⟩⟩
        rw [d1] at h; cases h
      · refine ⟨by simp; omega, by simp; omega, ?_, fun _ => ?_, fun h => ?_⟩
        · show 1 - sd = 0 ∨ 1 - sd = 1
          omega
        · show t + g + way = cmT way (1 - sd) (t + g, sd, late)
          unfold cmT
          rw [if_neg (by simp; omega)]
        · rw [d2] at h; cases h
      · refine ⟨by simp; omega, by simp; omega, ?_, fun h => ?_, fun h => ?_⟩
        · show 1 - sd = 0 ∨ 1 - sd = 1
          omega
        · rw [d3] at h; cases h
        · rw [d4] at h; cases h
      · refine ⟨by simp; omega, by simp; omega, hs, fun _ => ?_, fun h => ?_⟩
        · show t + g + 2 * way + late = cmT way sd (t + g, sd, late)
          unfold cmT
          rw [if_pos rfl]
        · rw [d2] at h; cases h

theorem came_mem {way x : Int} {asks : List Ask} {t : Int} (hk : AskOk asks t) (hx : x = 0 ∨ x = 1) {a : Ask} (ha : a ∈ asks) : (cmT way x a, x, Str.ofString "came") ∈ evsOf way asks := by
  induction hk with
  | nil => cases ha
  | snoc g sd late hk' g0 g1 hs l0 l1 ih =>
    rw [evsOf_snoc]
    rcases List.mem_append.mp ha with ha | ha
    · exact List.mem_append_left _ (ih ha)
    · refine List.mem_append_right _ ?_
      rw [List.mem_singleton.mp ha]
      unfold cmT
      by_cases h : sd = x
      · subst h; simp [evs4]
      · have e : x = 1 - sd := by omega
        rw [if_neg h, e]; simp [evs4]

theorem cm_bound {way x : Int} {a : Ask} (hw : 1 ≤ way ∧ way ≤ 50) (hl : 0 ≤ a.2.2 ∧ a.2.2 < 30) : a.1 + 1 ≤ cmT way x a ∧ cmT way x a ≤ a.1 + 129 := by
  unfold cmT; split <;> omega

/-- what the run knows of since, behind a sorted prefix -/
def Inv (x : Int) (pre : List Ev) : Prop :=
  (∀ e ∈ pre, e.2.1 = x → (e.2.2 == Str.ofString "came") = true → ∃ s, (runE x pre).1 = some s ∧ e.1 ≤ s) ∧ (∀ s, (runE x pre).1 = some s → ∃ e ∈ pre, e.1 = s ∧ e.2.1 = x ∧ ((e.2.2 == Str.ofString "came") = true ∨ (e.2.2 == Str.ofString "ask") = true))
theorem inv_of {x : Int} (pre : List Ev) (hs : pre.Pairwise (fun a b => a.1 ≤ b.1)) : Inv x pre := by
  have : ∀ (rev : List Ev), (rev.reverse).Pairwise (fun a b => a.1 ≤ b.1) → Inv x rev.reverse := by
    intro rev
    induction rev with
    | nil => intro _; exact ⟨fun e he => absurd he (by simp), fun s h => absurd h (by simp [runE])⟩
    | cons e r ih =>
      intro hp
      rw [List.reverse_cons] at hp ⊢
      obtain ⟨p1, _, p3⟩ := List.pairwise_append.mp hp
      have p3' : ∀ d ∈ r.reverse, d.1 ≤ e.1 := fun d hd => p3 d hd e (List.mem_singleton.mpr rfl)
      obtain ⟨i1, i2⟩ := ih p1
      have er : runE x (r.reverse ++ [e]) = tl1 x e (runE x r.reverse) := by unfold runE; rw [List.foldl_append]; rfl
      have stay : ∀ s, (runE x r.reverse).1 = some s → (runE x (r.reverse ++ [e])).1 = some s ∨ (runE x (r.reverse ++ [e])).1 = some e.1 := by
        intro s h
        rw [er]; unfold tl1
        split
        · split
          · exact .inr rfl
          · show (if _ then _ else _) = _ ∨ (if _ then _ else _) = _
            split
            · exact .inr rfl
            · exact .inl h
        · exact .inl h
      refine ⟨fun d hd hdx hdc => ?_, fun s h => ?_⟩
      · rcases List.mem_append.mp hd with hd | hd
        · obtain ⟨s, h1, h2⟩ := i1 d hd hdx hdc
          rcases stay s h1 with h | h
          · exact ⟨s, h, h2⟩
          · exact ⟨_, h, p3' d hd⟩
        · have := List.mem_singleton.mp hd
          subst this
          refine ⟨d.1, ?_, Int.le_refl _⟩
          rw [er]; unfold tl1
          rw [if_pos hdx, if_pos hdc]
      · rw [er] at h
        unfold tl1 at h
        have old : (runE x r.reverse).1 = some s → ∃ d ∈ r.reverse ++ [e], d.1 = s ∧ d.2.1 = x ∧ ((d.2.2 == Str.ofString "came") = true ∨ (d.2.2 == Str.ofString "ask") = true) := fun h => by
          obtain ⟨d, hd, r⟩ := i2 s h
          exact ⟨d, List.mem_append_left _ hd, r⟩
        split at h
        · rename_i hx
          split at h
          · rename_i hc
            exact ⟨e, List.mem_append_right _ (List.mem_singleton.mpr rfl), Option.some.inj h, hx, .inl hc⟩
          · dsimp only at h
            split at h
            · rename_i hb
              exact ⟨e, List.mem_append_right _ (List.mem_singleton.mpr rfl), Option.some.inj h, hx, .inr (by revert hb; cases (e.2.2 == Str.ofString "ask") <;> simp)⟩
            · exact old h
        · exact old h
  have := this pre.reverse (by rw [List.reverse_reverse]; exact hs)
  rwa [List.reverse_reverse] at this

theorem lemM {way x now t : Int} {asks : List Ask} (hk : AskOk asks t) (hw : 1 ≤ way ∧ way ≤ 50) (hgap : ∀ a ∈ asks, cmT way x a ≤ now - 400 ∨ now ≤ cmT way x a) :
    ((∀ a ∈ asks, cmT way x a ≤ now - 400) ∨ (∀ a ∈ asks, now ≤ cmT way x a)) ∧ (asks = [] ∨ ∃ a ∈ asks, a.1 = t) := by
  induction hk with
  | nil => exact ⟨.inl fun a ha => absurd ha (by simp), .inl rfl⟩
  | snoc g sd late hk' g0 g1 hs l0 l1 ih =>
    rename_i l t
    refine ⟨?_, .inr ⟨_, List.mem_append_right _ (List.mem_singleton.mpr rfl), rfl⟩⟩
    have hb := hgap _ (List.mem_append_right _ (List.mem_singleton.mpr rfl))
    have bb := cm_bound (way := way) (x := x) (a := (t + g, sd, late)) hw ⟨l0, l1⟩
    dsimp only at bb
    obtain ⟨h1, h2⟩ := ih fun a ha => hgap a (List.mem_append_left _ ha)
    rcases h2 with rfl | ⟨a, ha, hat⟩
    · rcases hb with hb | hb
      · exact .inl fun a ha => by rw [List.mem_singleton.mp ha]; exact hb
      · exact .inr fun a ha => by rw [List.mem_singleton.mp ha]; exact hb
    · obtain ⟨_, _, hbd⟩ := hk'.bound
      obtain ⟨_, _, _, c1, c2⟩ := hbd a ha
      have ba := cm_bound (way := way) (x := x) (a := a) hw ⟨c1, c2⟩
      rcases h1 with h1 | h1
      · have := h1 a ha
        refine .inl fun b hbm => ?_
        rcases List.mem_append.mp hbm with hbm | hbm
        · exact h1 b hbm
        · rw [List.mem_singleton.mp hbm]; omega
      · have := h1 a ha
        refine .inr fun b hbm => ?_
        rcases List.mem_append.mp hbm with hbm | hbm
        · exact h1 b hbm
        · rw [List.mem_singleton.mp hbm]; omega

theorem safe {way x t : Int} {asks : List Ask} {es : List Ev} {wv : Option Int} (hk : AskOk asks t) (hw : 1 ≤ way ∧ way ≤ 50) (hx : x = 0 ∨ x = 1) (hp : es.Perm (evsOf way asks)) (hs : es.Pairwise (fun a b => a.1 ≤ b.1)) (hwv : ∀ v, wv = some v → 400 ≤ v)
    (i : Nat) (hi : i < es.length) : overO (dlO wv (runE x (es.take i)).1) es[i].1 = false := by
  obtain ⟨i1, i2⟩ := inv_of (x := x) (es.take i) (hs.sublist (List.take_sublist _ _))
  cases wv with
  | none => rfl
  | some v =>
    have hv := hwv v rfl
    cases hsi : (runE x (es.take i)).1 with
    | none => rfl
    | some s =>
      show decide (s + v ≤ es[i].1) = false
      rw [decide_eq_false_iff_not]
      intro hle
      obtain ⟨aj, haj, j1, j2, _⟩ := ev_cases hk hw (hp.subset (List.getElem_mem hi))
      have before : ∀ e ∈ es, e.1 < es[i].1 → e ∈ es.take i := fun e he hlt => by
        rw [← List.take_append_drop i es] at he
        rcases List.mem_append.mp he with he | he
        · exact he
        · exfalso
          rw [List.drop_eq_getElem_cons hi] at he
          rcases List.mem_cons.mp he with rfl | he
          · omega
          · have hh := hs
            rw [← List.take_append_drop i es, List.drop_eq_getElem_cons hi] at hh
            have := (List.pairwise_cons.mp (List.pairwise_append.mp hh).2.1).1 e he
            omega
      have hgap : ∀ a ∈ asks, cmT way x a ≤ es[i].1 - 400 ∨ es[i].1 ≤ cmT way x a := fun a ha => by
        by_cases c1 : cmT way x a ≤ es[i].1 - 400
        · exact .inl c1
        · by_cases c2 : es[i].1 ≤ cmT way x a
          · exact .inr c2
          · exfalso
            obtain ⟨s', hs', hle'⟩ := i1 _ (before _ (hp.symm.subset (came_mem hk hx ha)) (by show cmT way x a < _; omega)) rfl (by show (Str.ofString "came" == Str.ofString "came") = true; decide +kernel)
            rw [hsi] at hs'
            have := Option.some.inj hs'
            dsimp only at hle'
            omega
      obtain ⟨_, _, hbd⟩ := hk.bound
      rcases (lemM hk hw hgap).1 with hall | hall
      · have := hall aj haj
        obtain ⟨_, _, _, c1, c2⟩ := hbd aj haj
        have := cm_bound (way := way) (x := x) (a := aj) hw ⟨c1, c2⟩
        omega
      · obtain ⟨e, he, e1, e2, e3⟩ := i2 s hsi
        obtain ⟨a, ha, k1, k2, _, kc, ka⟩ := ev_cases hk hw (hp.subset (List.mem_of_mem_take he))
        have hca := hall a ha
        obtain ⟨_, _, _, c1, c2⟩ := hbd a ha
        have := cm_bound (way := way) (x := x) (a := a) hw ⟨c1, c2⟩
        rcases e3 with e3 | e3
        · have := kc e3
          rw [e2] at this
          omega
        · have := ka e3
          omega

theorem since_end {way x t : Int} {asks : List Ask} {es : List Ev} (hk : AskOk asks t) (hne : 1 ≤ asks.length) (hw : 1 ≤ way ∧ way ≤ 50) (hx : x = 0 ∨ x = 1) (hp : es.Perm (evsOf way asks)) (hs : es.Pairwise (fun a b => a.1 ≤ b.1)) :
    ∃ s, (runE x es).1 = some s ∧ (∃ a ∈ asks, s = cmT way x a) ∧ ∀ a ∈ asks, cmT way x a ≤ s := by
  obtain ⟨i1, i2⟩ := inv_of (x := x) es hs
  obtain ⟨a0, ha0⟩ : ∃ a, a ∈ asks := by
    cases asks with
    | nil => simp at hne
    | cons a r => exact ⟨a, List.mem_cons_self⟩
  have all : ∀ a ∈ asks, ∃ s, (runE x es).1 = some s ∧ cmT way x a ≤ s := fun a ha => i1 _ (hp.symm.subset (came_mem hk hx ha)) rfl (by show (Str.ofString "came" == Str.ofString "came") = true; decide +kernel)
  obtain ⟨s, hs0, _⟩ := all a0 ha0
  have all' : ∀ a ∈ asks, cmT way x a ≤ s := fun a ha => by
    obtain ⟨s', h1, h2⟩ := all a ha
    rw [hs0] at h1
    have := Option.some.inj h1
    omega
  refine ⟨s, hs0, ?_, all'⟩
  obtain ⟨e, he, e1, e2, e3⟩ := i2 s hs0
  obtain ⟨a, ha, k1, k2, _, kc, ka⟩ := ev_cases hk hw (hp.subset he)
  rcases e3 with e3 | e3
  · exact ⟨a, ha, by rw [← e1, kc e3, e2]⟩
  · exfalso
    have h1 := all' a ha
    obtain ⟨_, _, hbd⟩ := hk.bound
    obtain ⟨_, _, _, c1, c2⟩ := hbd a ha
    have h2 := cm_bound (way := way) (x := x) (a := a) hw ⟨c1, c2⟩
    have h3 := ka e3
    omega

theorem apart {way t s0 s1 ml : Int} {asks : List Ask} (hk : AskOk asks t) (hw : 1 ≤ way ∧ way ≤ 50) (h0 : ∃ a ∈ asks, s0 = cmT way 0 a) (h0' : ∀ a ∈ asks, cmT way 0 a ≤ s0) (h1 : ∃ a ∈ asks, s1 = cmT way 1 a) (h1' : ∀ a ∈ asks, cmT way 1 a ≤ s1) (hm : ∀ a ∈ asks, a.2.2 ≤ ml) :
    s0 - s1 ≤ way + ml ∧ s1 - s0 ≤ way + ml := by
  obtain ⟨_, _, hbd⟩ := hk.bound
  obtain ⟨a, ha, rfl⟩ := h0
  obtain ⟨b, hb, rfl⟩ := h1
  obtain ⟨_, _, sa, c1, c2⟩ := hbd a ha
  obtain ⟨_, _, sb, d1, d2⟩ := hbd b hb
  have x1 := h1' a ha
  have x2 := h0' b hb
  have m1 := hm a ha
  have m2 := hm b hb
  unfold cmT at *
  constructor
  · rcases sa with e | e
    · rw [e] at x1 ⊢; simp at x1 ⊢; omega
    · rw [e] at x1 ⊢; simp at x1 ⊢; omega
  · rcases sb with e | e
    · rw [e] at x2 ⊢; simp at x2 ⊢; omega
    · rw [e] at x2 ⊢; simp at x2 ⊢; omega
end

section
def lastDef : List Stmt → Stmt
  | [] => .Pass ⟨0, 0, 0, 0⟩
  | [x] => x
  | _ :: r => lastDef r
def defBody : Stmt → List Stmt
  | .FunctionDef _ _ b _ _ _ _ _ _ _ => b
  | _ => []
def defScope : Stmt → Scope
  | .FunctionDef _ _ _ _ _ _ sc _ _ _ => sc
  | _ => { kind := .function, names := [], isGenerator := false, isCoroutine := false, more := [] }
def lawBody : List Stmt := defBody (lastDef PySem.Challenge.pw_sj0106_01.main.body)
def lawScope : Scope := defScope (lastDef PySem.Challenge.pw_sj0106_01.main.body)
def lawS (i : Nat) : Stmt := lawBody.getD i (.Pass ⟨0, 0, 0, 0⟩)
abbrev lawEnv (L fa : Addr) (cd : Addr) : Env := envOfC (Str.ofString "law") lawScope L fa (.ref cd)
abbrev lawA (L fa : Addr) (cd : Addr) : Around := callerA.deeper (lawEnv L fa cd)

example : lawBody.drop 5 = lawS 5 :: lawS 6 :: lawS 7 :: lawS 8 :: lawS 9 :: lawS 10 :: lawS 11 :: lawS 12 :: lawS 13 :: [] := by rfl

section
variable {prog : Program} {w : World} {A : Around} {E : Value → Shared → Prop} {s : Shared} {h₀ : Heap} {L : Addr} {m : Str → Option Value}
theorem away {h : Heap} {all : List (Addr × Obj)} {b : Addr} {ob : Obj} (N : News h₀ L h all) (hb : (b, ob) ∈ all) {a : Addr} {o : Obj} (ha : (a, o) ∈ all) (hne : o ≠ ob) : (a, o) ∈ all.filter (fun p => p.1 != b) := by
  refine List.mem_filter.mpr ⟨ha, ?_⟩
  show (a != b) = true
  rw [bne_iff_ne]
  rintro rfl
  exact hne (Option.some.inj ((N _ ha).1.symm.trans (N _ hb).1))
theorem filter_apart {all : List (Addr × Obj)} {b : Addr} : ∀ p ∈ all.filter (fun p => p.1 != b), p.1 ≠ b := fun _ hp => bne_iff_ne.mp (List.mem_filter.mp hp).2
theorem filter_sub {all : List (Addr × Obj)} {b : Addr} : ∀ p ∈ all.filter (fun p => p.1 != b), p ∈ all := fun _ hp => (List.mem_filter.mp hp).1

theorem frs_eq : ∀ (l : List (Str × Value)), (∀ p ∈ l, m p.1 = some p.2) → l.foldr (fun p g => fun y => if y = p.1 then some p.2 else g y) m = m
  | [], _ => rfl
  | (x, v) :: r, e => by
    rw [List.foldr_cons, frs_eq r fun p hp => e p (List.mem_cons_of_mem _ hp)]
    funext y
    by_cases hy : y = x
    · subst hy; simp; exact (e _ List.mem_cons_self).symm
    · simp [hy]
theorem frs {h : Heap} (F : Fr h₀ L h m) (l : List (Str × Value)) (e : ∀ p ∈ l, m p.1 = some p.2) : Fr h₀ L h (l.foldr (fun p g => fun y => if y = p.1 then some p.2 else g y) m) := by
  rw [frs_eq l e]; exact F
theorem frb {h : Heap} (l : List (Str × Value)) (e : ∀ p ∈ l, m p.1 = some p.2) (F : Fr h₀ L h (l.foldr (fun p g => fun y => if y = p.1 then some p.2 else g y) m)) : Fr h₀ L h m := by
  rw [frs_eq l e] at F; exact F

mutual
theorem DatIn.away {T T' : List (Addr × Obj)} (hs : ∀ a o, (a, o) ∈ T → (∃ vs n, o.data = .seq vs n) → (a, o) ∈ T') : ∀ {v : Value} {d : Dat}, DatIn T v d → DatIn T' v d
  | _, _, .none => .none
  | _, _, .bool b => .bool b
  | _, _, .int i t => .int i t
  | _, _, .str x t => .str x t
  | _, _, .bytes b t => .bytes b t
  | _, _, .tuple hm hd => .tuple (hs _ _ hm ⟨_, _, rfl⟩) (DatAll.away hs hd)
  | _, _, .list hm hd => .list (hs _ _ hm ⟨_, _, rfl⟩) (DatAll.away hs hd)
theorem DatAll.away {T T' : List (Addr × Obj)} (hs : ∀ a o, (a, o) ∈ T → (∃ vs n, o.data = .seq vs n) → (a, o) ∈ T') : ∀ {vs : List Value} {ds : List Dat}, DatAll T vs ds → DatAll T' vs ds
  | _, _, .nil => .nil
  | _, _, .cons h1 h2 => .cons (DatIn.away hs h1) (DatAll.away hs h2)
end
theorem optOff {T T' : List (Addr × Obj)} {v : Value} {x : Option Int} (h : DatIn T v (optDat x)) : DatIn T' v (optDat x) := by
  cases x with
  | none => cases h; exact .none
  | some i => cases h; exact .int _ _
/-- the ends' data stand without the box -/
theorem ends_off {h : Heap} {T all : List (Addr × Obj)} {b : Addr} {l : Addr} {kv : Value} {nb : Nat} (N : News h₀ L h all) (hT : ∀ p ∈ T, p ∈ all) (hb : (b, listOf #[.ref l, kv] nb) ∈ all) : ∀ {vs : List Value} {ds : List Dat}, DatAll T vs ds → (∀ d ∈ ds, ∃ x y, d = .list [optDat x, optDat y]) → DatAll (T.filter (fun p => p.1 != b)) vs ds
  | _, _, .nil, _ => .nil
  | _, _, .cons h1 h2, hd => by
    refine .cons ?_ (ends_off N hT hb h2 fun d hm => hd d (List.mem_cons_of_mem _ hm))
    obtain ⟨x, y, rfl⟩ := hd _ List.mem_cons_self
    cases h1 with
    | list hm hA =>
      rename_i a vs n
      refine .list (vs := vs) (n := n) (List.mem_filter.mpr ⟨hm, ?_⟩) ?_
      · show (a != b) = true
        rw [bne_iff_ne]
        rintro rfl
        have e : listOf vs.toArray n = listOf #[.ref l, kv] nb := Option.some.inj ((N _ (hT _ hm)).1.symm.trans (N _ hb).1)
        cases hA with
        | cons k1 k2 =>
          rename_i v vs
          have e2 : (List.toArray (v :: vs)) = #[.ref l, kv] := by
            have := congrArg Obj.data e
            simp only [W.listOf] at this
            injection this
          have e3 : v = .ref l := by
            have := congrArg Array.toList e2
            simp only [List.cons.injEq] at this
            exact this.1
          subst e3
          cases x with
          | none => cases k1
          | some i => cases k1
      · cases hA with
        | cons k1 k2 => cases k2 with
          | cons k2 k3 => cases k3; exact .cons (optOff k1) (.cons (optOff k2) .nil)
theorem st_cell {all nw : List (Addr × Obj)} {env : Env} {x : Str} {c : Addr} {o : Obj} {v₀ : Option Value} {v : Value} {Q : Unit → Shared → Prop} (F : Fr h₀ L s.heap m) (N : News h₀ L s.heap all) (hm : (c, o) ∈ all) (hd : o.data = .cell v₀) (hnw : ∀ p ∈ nw, p ∈ all ∧ p.1 ≠ c)
    (hk : env.scope.kind = .function) (hl : env.kindOf x = some .cell) (hc : env.cells.lookup x = some c)
    (h : ∀ h' o', Fr h₀ L h' m → News h₀ L h' ((c, o') :: nw) → o'.data = .cell (some v) → Q () { s with heap := h' }) :
    wpAny (model prog w) A (storeName env x v) Q E s := by
  have zc := N _ hm
  refine wpAny_storeName_cell hk hl hc ⟨o, zc.1, hd⟩ fun h' hv hs => ?_
  obtain ⟨o', ho', hd'⟩ := hv
  refine h h' o' (F.change hs zc.2.1 zc.2.2) (fun p hp => ?_) hd'
  rcases List.mem_cons.mp hp with rfl | hp
  · exact ⟨ho', zc.2⟩
  · exact ⟨hs.extBut _ _ (hnw p hp).2 (N p (hnw p hp).1).1, (N p (hnw p hp).1).2⟩
end
end

section
local macro_rules | `(tactic| walk_at "call ref") => `(tactic| (k_here; (with_reducible show wpAny _ _ (call (Value.ref 178) _ _) _ _ _); refine stopIt ?_))
local macro_rules | `(tactic| walk_at "storeName") => `(tactic| (k_here; (with_reducible show wpAny _ _ (storeName _ (Str.ofString "events") _) _ _ _); refine stopIt ?_))

theorem st5 {w : World} {mean : ExcName → Option Value} {mg mb : Str → Option Value} {h₀ : Heap} {L fa cd : Addr} {m : Str → Option Value} {s : Shared} {base : Heap} {Q : Flow → Shared → Prop} {E : Value → Shared → Prop} {q : Addr} {vs : List Value} {na : Nat} {asks : List Ask} {t way : Int} {tw : Tok} {all nw : List (Addr × Obj)} {oc : Obj} {v₀ : Option Value}
    (B : Below callerA base [] h₀) (X : (hd.heap_39 w.params).In h₀) (T : Top hd.view_39 (looseW hd.view_39 []) mean mg mb h₀) (F : Fr h₀ L s.heap m) (N : News h₀ L s.heap all) (m1 : m (Str.ofString "asks") = some (.ref q)) (m2 : m (Str.ofString "way") = some (.int way tw))
    (hc : (L + 1, oc) ∈ all) (hoc : oc.data = .cell v₀) (hnw : ∀ p ∈ nw, p ∈ all ∧ p.1 ≠ L + 1) (hq : (q, listOf vs.toArray na) ∈ nw) (hA : DatAll nw vs (asks.map askD)) (hak : AskOk asks t) (ha0 : 1 ≤ asks.length) (ha : asks.length < 8) (hw : 1 ≤ way ∧ way ≤ 50)
    (h : ∀ ev (es : List Ev) us c tl oc' h' tk, Fr h₀ L h' m → News h₀ L h' ((L + 1, oc') :: (ev, listOf (List.toArray us) c) :: (tl ++ nw)) → oc'.data = .cell (some (.ref ev)) → (∀ p ∈ nw, p.1 ≠ ev) → (∀ p ∈ tl, ∀ q ∈ nw, p.1 ≠ q.1) → (∀ p ∈ (ev, listOf (List.toArray us) c) :: (tl ++ nw), p.1 ≠ L + 1) →
      DatAll tl us (es.map evD) → es.Perm (evsOf way asks) → es.Pairwise (fun a b => a.1 ≤ b.1) → Q .next { s with heap := h', toks := tk }) :
    wpAny (model PySem.Challenge.rw_sj0106_01.row.prog w) (lawA L fa cd) (exec (lawS 5) (lawEnv L fa cd)) Q E s := by
  have hMk := kstMark
  show wpAny _ _ (exec (.Assign _ _ _) _) _ _ _
  have hns : ∀ p ∈ [(Str.ofString "asks", Value.ref q), (Str.ofString "way", .int way tw)], m p.1 = some p.2 := by simp only [List.forall_mem_cons]; exact ⟨m1, m2, fun _ hp => nomatch hp⟩
  have F1 := frs F _ hns
  clear F
  dsimp only [List.foldr] at F1
  k_steps
  (with_reducible show Stop _; unfold Stop)
  have hqa : (q, listOf vs.toArray na) ∈ all := (hnw _ hq).1
  obtain ⟨_, _, hbd⟩ := hak.bound
  k_dflt (refine' events_spec B F1 X T ?hk (news := (L + 1, oc) :: nw) (asks := asks) (way := way) (fun p hp => ?_) (List.mem_cons_of_mem _ hq) (hA.mono fun p hp => List.mem_cons_of_mem _ hp) ha0 ha (fun a ha => ?_) (by omega) (by omega) ?hdp ?hun ?_)
  case hk => exact rfl
  case hdp => decide
  case hun => decide
  · rcases List.mem_cons.mp hp with rfl | hp
    · exact N _ hc
    · exact N _ (hnw p hp).1
  · obtain ⟨b1, b2, b3, b4, b5⟩ := hbd a ha
    have := hak.bound
    exact ⟨b1, by omega, by omega, by omega, b4, by omega⟩
  · intro D es evs c tl h' tk F' N' n1 n2 n3 hD hp hs
    refine st_cell F' (nw := (D, listOf (List.toArray evs) c) :: (tl ++ nw)) N' (o := oc) (v₀ := v₀) (c := L + 1) ?_ hoc ?_ (by rfl) (by rfl) (by rfl) ?_
    · simp
    · intro p hp
      rcases List.mem_cons.mp hp with rfl | hp
      · exact ⟨List.mem_cons_self, Ne.symm (n1 _ List.mem_cons_self)⟩
      · rcases List.mem_append.mp hp with hp | hp
        · exact ⟨List.mem_cons_of_mem _ (List.mem_append_left _ hp), n3 p hp _ List.mem_cons_self⟩
        · exact ⟨List.mem_cons_of_mem _ (List.mem_append_right _ (List.mem_cons_of_mem _ hp)), (hnw p hp).2⟩
    · intro h2 o' F2 N2 ho'
      refine h D es evs c tl o' h2 _ (frb _ hns F2) N2 ho' (fun p hp => n1 p (List.mem_cons_of_mem _ hp)) (fun p hp q hq => n3 p hp q (List.mem_cons_of_mem _ hq)) (fun p hp => ?_) hD hp hs
      rcases List.mem_cons.mp hp with rfl | hp
      · exact Ne.symm (n1 _ List.mem_cons_self)
      · rcases List.mem_append.mp hp with hp | hp
        · exact n3 p hp _ List.mem_cons_self
        · exact (hnw p hp).2
end

section
local macro_rules | `(tactic| walk_at "call ref") => `(tactic| (k_here; (with_reducible show wpAny _ _ (call (Value.ref 183) _ _) _ _ _); refine stopIt ?_))

theorem st6 {w : World} {mean : ExcName → Option Value} {mg mb : Str → Option Value} {h₀ : Heap} {L fa cd : Addr} {m : Str → Option Value} {s : Shared} {base : Heap} {Q : Flow → Shared → Prop} {E : Value → Shared → Prop} {ev tt pp : Addr} {us : List Value} {nu ntt npp : Nat} {es : List Ev} {ta tb p0 p1 : Int} {tta ttb tp0 tp1 : Tok} {all : List (Addr × Obj)} {oc : Obj}
    (B : Below callerA base [] h₀) (X : (hd.heap_39 w.params).In h₀) (T : Top hd.view_39 (looseW hd.view_39 []) mean mg mb h₀) (F : Fr h₀ L s.heap m) (N : News h₀ L s.heap all) (m1 : m (Str.ofString "told") = some (.ref tt)) (m2 : m (Str.ofString "probes") = some (.ref pp))
    (hc : (L + 1, oc) ∈ all) (hoc : oc.data = .cell (some (.ref ev))) (hev : (ev, listOf us.toArray nu) ∈ all) (hD : DatAll all us (es.map evD)) (htt : (tt, ({ cls := .type "tuple", data := .seq #[.int ta tta, .int tb ttb] ntt } : Obj)) ∈ all) (hpp : (pp, ({ cls := .type "tuple", data := .seq #[.int p0 tp0, .int p1 tp1] npp } : Obj)) ∈ all)
    (hl : es.length < 64) (h1 : 0 ≤ p0 ∧ p0 < 10 ^ 6) (h2 : 0 ≤ p1 ∧ p1 < 10 ^ 6) (h3 : ta < 10 ^ 6) (h4 : tb < 10 ^ 6)
    (hes : ∀ e ∈ es, 0 ≤ e.1 ∧ e.1 < 10 ^ 6 ∧ (e.2.1 = 0 ∨ e.2.1 = 1))
    (hsafe : ∀ i (hi : i < es.length), overO (dlO (waitO ta tb p0) (runE 0 (es.take i)).1) es[i].1 = false ∧ overO (dlO (waitO tb ta p1) (runE 1 (es.take i)).1) es[i].1 = false)
    (h : ∀ D vs c T h' tk, Fr h₀ L h' (fun y => if y = Str.ofString "ends" then some (.ref D) else m y) → News h₀ L h' ((D, listOf (List.toArray vs) c) :: T) → (∀ p ∈ all, p ∈ T) → (∀ p ∈ T, p.1 ≠ D) → DatAll T vs ((List.range es.length).map fun k => endAt (waitO ta tb p0) (waitO tb ta p1) (es.take (k + 1))) → Q .next { s with heap := h', toks := tk }) :
    wpAny (model PySem.Challenge.rw_sj0106_01.row.prog w) (lawA L fa cd) (exec (lawS 6) (lawEnv L fa cd)) Q E s := by
  have hMk := kstMark
  show wpAny _ _ (exec (.Assign _ _ _) _) _ _ _
  have hns : ∀ p ∈ [(Str.ofString "told", Value.ref tt), (Str.ofString "probes", .ref pp)], m p.1 = some p.2 := by simp only [List.forall_mem_cons]; exact ⟨m1, m2, fun _ hp => nomatch hp⟩
  have F1 := frs F _ hns
  clear F
  dsimp only [List.foldr] at F1
  k_steps
  (with_reducible show Stop _; unfold Stop)
  k_dflt (refine' run_spec B F1 X T ?hk N hev hD htt hpp hl h1 h2 h3 h4 ?hb hes hsafe ?hdp ?hun ?_)
  case hk => exact rfl
  case hb => decide
  case hdp => decide
  case hun => decide
  intro D vs c T' h' tk F' N' hT hD' hA
  k_steps
  (rename News h₀ _ _ _ => kN; rename Fr h₀ _ _ _ => kF)
  have e2 : ∀ y, _ = m y := fun y => congrFun (frs_eq _ hns) y
  dsimp only [List.foldr] at e2
  simp only [e2] at kF
  exact h D vs c T' _ _ kF kN hT hD' hA
end

section
local macro_rules | `(tactic| walk_at "call ref") => `(tactic| (k_here; (with_reducible show wpAny _ _ (call (Value.ref 183) _ _) _ _ _); refine stopIt ?_))
local macro_rules | `(tactic| walk_at "call ref") => `(tactic| (k_here; (with_reducible show wpAny _ _ (call (Value.ref 173) _ _) _ _ _); refine stopIt ?_))
local macro_rules | `(tactic| walk_at "compareOp NotEq ref ref") => `(tactic| (k_here; refine stopIt ?_))

theorem endAt_ok (w0 w1 : Option Int) (es : List Ev) : kqdOk 8 (endAt w0 w1 es) = true := by
  unfold endAt
  cases dlO w0 (runE 0 es).1 <;> cases dlO w1 (runE 1 es).1 <;> rfl
theorem st7 {w : World} {mean : ExcName → Option Value} {mg mb : Str → Option Value} {h₀ : Heap} {L fa cd : Addr} {m : Str → Option Value} {s : Shared} {base : Heap} {Q : Flow → Shared → Prop} {E : Value → Shared → Prop} {b l ev tt pp en : Addr} {k : Int} {tk₀ : Tok} {nb nl nen : Nat} {ws ens us : List Value} {ns : List Int} {nu ntt npp : Nat} {es : List Ev} {ta tb p0 p1 : Int} {tta ttb tp0 tp1 : Tok} {rest : List (Addr × Obj)} {oc : Obj}
    (B : Below callerA base [] h₀) (X : (hd.heap_39 w.params).In h₀) (T : Top hd.view_39 (looseW hd.view_39 []) mean mg mb h₀) (F : Fr h₀ L s.heap m) (N : News h₀ L s.heap ((b, listOf #[.ref l, .int k tk₀] nb) :: rest)) (m1 : m (Str.ofString "told") = some (.ref tt)) (m2 : m (Str.ofString "probes") = some (.ref pp)) (m3 : m (Str.ofString "ends") = some (.ref en)) (m4 : m (Str.ofString "box") = some (.ref b))
    (hbr : ∀ p ∈ rest, p.1 ≠ b) (hl0 : (l, listOf ws.toArray nl) ∈ rest) (hi : IntsAre ws ns) (hk0 : 0 ≤ k) (hk1 : k < 1000) (hns' : ns.length < 1000)
    (hc : (L + 1, oc) ∈ rest) (hoc : oc.data = .cell (some (.ref ev))) (hev : (ev, listOf us.toArray nu) ∈ rest) (hD : DatAll rest us (es.map evD)) (htt : (tt, ({ cls := .type "tuple", data := .seq #[.int ta tta, .int tb ttb] ntt } : Obj)) ∈ rest) (hpp : (pp, ({ cls := .type "tuple", data := .seq #[.int p0 tp0, .int p1 tp1] npp } : Obj)) ∈ rest)
    (hen : (en, listOf ens.toArray nen) ∈ rest) (hE : DatAll rest ens ((List.range es.length).map fun k => endAt (waitO ta tb p0) (waitO tb ta p1) (es.take (k + 1))))
    (hl : es.length < 64) (h1 : 0 ≤ p0 ∧ p0 < 10 ^ 6) (h2 : 0 ≤ p1 ∧ p1 < 10 ^ 6) (h3 : ta < 10 ^ 6) (h4 : tb < 10 ^ 6)
    (hes : ∀ e ∈ es, 0 ≤ e.1 ∧ e.1 < 10 ^ 6 ∧ (e.2.1 = 0 ∨ e.2.1 = 1))
    (hsafe : ∀ i (hi : i < es.length), overO (dlO (waitO ta tb p0) (runE 0 (es.take i)).1) es[i].1 = false ∧ overO (dlO (waitO tb ta p1) (runE 1 (es.take i)).1) es[i].1 = false)
    (h : ∀ T h' tk, Fr h₀ L h' m → News h₀ L h' T → (∀ p ∈ rest, p ∈ T) → Q .next { s with heap := h', toks := tk }) :
    wpAny (model PySem.Challenge.rw_sj0106_01.row.prog w) (lawA L fa cd) (exec (lawS 7) (lawEnv L fa cd)) Q E s := by
  have hMk := kstMark
  show wpAny _ _ (exec (.If _ _ _ _) _) _ _ _
  have hns : ∀ p ∈ [(Str.ofString "told", Value.ref tt), (Str.ofString "probes", .ref pp), (Str.ofString "ends", .ref en), (Str.ofString "box", .ref b)], m p.1 = some p.2 := by simp only [List.forall_mem_cons]; exact ⟨m1, m2, m3, m4, fun _ hp => nomatch hp⟩
  have F1 := frs F _ hns
  clear F
  dsimp only [List.foldr] at F1
  k_steps
  (with_reducible show Stop _; unfold Stop)
  k_dflt (refine' drawn_spec (n := nb) (t := tk₀) B F1 X T ?hk N hl0 hi hbr hk0 hk1 hns' ?e1 ?e2 ?hdp ?hun ?_)
  case hk => exact rfl
  case e1 => decide
  case e2 => decide
  case hdp => decide
  case hun => decide
  intro r t' tr n' h' tk r0 r1 F2 N2
  clear F1 N
  k_steps
  (with_reducible show Stop _; unfold Stop)
  k_dflt (refine' run_spec B F2 X T ?hk N2 (List.mem_cons_of_mem _ hev) (hD.mono ?sub) (List.mem_cons_of_mem _ htt) (List.mem_cons_of_mem _ hpp) hl h1 h2 h3 h4 ?hb hes hsafe ?hdp ?hun ?_)
  case hk => exact rfl
  case sub => exact fun p hp => List.mem_cons_of_mem _ hp
  case hb => (have r2 : (10 : Int) ^ Int.toNat 9 = 1000000000 := by decide); omega
  case hdp => decide
  case hun => decide
  clear N2 F2
  intro D vs c T' h' tk F' N' hT hD' hA
  k_steps
  (with_reducible show Stop _; unfold Stop)
  refine kqd_ne N' (List.mem_cons_of_mem _ (hT _ (List.mem_cons_of_mem _ hen))) rfl rfl hE (fun p hp => List.mem_cons_of_mem _ (hT _ (List.mem_cons_of_mem _ hp))) List.mem_cons_self rfl rfl hA (fun p hp => List.mem_cons_of_mem _ hp) ?o1 ?o2 ?hu ?_
  case o1 => (intro d hd; obtain ⟨k, _, rfl⟩ := List.mem_map.mp hd; exact endAt_ok _ _ _)
  case o2 => (intro d hd; obtain ⟨k, _, rfl⟩ := List.mem_map.mp hd; exact endAt_ok _ _ _)
  case hu => ((try simp only [units_deeper, units_in1, units_caller]); (have hcL9 := cLine_is); omega)
  simp only [decide_true, Bool.not_true]
  k_steps
  have e2 : ∀ y, _ = m y := fun y => congrFun (frs_eq _ hns) y
  dsimp only [List.foldr] at e2
  (rename News h₀ _ _ _ => kN; rename Fr h₀ _ _ _ => kF)
  simp only [e2] at kF
  exact h _ _ _ kF kN (fun p hp => List.mem_cons_of_mem _ (hT _ (List.mem_cons_of_mem _ hp)))
end

section
local macro_rules | `(tactic| walk_at "call ref") => `(tactic| (k_here; (with_reducible show wpAny _ _ (call (Value.ref 26) _ _) _ _ _); refine stopIt ?_))

theorem st8 {w : World} {mean : ExcName → Option Value} {mg mb : Str → Option Value} {h₀ : Heap} {L fa cd : Addr} {m : Str → Option Value} {s : Shared} {base : Heap} {Q : Flow → Shared → Prop} {E : Value → Shared → Prop} {tt pp : Addr} {ntt npp : Nat} {ta tb p0 p1 : Int} {tta ttb tp0 tp1 : Tok} {all : List (Addr × Obj)}
    (B : Below callerA base [] h₀) (X : (hd.heap_39 w.params).In h₀) (T : Top hd.view_39 (looseW hd.view_39 []) mean mg mb h₀) (F : Fr h₀ L s.heap m) (N : News h₀ L s.heap all) (m1 : m (Str.ofString "told") = some (.ref tt)) (m2 : m (Str.ofString "probes") = some (.ref pp))
    (htt : (tt, ({ cls := .type "tuple", data := .seq #[.int ta tta, .int tb ttb] ntt } : Obj)) ∈ all) (hpp : (pp, ({ cls := .type "tuple", data := .seq #[.int p0 tp0, .int p1 tp1] npp } : Obj)) ∈ all)
    (h1 : 0 ≤ p0 ∧ p0 < 10 ^ 6) (h2 : 0 ≤ p1 ∧ p1 < 10 ^ 6) (h3 : ta < 10 ^ 6) (h4 : tb < 10 ^ 6)
    (h : ∀ W u0 u1 n h' tk, Fr h₀ L h' (fun y => if y = Str.ofString "waits" then some (.ref W) else m y) → News h₀ L h' ((W, listOf #[optV (waitO ta tb p0) u0, optV (waitO tb ta p1) u1] n) :: all) → (∀ p ∈ all, p.1 < W) → Q .next { s with heap := h', toks := tk }) :
    wpAny (model PySem.Challenge.rw_sj0106_01.row.prog w) (lawA L fa cd) (exec (lawS 8) (lawEnv L fa cd)) Q E s := by
  have hMk := kstMark
  show wpAny _ _ (exec (.Assign _ _ _) _) _ _ _
  have hns : ∀ p ∈ [(Str.ofString "told", Value.ref tt), (Str.ofString "probes", .ref pp)], m p.1 = some p.2 := by simp only [List.forall_mem_cons]; exact ⟨m1, m2, fun _ hp => nomatch hp⟩
  have F1 := frs F _ hns
  clear F
  dsimp only [List.foldr] at F1
  k_steps
  (with_reducible show Stop _; unfold Stop)
  k_dflt (refine' wait_spec B F1 X T ?hk N ?a1 ?a2 ?a3 ?a4 ?hdp ?hun ?_)
  case hk => exact rfl
  case a1 => omega
  case a2 => omega
  case a3 => omega
  case a4 => omega
  case hdp => decide
  case hun => decide
  intro t0 h' tk F2 N2
  clear F1 N
  k_steps
  (with_reducible show Stop _; unfold Stop)
  k_dflt (refine' wait_spec B F2 X T ?hk N2 ?a1 ?a2 ?a3 ?a4 ?hdp ?hun ?_)
  case hk => exact rfl
  case a1 => omega
  case a2 => omega
  case a3 => omega
  case a4 => omega
  case hdp => decide
  case hun => decide
  intro t1 h'' tk' F3 N3
  clear F2 N2
  k_steps
  have e2 : ∀ y, _ = m y := fun y => congrFun (frs_eq _ hns) y
  dsimp only [List.foldr] at e2
  (rename News h₀ _ _ _ => kN; rename Fr h₀ _ _ _ => kF)
  simp only [e2] at kF
  exact h _ _ _ _ _ _ kF kN (by assumption)
end

section
local macro_rules | `(tactic| walk_at "compareOp Eq ref ref") => `(tactic| (k_here; refine stopIt ?_))
local macro_rules | `(tactic| walk_at "eval ListComp") => `(tactic| (k_here; k_dflt (refine compE (by k_asm) (by with_unfolding_all rfl) (by decide) (by rfl) (by decide) ?_)))

theorem tup_eq {prog : Program} {w : World} {A : Around} {E : Value → Shared → Prop} {s : Shared} {h₀ : Heap} {L a b : Addr} {news : List (Addr × Obj)} {x y u v : Int} {t1 t2 t3 t4 : Tok} {n k : Nat} {Q : Value → Shared → Prop} (N : News h₀ L s.heap news)
    (ma : (a, ({ cls := .type "tuple", data := .seq #[.int x t1, .int y t2] n } : Obj)) ∈ news) (mb : (b, ({ cls := .type "tuple", data := .seq #[.int u t3, .int v t4] k } : Obj)) ∈ news) (hu : A.units + 64 < cLine)
    (h : Q (.bool (decide (x = u ∧ y = v))) s) : wpAny (model prog w) A (compareOp .Eq (.ref a) (.ref b)) Q E s := by
  refine eq_dataH (reads_tuple_at (N.get ma) rfl rfl (.cons (.int _ _) (.cons (.int _ _) .nil))) (reads_tuple_at (N.get mb) rfl rfl (.cons (.int _ _) (.cons (.int _ _) .nil))) ?_ ?_ hu ?_
  · rfl
  · rfl
  · have e : PyData.eqv (.tuple [.int x, .int y]) (.tuple [.int u, .int v]) = decide (x = u ∧ y = v) := by
      by_cases h1 : x = u <;> by_cases h2 : y = v <;> simp [PyData.eqv, PyData.eqvAll, h1, h2]
    rw [e]; exact h

theorem st9 {w : World} {mean : ExcName → Option Value} {mg mb : Str → Option Value} {h₀ : Heap} {L fa cd : Addr} {m : Str → Option Value} {s : Shared} {base : Heap} {Q : Flow → Shared → Prop} {E : Value → Shared → Prop} {ev tt en wa : Addr} {nen nwa : Nat} {ens us : List Value} {nu ntt : Nat} {es : List Ev} {ta tb p0 p1 : Int} {tta ttb u0 u1 : Tok} {all : List (Addr × Obj)} {oc : Obj}
    (B : Below callerA base [] h₀) (X : (hd.heap_39 w.params).In h₀) (T : Top hd.view_39 (looseW hd.view_39 []) mean mg mb h₀) (F : Fr h₀ L s.heap m) (N : News h₀ L s.heap all) (m1 : m (Str.ofString "told") = some (.ref tt)) (m2 : m (Str.ofString "waits") = some (.ref wa)) (m3 : m (Str.ofString "ends") = some (.ref en))
    (hc : (L + 1, oc) ∈ all) (hoc : oc.data = .cell (some (.ref ev))) (hev : (ev, listOf us.toArray nu) ∈ all) (hus : us.length = es.length) (htt : (tt, ({ cls := .type "tuple", data := .seq #[.int ta tta, .int tb ttb] ntt } : Obj)) ∈ all)
    (hwa : (wa, listOf #[optV (waitO ta tb p0) u0, optV (waitO tb ta p1) u1] nwa) ∈ all)
    (hen : (en, listOf ens.toArray nen) ∈ all) (hE : DatAll all ens ((List.range es.length).map fun k => endAt (waitO ta tb p0) (waitO tb ta p1) (es.take (k + 1))))
    (hl : es.length < 64)
    (hz : ta = 0 ∧ tb = 0 → ∀ m' h' tk, Fr h₀ L h' m' → Q (.ret (.bool true)) { s with heap := h', toks := tk })
    (h : ¬ (ta = 0 ∧ tb = 0) → ∀ h' tk, Fr h₀ L h' m → News h₀ L h' all → Q .next { s with heap := h', toks := tk }) :
    wpAny (model PySem.Challenge.rw_sj0106_01.row.prog w) (lawA L fa cd) (exec (lawS 9) (lawEnv L fa cd)) Q E s := by
  have hMk := kstMark
  show wpAny _ _ (exec (.If _ _ _ _) _) _ _ _
  have hns : ∀ p ∈ [(Str.ofString "told", Value.ref tt), (Str.ofString "waits", .ref wa), (Str.ofString "ends", .ref en)], m p.1 = some p.2 := by simp only [List.forall_mem_cons]; exact ⟨m1, m2, m3, fun _ hp => nomatch hp⟩
  have F1 := frs F _ hns
  clear F
  dsimp only [List.foldr] at F1
  k_steps
  (with_reducible show Stop _; unfold Stop)
  (rename News h₀ _ _ _ => N2)
  refine tup_eq N2 (List.mem_cons_of_mem _ htt) List.mem_cons_self ?hu ?_
  case hu => ((try simp only [units_deeper, units_caller]); (have hcL9 := cLine_is); omega)
  by_cases hzz : ta = 0 ∧ tb = 0
  · rw [decide_eq_true hzz]
    obtain ⟨rfl, rfl⟩ := hzz
    have hwv0 : waitO 0 0 p0 = none := rfl
    have hwv1 : waitO 0 0 p1 = none := rfl
    rw [hwv0, hwv1] at hwa hE
    simp only [optV] at hwa
    k_steps
    (with_reducible show Stop _; unfold Stop)
    (rename News h₀ _ _ _ => N3; rename Fr h₀ _ _ _ => F3)
    refine kqd_eq N3 (List.mem_cons_of_mem _ (List.mem_cons_of_mem _ hwa)) rfl rfl (n₁ := []) (ds := [.none, .none]) (.cons .none (.cons .none .nil)) (fun _ hp => nomatch hp) List.mem_cons_self rfl rfl (n₂ := []) (es := [.none, .none]) (.cons .none (.cons .none .nil)) (fun _ hp => nomatch hp) (by decide) (by decide) ?hu ?_
    case hu => ((try simp only [units_deeper, units_caller]); (have hcL9 := cLine_is); omega)
    simp only [decide_true]
    k_steps
    have Na : News h₀ L _ all := fun p hp => N3 p (List.mem_cons_of_mem _ (List.mem_cons_of_mem _ hp))
    clear N3
    refine ⟨ev, us, nu, false, all, fun i ys nw => ∃ Z, nw = Z ++ all ∧ DatAll Z ys (List.replicate i (.list [.none, .none])), rfl, rfl, F3, Na, hev, (by rw [sizeLine_eq]; omega), ⟨[], rfl, .nil⟩, ?_, ?_, ?_⟩
    · rintro i ys nw ⟨Z, rfl, _⟩
      exact List.mem_append_right _ hev
    · intro C I D9 nCI nCD nDI nCL hC₀ i v ys pv nw oI h4 tk4 E' hP hJ hPv F4 N4 off
      obtain ⟨Z, rfl, hA4⟩ := hJ
      obtain ⟨oC, m4, rfl, hn4⟩ := hPv
      refine cAssign1 (by rfl) (by rfl) F4 N4 hn4 nCI nCD (fun p hp => (off p hp).2.2) fun h6 oC6 m6 tk6 hn6 hx6 F6 N6 => ?_
      clear N4 F4 Na F3
      simp only [List.cons_append, List.nil_append] at N6
      refine wpAny_tests_nil ?_
      simp only [if_true]
      k_steps
      (rename News h₀ _ _ _ => N9; rename Fr h₀ _ _ _ => F9)
      rename_i t6 h8 l6
      obtain ⟨lI, lD, lC, _⟩ := l6
      refine CEnd.calm hn6 F9 (nw := (t6, listOf #[.none, .none] 0) :: (Z ++ all)) (fun p hp => N9 p ?_) (fun p hp => ?_) ⟨(t6, listOf #[.none, .none] 0) :: Z, rfl, ?_⟩
      · simp only [List.mem_cons] at hp ⊢
        rcases hp with hp | hp | hp | hp | hp
        · exact .inr (.inl hp)
        · exact .inr (.inr (.inl hp))
        · exact .inr (.inr (.inr (.inl hp)))
        · exact .inl hp
        · exact .inr (.inr (.inr (.inr hp)))
      · rcases List.mem_cons.mp hp with rfl | hp
        · exact ⟨Nat.ne_of_gt lI, Nat.ne_of_gt lD, fun hm => Nat.ne_of_gt lC (List.mem_singleton.mp hm)⟩
        · exact off p hp
      · rw [List.replicate_succ']
        exact DatAll.append (hA4.mono fun p hp => List.mem_cons_of_mem _ hp) (.one (.list (vs := [.none, .none]) (n := 0) List.mem_cons_self (.cons .none (.cons .none .nil))))
    · rintro ys nw ⟨Z, rfl, hA4⟩ D9 h9 tk9 F9 N9 o9
      clear Na F3
      k_steps
      (with_reducible show Stop _; unfold Stop)
      have ee : ((List.range es.length).map fun k => endAt none none (es.take (k + 1))) = List.replicate us.length (.list [.none, .none]) := by
        rw [hus]
        have e1 : (fun k => endAt none none (es.take (k + 1))) = fun _ => Dat.list [.none, .none] := by funext k; rfl
        rw [e1, List.map_const', List.length_range]
      rw [ee] at hE
      have ok : ∀ d ∈ List.replicate us.length (Dat.list [.none, .none]), kqdOk 8 d = true := fun d hd => by rw [(List.mem_replicate.mp hd).2]; rfl
      refine kqd_eq N9 (List.mem_cons_of_mem _ (List.mem_append_right _ hen)) rfl rfl hE (fun p hp => List.mem_cons_of_mem _ (List.mem_append_right _ hp)) List.mem_cons_self rfl rfl hA4 (fun p hp => List.mem_cons_of_mem _ (List.mem_append_left _ hp)) ok ok ?hu ?_
      case hu => ((try simp only [units_deeper, units_caller]); (have hcL9 := cLine_is); omega)
      simp only [decide_true]
      exact hz ⟨rfl, rfl⟩ _ _ _ F9
  · rw [decide_eq_false hzz]
    k_steps
    have e2 : ∀ y, _ = m y := fun y => congrFun (frs_eq _ hns) y
    dsimp only [List.foldr] at e2
    (rename News h₀ _ _ _ => kN; rename Fr h₀ _ _ _ => kF)
    simp only [e2] at kF
    exact h hzz _ _ kF (fun p hp => kN p (List.mem_cons_of_mem _ hp))
end

section
local macro_rules | `(tactic| walk_at "exec Assign cons ListComp") => `(tactic| (k_here; k_dflt (refine compAC (x := Str.ofString "side") (F₀ := by k_asm) (by rfl) (by with_unfolding_all rfl) (by with_unfolding_all rfl) (by intro _; rfl) (by intro _; rfl) (by rfl) (by decide) (by rfl) (by rfl) ?_)))
local macro_rules | `(tactic| walk_at "eval ListComp") => `(tactic| (k_here; k_dflt (refine compE (by k_asm) (by with_unfolding_all rfl) (by decide) (by rfl) (by decide) ?_)))
local macro_rules | `(tactic| walk_at "call builtin:max") => `(tactic| (k_here; refine stopIt ?_))
local macro_rules | `(tactic| walk_at "compareOp Eq str str") => `(tactic| refine eqLit _ (by with_reducible assumption) ?_)

def cameL (x : Int) (es : List Ev) : List Int := (es.filter fun e => decide (e.2.1 = x) && (e.2.2 == Str.ofString "came")).map (·.1)
def IsMax (s : Int) (l : List Int) : Prop := s ∈ l ∧ ∀ a ∈ l, a ≤ s
theorem IsMax.eq {s M : Int} {l : List Int} (h : IsMax s l) (h1 : M ∈ l) (h2 : ∀ a ∈ l, a ≤ M) : M = s := Int.le_antisymm (h.2 _ h1) (h2 _ h.1)

theorem st10 {w : World} {mean : ExcName → Option Value} {mg mb : Str → Option Value} {h₀ : Heap} {L fa cd : Addr} {m : Str → Option Value} {s : Shared} {base : Heap} {Q : Flow → Shared → Prop} {E : Value → Shared → Prop} {ev : Addr} {us : List Value} {nu : Nat} {es : List Ev} {s0 s1 : Int} {all : List (Addr × Obj)} {oc : Obj}
    (B : Below callerA base [] h₀) (X : (hd.heap_39 w.params).In h₀) (T : Top hd.view_39 (looseW hd.view_39 []) mean mg mb h₀) (F : Fr h₀ L s.heap m) (N : News h₀ L s.heap all)
    (hc : (L + 1, oc) ∈ all) (hoc : oc.data = .cell (some (.ref ev))) (hev : (ev, listOf us.toArray nu) ∈ all) (hD : DatAll all us (es.map evD)) (hl : es.length < 64) (hm0 : IsMax s0 (cameL 0 es)) (hm1 : IsMax s1 (cameL 1 es))
    (h : ∀ la t0 t1 n nw h' tk, Fr h₀ L h' (fun y => if y = Str.ofString "last" then some (.ref la) else m y) → News h₀ L h' ((la, listOf #[.int s0 t0, .int s1 t1] n) :: nw) → (∀ p ∈ all, p ∈ nw) → Q .next { s with heap := h', toks := tk }) :
    wpAny (model PySem.Challenge.rw_sj0106_01.row.prog w) (lawA L fa cd) (exec (lawS 10) (lawEnv L fa cd)) Q E s := by
  have hMk := kstMark
  show wpAny _ _ (exec (.Assign _ _ _) _) _ _ _
  k_steps
  (rename News h₀ _ _ _ => N2; rename Fr h₀ _ _ _ => F2)
  rename_i D0 hD0 lD0
  refine ⟨D0, [_, _], 0, true, _, fun i ys nw => (∀ p ∈ _, p ∈ nw) ∧ IntsAre ys ([s0, s1].take i), rfl, rfl, F2, N2, List.mem_cons_self, Nat.le_of_ble_eq_true rfl, ⟨fun p hp => hp, .nil⟩, ?_, ?_, ?_⟩
  · rintro i ys nw ⟨hs, _⟩
    exact hs _ List.mem_cons_self
  · intro C cc I D nCI nCD nDI nCL ncC ncI ncD ncL hC₀ hcc₀ i v ys pv nw oI h4 tk4 E' hP hJ hPv F4 N4 off
    obtain ⟨hsub, hys⟩ := hJ
    obtain ⟨oC, m4, occ, v4, rfl, hn4, hocc⟩ := hPv
    have hxx : ∃ x s' tx, v = .int x tx ∧ [s0, s1].take (i + 1) = [s0, s1].take i ++ [s'] ∧ IsMax s' (cameL x es) := by
      match i, hP with
      | 0, hP => exact ⟨0, s0, _, (Option.some.inj hP).symm, rfl, hm0⟩
      | 1, hP => exact ⟨1, s1, _, (Option.some.inj hP).symm, rfl, hm1⟩
    obtain ⟨x, s', tx, rfl, het, hmx⟩ := hxx
    refine cAssignC (by rfl) (by rfl) F4 N4 hn4 hocc ncI ncD ncC (fun p hp e => (off p hp).2.2 (by rw [e]; exact List.mem_cons_of_mem _ List.mem_cons_self)) fun h6 oc6 hd6 F6 N6 => ?_
    have hc6 := hsub _ (List.mem_cons_of_mem _ hc)
    have hev6 := hsub _ (List.mem_cons_of_mem _ hev)
    have hD6 : DatAll nw us (es.map evD) := hD.mono fun p hp => hsub p (List.mem_cons_of_mem _ hp)
    clear N4 F4 N2 F2 hocc
    simp only [List.cons_append, List.nil_append] at N6
    refine wpAny_tests_nil ?_
    simp only [if_true]
    k_steps
    refine ⟨ev, us, nu, false, _, fun j zs nx => nx = _ ∧ IntsAre zs (cameL x (es.take j)), rfl, rfl, F6, N6, List.mem_cons_of_mem _ (List.mem_cons_of_mem _ (List.mem_cons_of_mem _ (List.mem_cons_of_mem _ hev6))), ?_, ⟨rfl, .nil⟩, ?_, ?_, ?_⟩
    · have hlen : us.length = es.length := by have := hD.length; simpa using this
      rw [sizeLine_eq]; omega
    · rintro j zs nx ⟨rfl, _⟩
      exact List.mem_cons_of_mem _ (List.mem_cons_of_mem _ (List.mem_cons_of_mem _ (List.mem_cons_of_mem _ hev6)))
    · intro C2 I2 D2 mCI mCD mDI mCL hC2 j ve zs pv2 nx oI2 h7 tk7 E2 hP2 hJ2 hPv2 F7 N7 off2
      obtain ⟨rfl, hzs⟩ := hJ2
      obtain ⟨oC2, m7, rfl, hn7⟩ := hPv2
      have hlen : us.length = es.length := by have := hD.length; simpa using this
      have hj : j < es.length := by rw [← hlen]; exact (List.getElem?_eq_some_iff.mp hP2).1
      obtain ⟨v', hv', hDv⟩ := hD6.get (k := j) (by simpa using hj)
      rw [hP2] at hv'
      cases hv'
      have e : (es.map evD)[j]'(by simpa using hj) = evD es[j] := by simp
      rw [e] at hDv
      obtain ⟨te, nt, t1, t2, t3, rfl, hm⟩ := ev_open hDv
      have hcm : cameL x (es.take (j + 1)) = cameL x (es.take j) ++ (if (decide (es[j].2.1 = x) && (es[j].2.2 == Str.ofString "came")) = true then [es[j].1] else []) := by
        unfold cameL
        rw [List.take_add_one, List.getElem?_eq_getElem hj, List.filter_append, List.map_append]
        congr 1
        show List.map _ (List.filter _ [es[j]]) = _
        simp only [List.filter_cons, List.filter_nil]
        split <;> rfl
      generalize hek : es[j] = ek at hm hcm
      obtain ⟨ti, sd, so⟩ := ek
      dsimp only at hm hcm
      refine cAssignT (xs := [(Str.ofString "when", _), (Str.ofString "at", _), (Str.ofString "sort", _)]) (by rfl) (by rfl) (by rfl) (by decide +kernel) (by decide +kernel) F7 N7 hn7 mCI mCD (fun p hp => (off2 p hp).2.2) (List.mem_cons_of_mem _ (List.mem_cons_of_mem _ (List.mem_cons_of_mem _ (List.mem_cons_of_mem _ hm)))) ?_
      rintro h8 oC8 m8 tk8 hn8 ⟨x1, x2, x3, _⟩ F8 N8
      clear F7 N7 hn7 F6 N6
      simp only [List.cons_append, List.nil_append] at N8
      refine wpAny_tests_one ?_
      cases hso : (so == Str.ofString "came")
      all_goals by_cases hsx : sd = x
      all_goals k_steps
      all_goals (refine CEnd.calm hn8 F8 N8 off2 ⟨rfl, ?_⟩; rw [hcm]; simp only [hso, hsx, decide_true, decide_false, Bool.and_true, Bool.true_and, Bool.and_false, Bool.false_and, if_true, Bool.false_eq_true, if_false, List.append_nil])
      all_goals first | exact hzs | exact IntsAre.append hzs (.cons _ _ .nil) | (exfalso; omega)
    · rintro zs nx ⟨rfl, hzs⟩ D9 h9 tk9 F9 N9 o9
      clear F6 N6
      k_steps
      (with_reducible show Stop _; unfold Stop)
      have hlen : us.length = es.length := by have := hD.length; simpa using this
      rw [hlen, List.take_length] at hzs
      refine max_list_N (by rfl) F9 N9 ⟨_, (N9 _ List.mem_cons_self).1, rfl, _, rfl⟩ hzs ?_ ?_
      · have := hmx.1
        cases hq : cameL x es with
        | nil => rw [hq] at this; cases this
        | cons _ _ => simp
      · intro h5 M t5 tk5 F5 N5 hM1 hM2
        have hMe := hmx.eq hM1 hM2
        subst hMe
        clear F9 N9
        k_steps
        refine CEnd.calmC hn4 hd6 F5 (fun p hp => N5 p (List.mem_cons_of_mem _ hp)) off ⟨hsub, ?_⟩
        rw [het]
        exact IntsAre.append hys (.cons _ _ .nil)
  · rintro ys nw ⟨hsub, hys⟩ D9 h9 tk9 F9 N9 o9
    clear F2 N2
    have hys2 : IntsAre ys [s0, s1] := hys
    cases hys2 with
    | cons n t hr => cases hr with
      | cons n t' hr =>
        cases hr
        exact h D9 _ _ _ nw _ _ F9 N9 fun p hp => hsub p (List.mem_cons_of_mem _ hp)
end

section
local macro_rules | `(tactic| walk_at "eval ListComp") => `(tactic| (k_here; k_dflt (refine compE (by k_asm) (by with_unfolding_all rfl) (by decide) (by rfl) (by decide) ?_)))
local macro_rules | `(tactic| walk_at "call builtin:min") => `(tactic| (k_here; refine stopIt ?_))
local macro_rules | `(tactic| walk_at "compareOp NotEq int int") => `(tactic| (k_here; refine stopIt ?_))
local macro_rules | `(tactic| walk_at "call ref") => `(tactic| (k_here; (with_reducible show wpAny _ _ (call (Value.ref 68) _ _) _ _ _); refine stopIt ?_))
local macro_rules | `(tactic| walk_at "call ref") => `(tactic| (k_here; (with_reducible show wpAny _ _ (call (Value.ref 190) _ _) _ _ _); refine stopIt ?_))
local macro_rules | `(tactic| walk_at "call ref") => `(tactic| (k_here; (with_reducible show wpAny _ _ (call (Value.ref 54) _ _) _ _ _); k_dflt (refine' received_spec ?kB ?kF ?kX ?kT ?kK ?kN ?kx ?kd ?k4 ?k5 ?_; (case kB => k_asm); (case kF => k_asm); (case kX => k_asm); (case kT => k_asm); (case kK => exact rfl); (case kN => k_asm); (case kx => k_mem); (case kd => k_upd); (case k4 => ((try simp only [depth_deeper, depth_in1, depth_under_make, depth_under_kw, depth_caller]); (try dsimp only [ktrTop]); (first | omega | decide))); (case k5 => ((try simp only [units_deeper, units_in1, units_caller]); (try dsimp only [ktrTop]); (first | omega | decide)));  k_whole); intro h' tk' F' N'))
local macro_rules | `(tactic| walk_at "subscriptTail") => `(tactic| (k_here; (with_reducible show wpAny _ _ (subscriptTail _ _ (Value.ref _) (Value.int (-1) _)) _ _ _); refine stopIt ?_))
local macro_rules | `(tactic| walk_at "subscriptTail") => `(tactic| (k_here; (with_reducible show wpAny _ _ (subscriptTail _ _ (Value.ref _) (Value.int _ _)) _ _ _); k_dflt (refine' my_item ?F ?N ?m ?a ?b ?c ?d ?_; (case F => k_asm); (case N => k_asm); (case m => k_mem); (case a => decide); (case b => decide); (case c => rfl); (case d => rfl); k_whole)))

theorem item_last {prog : Program} {w : World} {A : Around} {E : Value → Shared → Prop} {s : Shared} {h₀ : Heap} {L : Addr} {news : List (Addr × Obj)} {value slice : Expr} {l : Addr} {vs : List Value} {n : Nat} {u : Tok} {x : Value} {Q : Value → Shared → Prop} (N : News h₀ L s.heap news) (hm : (l, listOf (List.toArray (vs ++ [x])) n) ∈ news)
    (h : Q x s) (hs : subscripted slice false (.ref l) (.int (-1) u) = operate [.ref l, .int (-1) u] (getItem (.ref l) (.int (-1) u)) := by with_unfolding_all rfl) :
    wpAny (model prog w) A (subscriptTail value slice (.ref l) (.int (-1) u)) Q E s := by
  have hl : s.heap.IsList l (vs ++ [x]).toArray := ⟨_, (N _ hm).1, rfl, n, rfl⟩
  refine PyProof.Rows.tail_any hl.typeIs slot_list_getitem.lookup (wpAny_getItem_list_neg hl (by decide) (by simp; omega) (by decide) ?_ h) hs
  have e : ((-1 : Int) + ((vs ++ [x]).toArray.size : Int)).toNat = vs.length := by simp; omega
  rw [e]; simp
def forBody : Stmt → List Stmt
  | .For _ _ b _ _ => b
  | _ => []

theorem turn0 {w : World} {mean : ExcName → Option Value} {mg mb : Str → Option Value} {h₀ : Heap} {L fa cd : Addr} {m : Str → Option Value} {s : Shared} {base : Heap} {Q : Flow → Shared → Prop} {E : Value → Shared → Prop} {tt pp wa en la le : Addr} {ntt npp nwa nen nla nle : Nat} {ini : List Value} {ta tb p0 p1 w0 w1 s0 s1 e0 e1 : Int} {tx tta ttb tp0 tp1 u0 u1 tl0 tl1 te0 te1 : Tok} {all : List (Addr × Obj)}
    (B : Below callerA base [] h₀) (X : (hd.heap_39 w.params).In h₀) (T : Top hd.view_39 (looseW hd.view_39 []) mean mg mb h₀) (F : Fr h₀ L s.heap m) (N : News h₀ L s.heap all) (m1 : m (Str.ofString "told") = some (.ref tt)) (m2 : m (Str.ofString "probes") = some (.ref pp)) (m3 : m (Str.ofString "waits") = some (.ref wa)) (m4 : m (Str.ofString "ends") = some (.ref en)) (m5 : m (Str.ofString "last") = some (.ref la)) (m6 : m (Str.ofString "side") = some (.int 0 tx))
    (htt : (tt, ({ cls := .type "tuple", data := .seq #[.int ta tta, .int tb ttb] ntt } : Obj)) ∈ all) (hpp : (pp, ({ cls := .type "tuple", data := .seq #[.int p0 tp0, .int p1 tp1] npp } : Obj)) ∈ all)
    (hwa : (wa, listOf #[.int w0 u0, .int w1 u1] nwa) ∈ all) (hla : (la, listOf #[.int s0 tl0, .int s1 tl1] nla) ∈ all) (hen : (en, listOf (List.toArray (ini ++ [.ref le])) nen) ∈ all) (hle : (le, listOf #[.int e0 te0, .int e1 te1] nle) ∈ all)
    (h1 : 0 ≤ p0 ∧ p0 < 10 ^ 6) (h2 : 0 ≤ p1 ∧ p1 < 10 ^ 6) (h3 : 0 ≤ ta ∧ ta < 10 ^ 6) (h4 : 0 ≤ tb ∧ tb < 10 ^ 6) (hnz : ¬ (ta = 0 ∧ tb = 0)) (hs : 0 ≤ s0 ∧ s0 < 10 ^ 6)
    (hw : waitO ta tb p0 = some w0) (he : e0 = s0 + w0)
    (h : ∀ av h' tk, Fr h₀ L h' (fun y => if y = Str.ofString "alone" then some av else m y) → News h₀ L h' all → Q .next { s with heap := h', toks := tk }) :
    wpAny (model PySem.Challenge.rw_sj0106_01.row.prog w) (lawA L fa cd) (execs (forBody (lawS 11)) (lawEnv L fa cd)) Q E s := by
  have hMk := kstMark
  show wpAny _ _ (execs (_ :: _ :: _ :: _ :: _ :: []) _) _ _ _
  have hns : ∀ p ∈ [(Str.ofString "told", Value.ref tt), (Str.ofString "probes", .ref pp), (Str.ofString "waits", .ref wa), (Str.ofString "ends", .ref en), (Str.ofString "last", .ref la), (Str.ofString "side", .int 0 tx)], m p.1 = some p.2 := by simp only [List.forall_mem_cons]; exact ⟨m1, m2, m3, m4, m5, m6, fun _ hp => nomatch hp⟩
  have F1 := frs F _ hns
  clear F
  dsimp only [List.foldr] at F1
  k_steps
  (rename News h₀ _ _ _ => N2; rename Fr h₀ _ _ _ => F2)
  refine ⟨tt, [.int ta tta, .int tb ttb], ntt, true, _, fun i ys nw => nw = _ ∧ IntsAre ys (([ta, tb].take i).filter fun z => decide (0 < z)), rfl, rfl, F2, N2, ?_, Nat.le_of_ble_eq_true rfl, ⟨rfl, .nil⟩, ?_, ?_, ?_⟩
  · repeat (first | exact htt | refine List.mem_cons_of_mem _ ?_)
  · (rintro i ys nw ⟨rfl, _⟩; repeat (first | exact htt | refine List.mem_cons_of_mem _ ?_))
  · intro C I D nCI nCD nDI nCL hC₀ i v ys pv nw oI h6 tk1 E' hP hJ hPv F6 N6 off
    obtain ⟨rfl, hys⟩ := hJ
    obtain ⟨oC, m', rfl, hn⟩ := hPv
    obtain ⟨n, tn, rfl, het⟩ : ∃ n tn, v = .int n tn ∧ ([ta, tb].take (i + 1)).filter (fun z => decide (0 < z)) = ([ta, tb].take i).filter (fun z => decide (0 < z)) ++ (if decide (0 < n) = true then [n] else []) := by
      match i, hP with
      | 0, hP => refine ⟨_, _, (Option.some.inj hP).symm, ?_⟩; simp only [List.take_succ_cons, List.take_zero, List.filter_cons, List.filter_nil, List.nil_append]
      | 1, hP => refine ⟨_, _, (Option.some.inj hP).symm, ?_⟩; simp only [List.take_succ_cons, List.take_zero, List.filter_cons, List.filter_nil]; split <;> split <;> rfl
    refine cAssign1 (by rfl) (by rfl) F6 N6 hn nCI nCD (fun p hp => (off p hp).2.2) fun h7 oC7 m7 tk7 hn7 hx7 F7 N7 => ?_
    clear hn N6 F6 N2 F2
    simp only [List.cons_append, List.nil_append] at N7
    refine wpAny_tests_one ?_
    by_cases hpos : 0 < n
    all_goals k_steps
    all_goals (refine CEnd.calm hn7 F7 N7 off ⟨rfl, ?_⟩; rw [het])
    all_goals first
      | (rw [decide_eq_true hpos, if_pos rfl]; exact IntsAre.append hys (.cons _ _ .nil))
      | (rw [decide_eq_false hpos, if_neg (by decide), List.append_nil]; exact hys)
      | (exfalso; omega)
  · rintro ys nw ⟨rfl, hys⟩ D h8 tk8 F8 N8 oD
    clear N2 F2
    k_steps
    (with_reducible show Stop _; unfold Stop)
    have hys2 : IntsAre ys (([ta, tb]).filter fun z => decide (0 < z)) := hys
    refine min_list_N (by rfl) F8 N8 ⟨_, (N8 _ List.mem_cons_self).1, rfl, _, rfl⟩ hys2 ?_ ?_
    · rw [List.length_pos_iff_exists_mem]
      by_cases h5 : 0 < ta
      · exact ⟨ta, List.mem_filter.mpr ⟨by simp, decide_eq_true h5⟩⟩
      · exact ⟨tb, List.mem_filter.mpr ⟨by simp, decide_eq_true (by omega)⟩⟩
    · intro h9 M tM tk9 F9 N9 hM1 hM2
      clear F8 N8
      have hMx : (if 3 * p0 > M then 3 * p0 else M) = w0 := by
        have hM3 := List.mem_filter.mp hM1
        have hM4 : 0 < ta → M ≤ ta := fun h => hM2 _ (List.mem_filter.mpr ⟨by simp, decide_eq_true h⟩)
        have hM5 : 0 < tb → M ≤ tb := fun h => hM2 _ (List.mem_filter.mpr ⟨by simp, decide_eq_true h⟩)
        have hM6 : M = ta ∨ M = tb := by simpa using hM3.1
        have hM7 : 0 < M := of_decide_eq_true hM3.2
        have hw' := hw
        unfold waitO at hw'
        split at hw' <;> split at hw' <;> first | (have := Option.some.inj hw'; split <;> omega) | cases hw'
      have hMb : 0 ≤ M ∧ M < 10 ^ 6 := by
        have hM3 := List.mem_filter.mp hM1
        have hM6 : M = ta ∨ M = tb := by simpa using hM3.1
        omega
      clear hM1 hM2 hys hys2
      k_steps
      (with_reducible show Stop _; unfold Stop)
      rw [hMx]
      refine PyProof.Rows.ne_int ?_
      simp only [bne_self_eq_false]
      clear hMx
      k_steps
      (with_reducible show Stop _; unfold Stop)
      (rename News h₀ _ _ _ => N10)
      refine item_last N10 (x := .ref le) (vs := ini) (n := nen) (by repeat (first | exact hen | refine List.mem_cons_of_mem _ ?_)) ?_
      k_steps
      (with_reducible show Stop _; unfold Stop)
      rw [← he]
      refine PyProof.Rows.ne_int ?_
      simp only [bne_self_eq_false]
      k_steps
      (with_reducible show Stop _; unfold Stop)
      k_dflt (refine' deadline_spec (si := some s0) B ?F X T ?hk N10 (List.mem_cons_of_mem _ List.mem_cons_self) (List.mem_cons_of_mem _ (List.mem_cons_of_mem _ List.mem_cons_self)) ?a1 ?a2 ?a3 ?a4 ?hdp ?hun ?_)
      case F => k_asm
      case hk => exact rfl
      case a1 => omega
      case a2 => omega
      case a3 => omega
      case a4 => omega
      case hdp => decide
      case hun => decide
      intro tr h10 tk10 F12 N12
      have hdl : dlO (waitO ta tb p0) (some s0) = some e0 := by rw [hw]; simp only [dlO]; rw [he]
      rw [hdl]
      simp only [optV]
      k_steps
      (with_reducible show Stop _; unfold Stop)
      refine item_last N12 (x := .ref le) (vs := ini) (n := nen) (by repeat (first | exact hen | refine List.mem_cons_of_mem _ ?_)) ?_
      k_steps
      (with_reducible show Stop _; unfold Stop)
      refine PyProof.Rows.ne_int ?_
      simp only [bne_self_eq_false]
      k_steps
      (with_reducible show Stop _; unfold Stop)
      refine item_last N12 (x := .ref le) (vs := ini) (n := nen) (by repeat (first | exact hen | refine List.mem_cons_of_mem _ ?_)) ?_
      k_steps
      (with_reducible show Stop _; unfold Stop)
      have hwb : 0 ≤ w0 ∧ w0 < 10 ^ 8 := by
        have hw' := hw
        unfold waitO at hw'
        split at hw' <;> split at hw' <;> first | (have := Option.some.inj hw'; omega) | cases hw'
      k_dflt (refine' closes_spec (si := some s0) B ?F X T ?hk N12 (List.mem_cons_of_mem _ List.mem_cons_self) (List.mem_cons_of_mem _ (List.mem_cons_of_mem _ List.mem_cons_self)) ?a1 ?a2 ?a3 ?a4 hdl ?b1 ?b2 ?hdp ?hun ?_)
      case F => k_asm
      case hk => exact rfl
      case a1 => omega
      case a2 => omega
      case a3 => omega
      case a4 => omega
      case b1 => omega
      case b2 => omega
      case hdp => decide
      case hun => decide
      intro h11 tk11 F13 N13
      k_steps
      have e2 : ∀ y, _ = m y := fun y => congrFun (frs_eq _ hns) y
      dsimp only [List.foldr] at e2
      simp only [e2] at F13
      exact h _ _ _ F13 (fun p hp => N13 p (List.mem_cons_of_mem _ (List.mem_cons_of_mem _ (List.mem_cons_of_mem _ hp))))

theorem turn1 {w : World} {mean : ExcName → Option Value} {mg mb : Str → Option Value} {h₀ : Heap} {L fa cd : Addr} {m : Str → Option Value} {s : Shared} {base : Heap} {Q : Flow → Shared → Prop} {E : Value → Shared → Prop} {tt pp wa en la le : Addr} {ntt npp nwa nen nla nle : Nat} {ini : List Value} {ta tb p0 p1 w0 w1 s0 s1 e0 e1 : Int} {tx tta ttb tp0 tp1 u0 u1 tl0 tl1 te0 te1 : Tok} {all : List (Addr × Obj)}
    (B : Below callerA base [] h₀) (X : (hd.heap_39 w.params).In h₀) (T : Top hd.view_39 (looseW hd.view_39 []) mean mg mb h₀) (F : Fr h₀ L s.heap m) (N : News h₀ L s.heap all) (m1 : m (Str.ofString "told") = some (.ref tt)) (m2 : m (Str.ofString "probes") = some (.ref pp)) (m3 : m (Str.ofString "waits") = some (.ref wa)) (m4 : m (Str.ofString "ends") = some (.ref en)) (m5 : m (Str.ofString "last") = some (.ref la)) (m6 : m (Str.ofString "side") = some (.int 1 tx))
    (htt : (tt, ({ cls := .type "tuple", data := .seq #[.int ta tta, .int tb ttb] ntt } : Obj)) ∈ all) (hpp : (pp, ({ cls := .type "tuple", data := .seq #[.int p0 tp0, .int p1 tp1] npp } : Obj)) ∈ all)
    (hwa : (wa, listOf #[.int w0 u0, .int w1 u1] nwa) ∈ all) (hla : (la, listOf #[.int s0 tl0, .int s1 tl1] nla) ∈ all) (hen : (en, listOf (List.toArray (ini ++ [.ref le])) nen) ∈ all) (hle : (le, listOf #[.int e0 te0, .int e1 te1] nle) ∈ all)
    (h1 : 0 ≤ p0 ∧ p0 < 10 ^ 6) (h2 : 0 ≤ p1 ∧ p1 < 10 ^ 6) (h3 : 0 ≤ ta ∧ ta < 10 ^ 6) (h4 : 0 ≤ tb ∧ tb < 10 ^ 6) (hnz : ¬ (ta = 0 ∧ tb = 0)) (hs : 0 ≤ s1 ∧ s1 < 10 ^ 6)
    (hw : waitO tb ta p1 = some w1) (he : e1 = s1 + w1)
    (h : ∀ av h' tk, Fr h₀ L h' (fun y => if y = Str.ofString "alone" then some av else m y) → News h₀ L h' all → Q .next { s with heap := h', toks := tk }) :
    wpAny (model PySem.Challenge.rw_sj0106_01.row.prog w) (lawA L fa cd) (execs (forBody (lawS 11)) (lawEnv L fa cd)) Q E s := by
  have hMk := kstMark
  show wpAny _ _ (execs (_ :: _ :: _ :: _ :: _ :: []) _) _ _ _
  have hns : ∀ p ∈ [(Str.ofString "told", Value.ref tt), (Str.ofString "probes", .ref pp), (Str.ofString "waits", .ref wa), (Str.ofString "ends", .ref en), (Str.ofString "last", .ref la), (Str.ofString "side", .int 1 tx)], m p.1 = some p.2 := by simp only [List.forall_mem_cons]; exact ⟨m1, m2, m3, m4, m5, m6, fun _ hp => nomatch hp⟩
  have F1 := frs F _ hns
  clear F
  dsimp only [List.foldr] at F1
  k_steps
  (rename News h₀ _ _ _ => N2; rename Fr h₀ _ _ _ => F2)
  refine ⟨tt, [.int ta tta, .int tb ttb], ntt, true, _, fun i ys nw => nw = _ ∧ IntsAre ys (([ta, tb].take i).filter fun z => decide (0 < z)), rfl, rfl, F2, N2, ?_, Nat.le_of_ble_eq_true rfl, ⟨rfl, .nil⟩, ?_, ?_, ?_⟩
  · repeat (first | exact htt | refine List.mem_cons_of_mem _ ?_)
  · (rintro i ys nw ⟨rfl, _⟩; repeat (first | exact htt | refine List.mem_cons_of_mem _ ?_))
  · intro C I D nCI nCD nDI nCL hC₀ i v ys pv nw oI h6 tk1 E' hP hJ hPv F6 N6 off
    obtain ⟨rfl, hys⟩ := hJ
    obtain ⟨oC, m', rfl, hn⟩ := hPv
    obtain ⟨n, tn, rfl, het⟩ : ∃ n tn, v = .int n tn ∧ ([ta, tb].take (i + 1)).filter (fun z => decide (0 < z)) = ([ta, tb].take i).filter (fun z => decide (0 < z)) ++ (if decide (0 < n) = true then [n] else []) := by
      match i, hP with
      | 0, hP => refine ⟨_, _, (Option.some.inj hP).symm, ?_⟩; simp only [List.take_succ_cons, List.take_zero, List.filter_cons, List.filter_nil, List.nil_append]
      | 1, hP => refine ⟨_, _, (Option.some.inj hP).symm, ?_⟩; simp only [List.take_succ_cons, List.take_zero, List.filter_cons, List.filter_nil]; split <;> split <;> rfl
    refine cAssign1 (by rfl) (by rfl) F6 N6 hn nCI nCD (fun p hp => (off p hp).2.2) fun h7 oC7 m7 tk7 hn7 hx7 F7 N7 => ?_
    clear hn N6 F6 N2 F2
    simp only [List.cons_append, List.nil_append] at N7
    refine wpAny_tests_one ?_
    by_cases hpos : 0 < n
    all_goals k_steps
    all_goals (refine CEnd.calm hn7 F7 N7 off ⟨rfl, ?_⟩; rw [het])
    all_goals first
      | (rw [decide_eq_true hpos, if_pos rfl]; exact IntsAre.append hys (.cons _ _ .nil))
      | (rw [decide_eq_false hpos, if_neg (by decide), List.append_nil]; exact hys)
      | (exfalso; omega)
  · rintro ys nw ⟨rfl, hys⟩ D h8 tk8 F8 N8 oD
    clear N2 F2
    k_steps
    (with_reducible show Stop _; unfold Stop)
    have hys2 : IntsAre ys (([ta, tb]).filter fun z => decide (0 < z)) := hys
    refine min_list_N (by rfl) F8 N8 ⟨_, (N8 _ List.mem_cons_self).1, rfl, _, rfl⟩ hys2 ?_ ?_
    · rw [List.length_pos_iff_exists_mem]
      by_cases h5 : 0 < ta
      · exact ⟨ta, List.mem_filter.mpr ⟨by simp, decide_eq_true h5⟩⟩
      · exact ⟨tb, List.mem_filter.mpr ⟨by simp, decide_eq_true (by omega)⟩⟩
    · intro h9 M tM tk9 F9 N9 hM1 hM2
      clear F8 N8
      have hMx : (if 3 * p1 > M then 3 * p1 else M) = w1 := by
        have hM3 := List.mem_filter.mp hM1
        have hM4 : 0 < ta → M ≤ ta := fun h => hM2 _ (List.mem_filter.mpr ⟨by simp, decide_eq_true h⟩)
        have hM5 : 0 < tb → M ≤ tb := fun h => hM2 _ (List.mem_filter.mpr ⟨by simp, decide_eq_true h⟩)
        have hM6 : M = ta ∨ M = tb := by simpa using hM3.1
        have hM7 : 0 < M := of_decide_eq_true hM3.2
        have hw' := hw
        unfold waitO at hw'
        split at hw' <;> split at hw' <;> first | (have := Option.some.inj hw'; split <;> omega) | cases hw'
      have hMb : 0 ≤ M ∧ M < 10 ^ 6 := by
        have hM3 := List.mem_filter.mp hM1
        have hM6 : M = ta ∨ M = tb := by simpa using hM3.1
        omega
      clear hM1 hM2 hys hys2
      k_steps
      (with_reducible show Stop _; unfold Stop)
      rw [hMx]
      refine PyProof.Rows.ne_int ?_
      simp only [bne_self_eq_false]
      clear hMx
      k_steps
      (with_reducible show Stop _; unfold Stop)
      (rename News h₀ _ _ _ => N10)
      refine item_last N10 (x := .ref le) (vs := ini) (n := nen) (by repeat (first | exact hen | refine List.mem_cons_of_mem _ ?_)) ?_
      k_steps
      (with_reducible show Stop _; unfold Stop)
      rw [← he]
      refine PyProof.Rows.ne_int ?_
      simp only [bne_self_eq_false]
      k_steps
      (with_reducible show Stop _; unfold Stop)
      k_dflt (refine' deadline_spec (si := some s1) B ?F X T ?hk N10 (List.mem_cons_of_mem _ List.mem_cons_self) (List.mem_cons_of_mem _ (List.mem_cons_of_mem _ List.mem_cons_self)) ?a1 ?a2 ?a3 ?a4 ?hdp ?hun ?_)
      case F => k_asm
      case hk => exact rfl
      case a1 => omega
      case a2 => omega
      case a3 => omega
      case a4 => omega
      case hdp => decide
      case hun => decide
      intro tr h10 tk10 F12 N12
      have hdl : dlO (waitO tb ta p1) (some s1) = some e1 := by rw [hw]; simp only [dlO]; rw [he]
      rw [hdl]
      simp only [optV]
      k_steps
      (with_reducible show Stop _; unfold Stop)
      refine item_last N12 (x := .ref le) (vs := ini) (n := nen) (by repeat (first | exact hen | refine List.mem_cons_of_mem _ ?_)) ?_
      k_steps
      (with_reducible show Stop _; unfold Stop)
      refine PyProof.Rows.ne_int ?_
      simp only [bne_self_eq_false]
      k_steps
      (with_reducible show Stop _; unfold Stop)
      refine item_last N12 (x := .ref le) (vs := ini) (n := nen) (by repeat (first | exact hen | refine List.mem_cons_of_mem _ ?_)) ?_
      k_steps
      (with_reducible show Stop _; unfold Stop)
      have hwb : 0 ≤ w1 ∧ w1 < 10 ^ 8 := by
        have hw' := hw
        unfold waitO at hw'
        split at hw' <;> split at hw' <;> first | (have := Option.some.inj hw'; omega) | cases hw'
      k_dflt (refine' closes_spec (si := some s1) B ?F X T ?hk N12 (List.mem_cons_of_mem _ List.mem_cons_self) (List.mem_cons_of_mem _ (List.mem_cons_of_mem _ List.mem_cons_self)) ?a1 ?a2 ?a3 ?a4 hdl ?b1 ?b2 ?hdp ?hun ?_)
      case F => k_asm
      case hk => exact rfl
      case a1 => omega
      case a2 => omega
      case a3 => omega
      case a4 => omega
      case b1 => omega
      case b2 => omega
      case hdp => decide
      case hun => decide
      intro h11 tk11 F13 N13
      k_steps
      have e2 : ∀ y, _ = m y := fun y => congrFun (frs_eq _ hns) y
      dsimp only [List.foldr] at e2
      simp only [e2] at F13
      exact h _ _ _ F13 (fun p hp => N13 p (List.mem_cons_of_mem _ (List.mem_cons_of_mem _ (List.mem_cons_of_mem _ hp))))
end

section
local macro_rules | `(tactic| walk_at "pyIter ref") => `(tactic| ((with_reducible show wpAny _ _ (pyIter (Value.ref _)) (fun it s₂ => LoopAtT _ _ _ _ _ _ _ _ _ it s₂) _ _); refine stopIt ?_))
theorem st11 {w : World} {mean : ExcName → Option Value} {mg mb : Str → Option Value} {h₀ : Heap} {L fa cd : Addr} {m : Str → Option Value} {s : Shared} {base : Heap} {Q : Flow → Shared → Prop} {E : Value → Shared → Prop} {tt pp wa en la le : Addr} {ntt npp nwa nen nla nle : Nat} {ini : List Value} {ta tb p0 p1 w0 w1 s0 s1 e0 e1 : Int} {tta ttb tp0 tp1 u0 u1 tl0 tl1 te0 te1 : Tok} {all : List (Addr × Obj)}
    
    (B : Below callerA base [] h₀) (X : (hd.heap_39 w.params).In h₀) (T : Top hd.view_39 (looseW hd.view_39 []) mean mg mb h₀) (hE : PassesOwn (model PySem.Challenge.rw_sj0106_01.row.prog w) (lawA L fa cd) (lawEnv L fa cd) E) (F : Fr h₀ L s.heap m) (N : News h₀ L s.heap all) (m1 : m (Str.ofString "told") = some (.ref tt)) (m2 : m (Str.ofString "probes") = some (.ref pp)) (m3 : m (Str.ofString "waits") = some (.ref wa)) (m4 : m (Str.ofString "ends") = some (.ref en)) (m5 : m (Str.ofString "last") = some (.ref la)) 
    (htt : (tt, ({ cls := .type "tuple", data := .seq #[.int ta tta, .int tb ttb] ntt } : Obj)) ∈ all) (hpp : (pp, ({ cls := .type "tuple", data := .seq #[.int p0 tp0, .int p1 tp1] npp } : Obj)) ∈ all)
    (hwa : (wa, listOf #[.int w0 u0, .int w1 u1] nwa) ∈ all) (hla : (la, listOf #[.int s0 tl0, .int s1 tl1] nla) ∈ all) (hen : (en, listOf (List.toArray (ini ++ [.ref le])) nen) ∈ all) (hle : (le, listOf #[.int e0 te0, .int e1 te1] nle) ∈ all)
    (h1 : 0 ≤ p0 ∧ p0 < 10 ^ 6) (h2 : 0 ≤ p1 ∧ p1 < 10 ^ 6) (h3 : 0 ≤ ta ∧ ta < 10 ^ 6) (h4 : 0 ≤ tb ∧ tb < 10 ^ 6) (hnz : ¬ (ta = 0 ∧ tb = 0))  (hs0 : 0 ≤ s0 ∧ s0 < 10 ^ 6) (hs1 : 0 ≤ s1 ∧ s1 < 10 ^ 6) (hw0 : waitO ta tb p0 = some w0) (hw1 : waitO tb ta p1 = some w1) (he0 : e0 = s0 + w0) (he1 : e1 = s1 + w1)
    (h : ∀ m' h' tk, (∀ z, ([Str.ofString "side", Str.ofString "alone"]).contains z = false → m' z = m z) → Fr h₀ L h' m' → News h₀ L h' all → Q .next { s with heap := h', toks := tk }) :
    wpAny (model PySem.Challenge.rw_sj0106_01.row.prog w) (lawA L fa cd) (exec (lawS 11) (lawEnv L fa cd)) Q E s := by
  have hMk := kstMark
  show wpAny _ _ (exec (.For _ _ (forBody (lawS 11)) [] _) _) _ _ _
  refine For_invTF F ?_ (by intro _; rfl) hE
  k_steps
  (with_reducible show Stop _; unfold Stop)
  (rename News h₀ _ _ _ => N2; rename Fr h₀ _ _ _ => F2)
  refine loopTup (vs := [_, _]) (fun i m' nx => (∀ z, ([Str.ofString "side", Str.ofString "alone"]).contains z = false → m' z = m z) ∧ nx = _) (by rfl) List.mem_cons_self F2 N2 ⟨fun _ _ => rfl, rfl⟩ (fun i m' nx ⟨_, e⟩ => e ▸ List.mem_cons_self) ?_ ?_
  · rintro i v m₁ nx I oI s₁ hi ⟨hm, rfl⟩ hI F3 N3
    have hx : ∀ x, ([Str.ofString "side", Str.ofString "alone"]).contains x = false → ∀ (v : Value) (y : Value), m x = some y → (fun z => if z = Str.ofString "side" then some v else m₁ z) x = some y := fun x hx v y e => by
      have h1 : x ≠ Str.ofString "side" := by rintro rfl; simp at hx
      simp only [h1, if_false]
      rw [hm x hx]; exact e
    have hend : ∀ (v av : Value) h' tk, Fr h₀ L h' (fun y => if y = Str.ofString "alone" then some av else if y = Str.ofString "side" then some v else m₁ y) → News h₀ L h' ((I, oI) :: _) → LEnd h₀ L I oI (fun m' nx => (∀ z, ([Str.ofString "side", Str.ofString "alone"]).contains z = false → m' z = m z) ∧ nx = _) s₁ .next { s₁ with heap := h', toks := tk } := fun v av h' tk F' N' =>
      ⟨rfl, h', tk, _, _, rfl, F', N', hI, fun z hz => by
        have h1 : z ≠ Str.ofString "side" := by rintro rfl; simp at hz
        have h2 : z ≠ Str.ofString "alone" := by rintro rfl; simp at hz
        simp only [h1, h2, if_false]
        exact hm z hz, rfl⟩
    have up : ∀ (e p : Addr × Obj), p ∈ all → p ∈ ((I, oI) :: e :: all) := fun e p hp => List.mem_cons_of_mem _ (List.mem_cons_of_mem _ hp)
    match i, hi with
    | 0, hi =>
      obtain rfl := (Option.some.inj hi).symm
      refine wpAny_assign_Name (stLocN F3 N3 fun hh F4 N4 => ?_)
      exact turn0 B X T F4 N4 (hx _ (by decide +kernel) _ _ m1) (hx _ (by decide +kernel) _ _ m2) (hx _ (by decide +kernel) _ _ m3) (hx _ (by decide +kernel) _ _ m4) (hx _ (by decide +kernel) _ _ m5) (if_pos rfl) (up _ _ htt) (up _ _ hpp) (up _ _ hwa) (up _ _ hla) (up _ _ hen) (up _ _ hle) h1 h2 h3 h4 hnz hs0 hw0 he0 fun av h' tk F' N' => hend _ av h' tk F' N'
    | 1, hi =>
      obtain rfl := (Option.some.inj hi).symm
      refine wpAny_assign_Name (stLocN F3 N3 fun hh F4 N4 => ?_)
      exact turn1 B X T F4 N4 (hx _ (by decide +kernel) _ _ m1) (hx _ (by decide +kernel) _ _ m2) (hx _ (by decide +kernel) _ _ m3) (hx _ (by decide +kernel) _ _ m4) (hx _ (by decide +kernel) _ _ m5) (if_pos rfl) (up _ _ htt) (up _ _ hpp) (up _ _ hwa) (up _ _ hla) (up _ _ hen) (up _ _ hle) h1 h2 h3 h4 hnz hs1 hw1 he1 fun av h' tk F' N' => hend _ av h' tk F' N'
  · rintro m₁ nx h' tk ⟨hm, rfl⟩ F3 N3
    exact h m₁ h' _ hm F3 fun p hp => N3 p (List.mem_cons_of_mem _ hp)
end

section
local macro_rules | `(tactic| walk_at "subscriptTail") => `(tactic| (k_here; (with_reducible show wpAny _ _ (subscriptTail _ _ (Value.ref _) (Value.int (-1) _)) _ _ _); refine stopIt ?_))
local macro_rules | `(tactic| walk_at "subscriptTail") => `(tactic| (k_here; (with_reducible show wpAny _ _ (subscriptTail _ _ (Value.ref _) (Value.int _ _)) _ _ _); k_dflt (refine' my_item ?F ?N ?m ?a ?b ?c ?d ?_; (case F => k_asm); (case N => k_asm); (case m => k_mem); (case a => decide); (case b => decide); (case c => rfl); (case d => rfl); k_whole)))
local macro_rules | `(tactic| walk_at "eval ListComp") => `(tactic| (k_here; k_dflt (refine compE (by k_asm) (by with_unfolding_all rfl) (by decide) (by rfl) (by decide) ?_)))
local macro_rules | `(tactic| walk_at "call builtin:max") => `(tactic| (k_here; refine stopIt ?_))

theorem st12 {w : World} {mean : ExcName → Option Value} {mg mb : Str → Option Value} {h₀ : Heap} {L fa cd : Addr} {m : Str → Option Value} {s : Shared} {base : Heap} {Q : Flow → Shared → Prop} {E : Value → Shared → Prop} {wa en le : Addr} {nwa nen nle : Nat} {ini : List Value} {w0 w1 e0 e1 : Int} {u0 u1 te0 te1 : Tok} {all : List (Addr × Obj)}
    (B : Below callerA base [] h₀) (X : (hd.heap_39 w.params).In h₀) (T : Top hd.view_39 (looseW hd.view_39 []) mean mg mb h₀) (F : Fr h₀ L s.heap m) (N : News h₀ L s.heap all) (m3 : m (Str.ofString "waits") = some (.ref wa)) (m4 : m (Str.ofString "ends") = some (.ref en))
    (hwa : (wa, listOf #[.int w0 u0, .int w1 u1] nwa) ∈ all) (hen : (en, listOf (List.toArray (ini ++ [.ref le])) nen) ∈ all) (hle : (le, listOf #[.int e0 te0, .int e1 te1] nle) ∈ all)
    (h : ∀ ta h' tk, Fr h₀ L h' (fun y => if y = Str.ofString "apart" then some (.int (e0 - w0 - e1 + w1) ta) else m y) → News h₀ L h' all → Q .next { s with heap := h', toks := tk }) :
    wpAny (model PySem.Challenge.rw_sj0106_01.row.prog w) (lawA L fa cd) (exec (lawS 12) (lawEnv L fa cd)) Q E s := by
  have hMk := kstMark
  show wpAny _ _ (exec (.Assign _ _ _) _) _ _ _
  have hns : ∀ p ∈ [(Str.ofString "waits", Value.ref wa), (Str.ofString "ends", .ref en)], m p.1 = some p.2 := by simp only [List.forall_mem_cons]; exact ⟨m3, m4, fun _ hp => nomatch hp⟩
  have F1 := frs F _ hns
  clear F
  dsimp only [List.foldr] at F1
  k_steps
  (with_reducible show Stop _; unfold Stop)
  refine item_last N (x := .ref le) (vs := ini) (n := nen) hen ?_
  k_steps
  (with_reducible show Stop _; unfold Stop)
  refine item_last N (x := .ref le) (vs := ini) (n := nen) hen ?_
  k_steps
  have e2 : ∀ y, _ = m y := fun y => congrFun (frs_eq _ hns) y
  dsimp only [List.foldr] at e2
  (rename News h₀ _ _ _ => kN; rename Fr h₀ _ _ _ => kF)
  simp only [e2] at kF
  exact h _ _ _ kF kN

theorem st13 {w : World} {mean : ExcName → Option Value} {mg mb : Str → Option Value} {h₀ : Heap} {L fa cd : Addr} {m : Str → Option Value} {s : Shared} {base : Heap} {Q : Flow → Shared → Prop} {E : Value → Shared → Prop} {q : Addr} {na : Nat} {vs : List Value} {asks : List Ask} {ap way : Int} {tap tw : Tok} {all : List (Addr × Obj)}
    (B : Below callerA base [] h₀) (X : (hd.heap_39 w.params).In h₀) (T : Top hd.view_39 (looseW hd.view_39 []) mean mg mb h₀) (F : Fr h₀ L s.heap m) (N : News h₀ L s.heap all) (m1 : m (Str.ofString "asks") = some (.ref q)) (m2 : m (Str.ofString "way") = some (.int way tw)) (m3 : m (Str.ofString "apart") = some (.int ap tap))
    (hq : (q, listOf vs.toArray na) ∈ all) (hA : DatAll all vs (asks.map askD)) (ha0 : 1 ≤ asks.length) (ha : asks.length < 8) (hw : 1 ≤ way ∧ way ≤ 50) (hr : ∀ a ∈ asks, 0 ≤ a.2.2 ∧ a.2.2 < 1000) (hab : -(10 ^ 9) < ap ∧ ap < 10 ^ 9)
    (hap : ∀ ml, (∀ a ∈ asks, a.2.2 ≤ ml) → ap ≤ way + ml ∧ -ap ≤ way + ml)
    (h : ∀ m' h' tk, Fr h₀ L h' m' → Q (.ret (.bool true)) { s with heap := h', toks := tk }) :
    wpAny (model PySem.Challenge.rw_sj0106_01.row.prog w) (lawA L fa cd) (exec (lawS 13) (lawEnv L fa cd)) Q E s := by
  have hMk := kstMark
  show wpAny _ _ (exec (.Return _ _) _) _ _ _
  have hns : ∀ p ∈ [(Str.ofString "asks", Value.ref q), (Str.ofString "way", .int way tw), (Str.ofString "apart", .int ap tap)], m p.1 = some p.2 := by simp only [List.forall_mem_cons]; exact ⟨m1, m2, m3, fun _ hp => nomatch hp⟩
  have F1 := frs F _ hns
  clear F
  dsimp only [List.foldr] at F1
  k_steps
  refine ⟨q, vs, na, false, _, fun j zs nx => nx = _ ∧ IntsAre zs ((asks.take j).map (·.2.2)), rfl, rfl, F1, N, hq, ?_, ⟨rfl, .nil⟩, ?_, ?_, ?_⟩
  · have hlen : vs.length = asks.length := by have := hA.length; simpa using this
    rw [sizeLine_eq]; omega
  · rintro j zs nx ⟨rfl, _⟩
    exact hq
  · intro C2 I2 D2 mCI mCD mDI mCL hC2 j ve zs pv2 nx oI2 h7 tk7 E2 hP2 hJ2 hPv2 F7 N7 off2
    obtain ⟨rfl, hzs⟩ := hJ2
    obtain ⟨oC2, m7, rfl, hn7⟩ := hPv2
    have hlen : vs.length = asks.length := by have := hA.length; simpa using this
    have hj : j < asks.length := by rw [← hlen]; exact (List.getElem?_eq_some_iff.mp hP2).1
    obtain ⟨v', hv', hDv⟩ := hA.get (k := j) (by simpa using hj)
    rw [hP2] at hv'
    cases hv'
    have e : (asks.map askD)[j]'(by simpa using hj) = askD asks[j] := by simp
    rw [e] at hDv
    obtain ⟨te, nt, t1, t2, t3, rfl, hm⟩ := ask_open hDv
    have hcm : (asks.take (j + 1)).map (·.2.2) = (asks.take j).map (·.2.2) ++ [asks[j].2.2] := by
      rw [List.take_add_one, List.getElem?_eq_getElem hj, List.map_append]; rfl
    generalize hek : asks[j] = ek at hm hcm
    obtain ⟨ti, sd, lt⟩ := ek
    dsimp only at hm hcm
    refine cAssignT (xs := [(Str.ofString "when", _), (Str.ofString "side", _), (Str.ofString "late", _)]) (by rfl) (by rfl) (by rfl) (by decide +kernel) (by decide +kernel) F7 N7 hn7 mCI mCD (fun p hp => (off2 p hp).2.2) hm ?_
    rintro h8 oC8 m8 tk8 hn8 ⟨x1, x2, x3, _⟩ F8 N8
    clear F7 N7 hn7 F1 N
    simp only [List.cons_append, List.nil_append] at N8
    refine wpAny_tests_nil ?_
    simp only [if_true]
    k_steps
    refine CEnd.calm hn8 F8 N8 off2 ⟨rfl, ?_⟩
    rw [hcm]
    exact IntsAre.append hzs (.cons _ _ .nil)
  · rintro zs nx ⟨rfl, hzs⟩ D9 h9 tk9 F9 N9 o9
    clear F1 N
    k_steps
    (with_reducible show Stop _; unfold Stop)
    have hlen : vs.length = asks.length := by have := hA.length; simpa using this
    rw [hlen, List.take_length] at hzs
    refine max_list_N (by rfl) F9 N9 ⟨_, (N9 _ List.mem_cons_self).1, rfl, _, rfl⟩ hzs ?_ ?_
    · rw [List.length_map]; omega
    · intro h5 M t5 tk5 F5 N5 hM1 hM2
      obtain ⟨a, ha1, ha2⟩ := List.mem_map.mp hM1
      have hMb := hr a ha1
      have hfin := hap M fun a ha => hM2 _ (List.mem_map.mpr ⟨a, ha, rfl⟩)
      rw [ha2] at hMb
      clear F9 N9 hM1 hM2 hap hr
      k_steps
      have e : decide ((if ap < 0 then -ap else ap) ≤ way + M) = true := decide_eq_true (by split <;> omega)
      rw [e]
      exact h _ _ _ F5
end

section
theorem es_len {way t : Int} {asks : List Ask} {es : List Ev} (_hk : AskOk asks t) (hp : es.Perm (evsOf way asks)) : es.length = 4 * asks.length := by
  rw [hp.length_eq]
  unfold evsOf
  rw [List.length_map, rows_len]
theorem es_ok {way t : Int} {asks : List Ask} {es : List Ev} (hk : AskOk asks t) (ha : asks.length < 8) (hw : 1 ≤ way ∧ way ≤ 50) (hp : es.Perm (evsOf way asks)) : ∀ e ∈ es, 0 ≤ e.1 ∧ e.1 < 10 ^ 6 ∧ (e.2.1 = 0 ∨ e.2.1 = 1) := fun e he => by
  obtain ⟨a, haa, j1, j2, j3, _⟩ := ev_cases hk hw (hp.subset he)
  obtain ⟨b1, b2, b3⟩ := hk.bound
  obtain ⟨c1, c2, _⟩ := b3 a haa
  exact ⟨by omega, by omega, j3⟩
theorem wait_400 {a b p v : Int} (ha : Menu [0, 400, 1000, 650] a ∨ Menu [0, 700, 450] a) (hb : Menu [0, 400, 1000, 650] b ∨ Menu [0, 700, 450] b) (h : waitO a b p = some v) : 400 ≤ v := by
  have ha' : a = 0 ∨ 400 ≤ a := by
    rcases ha with ha | ha <;> (unfold Menu at ha; simp only [List.mem_cons, List.not_mem_nil, or_false] at ha; omega)
  have hb' : b = 0 ∨ 400 ≤ b := by
    rcases hb with hb | hb <;> (unfold Menu at hb; simp only [List.mem_cons, List.not_mem_nil, or_false] at hb; omega)
  unfold waitO at h
  split at h <;> split at h <;> first | (have := Option.some.inj h; omega) | cases h
theorem wait_some {a b p : Int} (ha : 0 ≤ a) (hb : 0 ≤ b) (h : ¬ (a = 0 ∧ b = 0)) : ∃ v, waitO a b p = some v := by
  unfold waitO
  split <;> split
  · exact ⟨_, rfl⟩
  · exact ⟨_, rfl⟩
  · exact ⟨_, rfl⟩
  · exfalso; omega
theorem runs_safe {way t ta tb p0 p1 : Int} {asks : List Ask} {es : List Ev} (hk : AskOk asks t) (hw : 1 ≤ way ∧ way ≤ 50) (hp : es.Perm (evsOf way asks)) (hs : es.Pairwise (fun a b => a.1 ≤ b.1)) (ha : Menu [0, 400, 1000, 650] ta) (hb : Menu [0, 700, 450] tb) :
    ∀ i (hi : i < es.length), overO (dlO (waitO ta tb p0) (runE 0 (es.take i)).1) es[i].1 = false ∧ overO (dlO (waitO tb ta p1) (runE 1 (es.take i)).1) es[i].1 = false := fun i hi =>
  ⟨safe hk hw (.inl rfl) hp hs (fun v hv => wait_400 (.inl ha) (.inr hb) hv) i hi, safe hk hw (.inr rfl) hp hs (fun v hv => wait_400 (.inr hb) (.inl ha) hv) i hi⟩
theorem since_max {way x t : Int} {asks : List Ask} {es : List Ev} (hk : AskOk asks t) (hne : 1 ≤ asks.length) (hlt : asks.length < 8) (hw : 1 ≤ way ∧ way ≤ 50) (hx : x = 0 ∨ x = 1) (hp : es.Perm (evsOf way asks)) (hs : es.Pairwise (fun a b => a.1 ≤ b.1)) :
    ∃ s, (runE x es).1 = some s ∧ IsMax s (cameL x es) ∧ (∃ a ∈ asks, s = cmT way x a) ∧ (∀ a ∈ asks, cmT way x a ≤ s) ∧ 0 ≤ s ∧ s < 10 ^ 6 := by
  obtain ⟨s, h1, h2, h3⟩ := since_end hk hne hw hx hp hs
  refine ⟨s, h1, ⟨?_, fun a ha => ?_⟩, h2, h3, ?_⟩
  · obtain ⟨a, ha, rfl⟩ := h2
    refine List.mem_map.mpr ⟨_, List.mem_filter.mpr ⟨hp.symm.subset (came_mem hk hx ha), ?_⟩, rfl⟩
    simp
  · obtain ⟨e, he, rfl⟩ := List.mem_map.mp ha
    obtain ⟨he1, he2⟩ := List.mem_filter.mp he
    simp only [Bool.and_eq_true, decide_eq_true_eq] at he2
    obtain ⟨a, ha, _, _, _, kc, _⟩ := ev_cases hk hw (hp.subset he1)
    have := kc he2.2
    rw [this, he2.1]
    exact h3 a ha
  · obtain ⟨a, ha, rfl⟩ := h2
    obtain ⟨b1, b2, b3⟩ := hk.bound
    obtain ⟨c1, c2, _, c4, c5⟩ := b3 a ha
    have := cm_bound (way := way) (x := x) (a := a) hw ⟨c4, c5⟩
    omega
theorem ends_last {T : List (Addr × Obj)} {vs : List Value} {es : List Ev} {w0 w1 s0 s1 : Int} (h : DatAll T vs ((List.range es.length).map fun k => endAt (some w0) (some w1) (es.take (k + 1)))) (hn : 1 ≤ es.length) (h0 : (runE 0 es).1 = some s0) (h1 : (runE 1 es).1 = some s1) :
    ∃ ini le n t0 t1, vs = ini ++ [.ref le] ∧ (le, listOf #[.int (s0 + w0) t0, .int (s1 + w1) t1] n) ∈ T := by
  obtain ⟨n, hn'⟩ : ∃ n, es.length = n + 1 := ⟨es.length - 1, by omega⟩
  have hlen : vs.length = n + 1 := by have := h.length; simpa [hn'] using this
  obtain ⟨v, hv, hd⟩ := h.get (k := n) (by simp [hn'])
  have e : ((List.range es.length).map fun k => endAt (some w0) (some w1) (es.take (k + 1)))[n]'(by simp [hn']) = .list [.int (s0 + w0), .int (s1 + w1)] := by
    simp only [List.getElem_map, List.getElem_range]
    rw [← hn', List.take_length]
    unfold endAt
    rw [h0, h1]
    rfl
  rw [e] at hd
  cases hd with
  | list hm hA =>
    cases hA with
    | cons k1 k2 => cases k2 with
      | cons k2 k3 =>
        cases k3; cases k1; cases k2
        rename_i le c t0 t1
        refine ⟨vs.take n, le, c, t0, t1, ?_, hm⟩
        obtain ⟨hlt, hve⟩ := List.getElem?_eq_some_iff.mp hv
        rw [← hve, List.take_append_getElem, ← hlen, List.take_length]
end

section
theorem law_tail {w : World} {mean : ExcName → Option Value} {mg mb : Str → Option Value} {h₀ : Heap} {L fa cd : Addr} {m : Str → Option Value} {s : Shared} {base : Heap} {Q : Flow → Shared → Prop} {E : Value → Shared → Prop} {b l q tt pp : Addr} {k t way ta tb p0 p1 : Int} {tk₀ tw tta ttb tp0 tp1 : Tok} {nb na nl ntt npp : Nat} {vs ws : List Value} {ns : List Int} {asks : List Ask} {TT : List (Addr × Obj)} {oc : Obj}
    (B : Below callerA base [] h₀) (X : (hd.heap_39 w.params).In h₀) (T : Top hd.view_39 (looseW hd.view_39 []) mean mg mb h₀) (hE : PassesOwn (model PySem.Challenge.rw_sj0106_01.row.prog w) (lawA L fa cd) (lawEnv L fa cd) E) (F : Fr h₀ L s.heap m) (N : News h₀ L s.heap ((b, listOf #[.ref l, .int k tk₀] nb) :: (q, listOf vs.toArray na) :: TT))
    (m1 : m (Str.ofString "asks") = some (.ref q)) (m2 : m (Str.ofString "way") = some (.int way tw)) (m3 : m (Str.ofString "told") = some (.ref tt)) (m4 : m (Str.ofString "probes") = some (.ref pp)) (m5 : m (Str.ofString "box") = some (.ref b))
    (hTb : ∀ p ∈ TT, p.1 ≠ b) (hTq : ∀ p ∈ TT, p.1 ≠ q) (hqb : @Ne Nat q b) (hc : (L + 1, oc) ∈ TT) (hoc : oc.data = .cell none) (hl0 : (l, listOf ws.toArray nl) ∈ TT) (hi : IntsAre ws ns) (hns : ns.length < 1000) (hk0 : 0 ≤ k) (hk1 : k < 1000)
    (htt : (tt, ({ cls := .type "tuple", data := .seq #[.int ta tta, .int tb ttb] ntt } : Obj)) ∈ TT) (hpp : (pp, ({ cls := .type "tuple", data := .seq #[.int p0 tp0, .int p1 tp1] npp } : Obj)) ∈ TT)
    (hA : DatAll TT vs (asks.map askD)) (hak : AskOk asks t) (ha0 : 1 ≤ asks.length) (ha : asks.length < 8) (hw : 1 ≤ way ∧ way ≤ 50) (h1 : 0 ≤ p0 ∧ p0 < 10 ^ 6) (h2 : 0 ≤ p1 ∧ p1 < 10 ^ 6) (h3 : 0 ≤ ta ∧ ta < 10 ^ 6) (h4 : 0 ≤ tb ∧ tb < 10 ^ 6)
    (hma : Menu [0, 400, 1000, 650] ta) (hmb : Menu [0, 700, 450] tb)
    (h : ∀ m' h' tk, Fr h₀ L h' m' → Q (.ret (.bool true)) { s with heap := h', toks := tk }) :
    wpAny (model PySem.Challenge.rw_sj0106_01.row.prog w) (lawA L fa cd) (execs (lawBody.drop 5) (lawEnv L fa cd)) Q E s := by
  show wpAny _ _ (execs (lawS 5 :: lawS 6 :: lawS 7 :: lawS 8 :: lawS 9 :: lawS 10 :: lawS 11 :: lawS 12 :: lawS 13 :: []) _) _ _ _
  -- the cell apart
  have Nt : News h₀ L s.heap TT := fun p hp => N p (List.mem_cons_of_mem _ (List.mem_cons_of_mem _ hp))
  have hcb : L + 1 ≠ b := hTb _ hc
  have hcq : L + 1 ≠ q := hTq _ hc
  have seqIn : ∀ a o, (a, o) ∈ TT → (∃ vs n, o.data = .seq vs n) → (a, o) ∈ TT.filter (fun p => p.1 != L + 1) := fun a o ha ⟨vs, n, e⟩ =>
    away Nt hc ha (by rintro rfl; rw [e] at hoc; cases hoc)
  have htt1 := seqIn _ _ htt ⟨_, _, rfl⟩
  have hpp1 := seqIn _ _ hpp ⟨_, _, rfl⟩
  have hl1 := seqIn _ _ hl0 ⟨_, _, rfl⟩
  have hA1 : DatAll (TT.filter (fun p => p.1 != L + 1)) vs (asks.map askD) := DatAll.away seqIn hA
  have hTb1 : ∀ p ∈ TT.filter (fun p => p.1 != L + 1), p.1 ≠ b := fun p hp => hTb p (filter_sub p hp)
  have hTc1 : ∀ p ∈ TT.filter (fun p => p.1 != L + 1), p.1 ≠ L + 1 := filter_apart
  have hsub1 : ∀ p ∈ TT.filter (fun p => p.1 != L + 1), p ∈ TT := filter_sub
  generalize TT.filter (fun p => p.1 != L + 1) = T1 at htt1 hpp1 hl1 hA1 hTb1 hTc1 hsub1
  clear seqIn
  refine wpAny_execs_cons (st5 B X T F N (nw := (b, listOf #[.ref l, .int k tk₀] nb) :: (q, listOf vs.toArray na) :: T1) m1 m2 (List.mem_cons_of_mem _ (List.mem_cons_of_mem _ hc)) hoc ?_ (List.mem_cons_of_mem _ List.mem_cons_self) (hA1.mono fun p hp => List.mem_cons_of_mem _ (List.mem_cons_of_mem _ hp)) hak ha0 ha hw ?_)
  · intro p hp
    rcases List.mem_cons.mp hp with rfl | hp
    · exact ⟨List.mem_cons_self, Ne.symm hcb⟩
    · rcases List.mem_cons.mp hp with rfl | hp
      · exact ⟨List.mem_cons_of_mem _ List.mem_cons_self, Ne.symm hcq⟩
      · exact ⟨List.mem_cons_of_mem _ (List.mem_cons_of_mem _ (hsub1 p hp)), hTc1 p hp⟩
  intro ev es us c tl oc' h5 tk5 F5 N5 hoc5 n5a n5b _ hD5 hp hs
  show wpAny _ _ (execs (lawS 6 :: _) _) _ _ _
  clear F N Nt
  have hlen := es_len hak hp
  have hok := es_ok hak ha hw hp
  have hsafe := runs_safe (p0 := p0) (p1 := p1) hak hw hp hs hma hmb
  -- the ledger without the box
  have big : ∀ p ∈ (L + 1, oc') :: (ev, listOf us.toArray c) :: (tl ++ (q, listOf vs.toArray na) :: T1), p.1 ≠ b := by
    intro p hp
    rcases List.mem_cons.mp hp with rfl | hp
    · exact hcb
    · rcases List.mem_cons.mp hp with rfl | hp
      · exact Ne.symm (n5a _ List.mem_cons_self)
      · rcases List.mem_append.mp hp with hp | hp
        · exact n5b p hp _ List.mem_cons_self
        · rcases List.mem_cons.mp hp with rfl | hp
          · exact hqb
          · exact hTb1 p hp
  have inc : ∀ p ∈ (L + 1, oc') :: (ev, listOf us.toArray c) :: (tl ++ (q, listOf vs.toArray na) :: T1), p ∈ (L + 1, oc') :: (ev, listOf us.toArray c) :: (tl ++ (b, listOf #[.ref l, .int k tk₀] nb) :: (q, listOf vs.toArray na) :: T1) := by
    intro p hp
    simp only [List.mem_cons, List.mem_append] at hp ⊢
    rcases hp with hp | hp | hp | hp | hp
    · exact .inl hp
    · exact .inr (.inl hp)
    · exact .inr (.inr (.inl hp))
    · exact .inr (.inr (.inr (.inr (.inl hp))))
    · exact .inr (.inr (.inr (.inr (.inr hp))))
  have kc : (L + 1, oc') ∈ (L + 1, oc') :: (ev, listOf us.toArray c) :: (tl ++ (q, listOf vs.toArray na) :: T1) := List.mem_cons_self
  have kev : (ev, listOf us.toArray c) ∈ (L + 1, oc') :: (ev, listOf us.toArray c) :: (tl ++ (q, listOf vs.toArray na) :: T1) := List.mem_cons_of_mem _ List.mem_cons_self
  have ktl : ∀ p ∈ tl, p ∈ (L + 1, oc') :: (ev, listOf us.toArray c) :: (tl ++ (q, listOf vs.toArray na) :: T1) := fun p hp => List.mem_cons_of_mem _ (List.mem_cons_of_mem _ (List.mem_append_left _ hp))
  have kq : (q, listOf vs.toArray na) ∈ (L + 1, oc') :: (ev, listOf us.toArray c) :: (tl ++ (q, listOf vs.toArray na) :: T1) := List.mem_cons_of_mem _ (List.mem_cons_of_mem _ (List.mem_append_right _ List.mem_cons_self))
  have kT : ∀ p ∈ T1, p ∈ (L + 1, oc') :: (ev, listOf us.toArray c) :: (tl ++ (q, listOf vs.toArray na) :: T1) := fun p hp => List.mem_cons_of_mem _ (List.mem_cons_of_mem _ (List.mem_append_right _ (List.mem_cons_of_mem _ hp)))
  have kb : (b, listOf #[.ref l, .int k tk₀] nb) ∈ (L + 1, oc') :: (ev, listOf us.toArray c) :: (tl ++ (b, listOf #[.ref l, .int k tk₀] nb) :: (q, listOf vs.toArray na) :: T1) := List.mem_cons_of_mem _ (List.mem_cons_of_mem _ (List.mem_append_right _ List.mem_cons_self))
  have kD := hD5.mono ktl
  have kA := hA1.mono kT
  have ktt := kT _ htt1
  have kpp := kT _ hpp1
  have kl := kT _ hl1
  generalize (L + 1, oc') :: (ev, listOf us.toArray c) :: (tl ++ (q, listOf vs.toArray na) :: T1) = R at big inc kc kev ktl kq kT kD kA ktt kpp kl
  generalize (L + 1, oc') :: (ev, listOf us.toArray c) :: (tl ++ (b, listOf #[.ref l, .int k tk₀] nb) :: (q, listOf vs.toArray na) :: T1) = R' at N5 inc kb
  clear n5a n5b hD5 hA1 hTb1 hTc1 hsub1 htt1 hpp1 hl1 ktl kT hc hl0 hTb hTq htt hpp hA hcb hcq
  refine wpAny_execs_cons (st6 B X T F5 N5 m3 m4 (inc _ kc) hoc5 (inc _ kev) (kD.mono inc) (inc _ ktt) (inc _ kpp) (by omega) h1 h2 h3.2 h4.2 hok hsafe ?_)
  intro en ens c6 T6 h6 tk6 F6 N6 hT6 hT6' hE6
  show wpAny _ _ (execs (lawS 7 :: _) _) _ _ _
  clear F5 N5
  have hen_b : en ≠ b := Ne.symm (hT6' _ (hT6 _ kb))
  have keep : ∀ p ∈ R, p ∈ (en, listOf ens.toArray c6) :: T6.filter (fun p => p.1 != b) := fun p hp => List.mem_cons_of_mem _ (List.mem_filter.mpr ⟨hT6 p (inc p hp), bne_iff_ne.mpr (big p hp)⟩)
  have hE6' := ends_off N6 (fun p hp => List.mem_cons_of_mem _ hp) (List.mem_cons_of_mem _ (hT6 _ kb)) hE6 (fun d hd => by
    obtain ⟨k, _, rfl⟩ := List.mem_map.mp hd
    exact ⟨_, _, rfl⟩)
  have N6' : News h₀ L h6 ((b, listOf #[.ref l, .int k tk₀] nb) :: (en, listOf ens.toArray c6) :: T6.filter (fun p => p.1 != b)) := fun p hp => by
    rcases List.mem_cons.mp hp with rfl | hp
    · exact N6 _ (List.mem_cons_of_mem _ (hT6 _ kb))
    · rcases List.mem_cons.mp hp with rfl | hp
      · exact N6 _ List.mem_cons_self
      · exact N6 _ (List.mem_cons_of_mem _ (filter_sub p hp))
  have hbr : ∀ p ∈ (en, listOf ens.toArray c6) :: T6.filter (fun p => p.1 != b), p.1 ≠ b := fun p hp => by
    rcases List.mem_cons.mp hp with rfl | hp
    · exact hen_b
    · exact filter_apart p hp
  have ken : (en, listOf ens.toArray c6) ∈ (en, listOf ens.toArray c6) :: T6.filter (fun p => p.1 != b) := List.mem_cons_self
  have kE := hE6'.mono (news' := (en, listOf ens.toArray c6) :: T6.filter (fun p => p.1 != b)) fun p hp => List.mem_cons_of_mem _ hp
  generalize (en, listOf ens.toArray c6) :: T6.filter (fun p => p.1 != b) = R6 at keep N6' hbr ken kE
  clear N6 hE6 hE6' hT6 hT6' kb inc big
  have g1 : ∀ (x : Str) (v v' : Value), x ≠ Str.ofString "ends" → m x = some v → (fun y => if y = Str.ofString "ends" then some v' else m y) x = some v := fun x v v' hx e => by simp only [hx, if_false]; exact e
  refine wpAny_execs_cons (st7 B X T F6 N6' (g1 _ _ _ (by decide +kernel) m3) (g1 _ _ _ (by decide +kernel) m4) (if_pos rfl) (g1 _ _ _ (by decide +kernel) m5) hbr (keep _ kl) hi hk0 hk1 hns (keep _ kc) hoc5 (keep _ kev) (kD.mono keep) (keep _ ktt) (keep _ kpp) ken kE (by omega) h1 h2 h3.2 h4.2 hok hsafe ?_)
  intro T7 h7 tk7 F7 N7 hT7
  show wpAny _ _ (execs (lawS 8 :: _) _) _ _ _
  clear N6' F6 hbr
  have up : ∀ p ∈ R, p ∈ T7 := fun p hp => hT7 p (keep p hp)
  have kc7 := up _ kc
  have kev7 := up _ kev
  have kq7 := up _ kq
  have ktt7 := up _ ktt
  have kpp7 := up _ kpp
  have kD7 := kD.mono up
  have kA7 := kA.mono up
  have ken7 := hT7 _ ken
  have kE7 := kE.mono hT7
  clear kc kev kq ktt kpp kD kA ken kE up keep hT7 kl
  refine wpAny_execs_cons (st8 B X T F7 N7 (g1 _ _ _ (by decide +kernel) m3) (g1 _ _ _ (by decide +kernel) m4) ktt7 kpp7 h1 h2 h3.2 h4.2 ?_)
  intro W u0 u1 n8 h8 tk8 F8 N8 _
  show wpAny _ _ (execs (lawS 9 :: _) _) _ _ _
  have g2 : ∀ (x : Str) (v v' v'' : Value), x ≠ Str.ofString "waits" → x ≠ Str.ofString "ends" → m x = some v → (fun y => if y = Str.ofString "waits" then some v'' else if y = Str.ofString "ends" then some v' else m y) x = some v := fun x v v' v'' hy hx e => by simp only [hx, hy, if_false]; exact e
  clear F7 N7 g1
  have lf : ∀ p ∈ T7, p ∈ (W, listOf #[optV (waitO ta tb p0) u0, optV (waitO tb ta p1) u1] n8) :: T7 := fun p hp => List.mem_cons_of_mem _ hp
  have hus : us.length = es.length := by have := kD7.length; simpa using this
  refine wpAny_execs_cons (st9 B X T F8 N8 (g2 _ _ _ _ (by decide +kernel) (by decide +kernel) m3) (if_pos rfl) (by rw [if_neg (by decide +kernel)]; exact if_pos rfl) (lf _ kc7) hoc5 (lf _ kev7) hus (lf _ ktt7) List.mem_cons_self (lf _ ken7) (kE7.mono lf) (by omega) (fun _ m' h' tk F' => h m' h' tk F') ?_)
  intro hnz h9 tk9 F9 N9
  show wpAny _ _ (execs (lawS 10 :: _) _) _ _ _
  clear F8 N8
  obtain ⟨w0, hw0⟩ := wait_some (p := p0) h3.1 h4.1 hnz
  obtain ⟨w1, hw1⟩ := wait_some (p := p1) h4.1 h3.1 (fun h => hnz ⟨h.2, h.1⟩)
  rw [hw0, hw1] at N9 lf kE7
  simp only [optV] at N9 lf
  obtain ⟨s0, r0, x0, c0, d0, b0⟩ := since_max (x := 0) hak ha0 ha hw (.inl rfl) hp hs
  obtain ⟨s1, r1, x1, c1, d1, b1⟩ := since_max (x := 1) hak ha0 ha hw (.inr rfl) hp hs
  obtain ⟨ini, le, nle, te0, te1, rfl, hle⟩ := ends_last kE7 (by omega) r0 r1
  refine wpAny_execs_cons (st10 B X T F9 N9 (lf _ kc7) hoc5 (lf _ kev7) (kD7.mono lf) (by omega) x0 x1 ?_)
  intro la tl0 tl1 n10 nw h10 tk10 F10 N10 hnw
  show wpAny _ _ (execs (lawS 11 :: _) _) _ _ _
  clear F9 N9
  have lg : ∀ p ∈ T7, p ∈ (la, listOf #[.int s0 tl0, .int s1 tl1] n10) :: nw := fun p hp => List.mem_cons_of_mem _ (hnw p (lf p hp))
  have lw : (W, listOf #[.int w0 u0, .int w1 u1] n8) ∈ (la, listOf #[.int s0 tl0, .int s1 tl1] n10) :: nw := List.mem_cons_of_mem _ (hnw _ List.mem_cons_self)
  have g3 : ∀ (x : Str) (v v' v'' v3 : Value), x ≠ Str.ofString "last" → x ≠ Str.ofString "waits" → x ≠ Str.ofString "ends" → m x = some v → (fun y => if y = Str.ofString "last" then some v3 else if y = Str.ofString "waits" then some v'' else if y = Str.ofString "ends" then some v' else m y) x = some v := fun x v v' v'' v3 hz hy hx e => by simp only [hx, hy, hz, if_false]; exact e
  have k3 := g3 _ _ (.ref en) (.ref W) (.ref la) (by decide +kernel) (by decide +kernel) (by decide +kernel) m3
  have k4 := g3 _ _ (.ref en) (.ref W) (.ref la) (by decide +kernel) (by decide +kernel) (by decide +kernel) m4
  have k1 := g3 _ _ (.ref en) (.ref W) (.ref la) (by decide +kernel) (by decide +kernel) (by decide +kernel) m1
  have k2 := g3 _ _ (.ref en) (.ref W) (.ref la) (by decide +kernel) (by decide +kernel) (by decide +kernel) m2
  have k5 : (fun y => if y = Str.ofString "last" then some (.ref la) else if y = Str.ofString "waits" then some (.ref W) else if y = Str.ofString "ends" then some (.ref en) else m y) (Str.ofString "waits") = some (.ref W) := by
    show (if _ then _ else _) = _
    rw [if_neg (by decide +kernel)]; exact if_pos rfl
  have k6 : (fun y => if y = Str.ofString "last" then some (.ref la) else if y = Str.ofString "waits" then some (.ref W) else if y = Str.ofString "ends" then some (.ref en) else m y) (Str.ofString "ends") = some (.ref en) := by
    show (if _ then _ else _) = _
    rw [if_neg (by decide +kernel), if_neg (by decide +kernel)]; exact if_pos rfl
  have k7 : (fun y => if y = Str.ofString "last" then some (.ref la) else if y = Str.ofString "waits" then some (.ref W) else if y = Str.ofString "ends" then some (.ref en) else m y) (Str.ofString "last") = some (.ref la) := if_pos rfl
  generalize (fun y => if y = Str.ofString "last" then some (Value.ref la) else if y = Str.ofString "waits" then some (.ref W) else if y = Str.ofString "ends" then some (.ref en) else m y) = mm at F10 k1 k2 k3 k4 k5 k6 k7
  clear g3 g2
  refine wpAny_execs_cons (st11 B X T hE F10 N10 k3 k4 k5 k6 k7 (lg _ ktt7) (lg _ kpp7) lw List.mem_cons_self (lg _ ken7) (lg _ hle) h1 h2 h3 h4 hnz b0 b1 hw0 hw1 rfl rfl ?_)
  intro m11 h11 tk11 hm11 F11 N11
  show wpAny _ _ (execs (lawS 12 :: _) _) _ _ _
  clear F10 N10
  have q1 := (hm11 (Str.ofString "asks") (by decide +kernel)).trans k1
  have q2 := (hm11 (Str.ofString "way") (by decide +kernel)).trans k2
  have q5 := (hm11 (Str.ofString "waits") (by decide +kernel)).trans k5
  have q6 := (hm11 (Str.ofString "ends") (by decide +kernel)).trans k6
  refine wpAny_execs_cons (st12 B X T F11 N11 q5 q6 lw (lg _ ken7) (lg _ hle) ?_)
  intro ta12 h12 tk12 F12 N12
  show wpAny _ _ (execs (lawS 13 :: _) _) _ _ _
  clear F11 N11
  refine wpAny_execs_cons (st13 B X T F12 N12 (by rw [if_neg (by decide +kernel)]; exact q1) (by rw [if_neg (by decide +kernel)]; exact q2) (if_pos rfl) (lg _ kq7) (kA7.mono lg) ha0 ha hw (fun a ha => ?_) ?_ (fun ml hml => ?_) fun m' h' tk F' => h m' h' tk F')
  · obtain ⟨_, _, hbd⟩ := hak.bound
    obtain ⟨_, _, _, c4, c5⟩ := hbd a ha
    omega
  · omega
  · have := apart hak hw c0 d0 c1 d1 hml
    omega
end

section
local macro_rules | `(tactic| walk_at "call ref") => `(tactic| (k_here; (with_reducible show wpAny _ _ (call (Value.ref 173) _ _) _ _ _); k_dflt (refine' drawnU ?kB ?kF ?kX ?kT ?kK ?kN ?kx ?kd ?k0 ?k1 ?k2 ?k3 ?k4 ?k5 ?k6 ?kL ?kU ?_; (case kB => k_asm); (case kF => k_asm); (case kX => k_asm); (case kT => k_asm); (case kK => exact rfl); (case kN => k_asm); (case kx => k_updF); (case kd => k_mem); (case k0 => (show _ ≠ _; omega)); (case k1 => with_reducible assumption); (case k2 => omega); (case k3 => omega); (case k4 => (simp only [List.length_take]; omega)); (case k5 => omega); (case k6 => omega); (case kL => ((try simp only [depth_deeper, depth_in1, depth_under_make, depth_under_kw, depth_caller]); (try dsimp only [ktrTop]); (first | omega | decide))); (case kU => ((try simp only [units_deeper, units_in1]); (try dsimp only [ktrTop]); (first | omega | decide)));  k_whole); intro r' tb' tr' n' h' tk' rlo rhi F' N'; (try dsimp only at N'); refine stopIt ?_))
local macro_rules | `(tactic| walk_at "subscriptTail") => `(tactic| (k_here; (with_reducible show wpAny _ _ (subscriptTail (PySem.Expr.List _ _) _ (Value.ref _) (Value.int _ _)) _ _ _); k_dflt (refine' item_menu ?N ?m ?hi ?a ?b ?c ?hb ?_; (case N => k_asm); (case m => k_mem); (case hi => l_ints); (case a => omega); (case b => (simp only [List.length_cons, List.length_nil]; omega)); (case c => omega); (case hb => decide); k_whole); intro iM' tM' hM' loM' hiM'))

local macro_rules | `(tactic| walk_at "call type:range") => `(tactic| (k_here; k_dflt (refine' my_range ?F ?N ?_; (case F => k_asm); (case N => k_asm); k_whole); intro r' t0' v0' h' tk' F' N' l1; (try k_lt l1)))
local macro_rules | `(tactic| walk_at "pyIter ref") => `(tactic| ((with_reducible show wpAny _ _ (pyIter (Value.ref _)) (fun it s₂ => LoopAtT _ _ _ _ _ _ _ _ _ it s₂) _ _); refine stopIt ?_))
local macro_rules | `(tactic| walk_at "exec For Name Call cons nil") => `(tactic| (k_here; (rename Fr _ _ _ _ => lF'); (with_unfolding_all refine For_invTF lF' ?_ (by intro _; rfl))))
local macro_rules | `(tactic| walk_at "call builtin:list.append") => `(tactic| (k_here; (with_reducible show wpAny _ _ (call (Value.builtin "list.append") [Value.ref _, _]) _ _ _); k_dflt (refine' my_append ?F ?N ?U ?f ?_; (case F => k_asm); (case N => k_asm); (case U => k_upd); (case f => ((try simp only [Array.size_push, List.size_toArray, List.length_append, List.length_cons, List.length_nil]); omega)); intro h' F' N')))
theorem law1 : PySem.Challenge.rw_sj0106_01.Holds := by
  w_on
  refine holds_law hd.said fun said => ?_
  refine holds_open (q := hd.view_39) (loose := []) (Xt := fun s => xlAt hd.view_39 [] s && recOk (RowW.records PySem.Challenge.rw_sj0106_01.row.toRowW) s) (XP := XL hd.view_39 []) (Yf := hd.K.obs) (Ya := hd.K.val) (YP := hd.K.says) (N := 2496) hd.left hd.K.of hd.K.keeps (fun s e => xl_of s (Bool.and_eq_true_iff.mp e).1) XL.keeps (by rfl) (by rfl) (by rfl) (fun s e => recFacts_of (Bool.and_eq_true_iff.mp e).2) (by rfl) (by decide +kernel) (by decide +kernel) ⟨rfl, rfl, rfl, rfl, rfl, by decide +kernel⟩ ?headw ?headc
  case headw => w_witness2
  k_fill
  intro w s₀ s₁ mg mb G Y fa o pm cd doc dV kV ho hde hcd hD hmg hg args vals as hpre hlay hrd hwl hlo
  have KX := kIn_of Y
  have X := (Ground.X G).1
  have V := (Ground.X G).2
  have GL := glob_more (Ground.glob G (by decide +kernel) (by decide +kernel)) V
  refine Ground.open G ?_
  intro T B D TE TW
  refine guard_noD D (by decide +kernel) ?_
  clear D
  obtain ⟨_, _, M⟩ := bmod_of_top T
  have TA := at_of_top T
  try (obtain ⟨_, _, he, B0⟩ := based_of_top T rfl hmg ho hde; have he' : cd = _ := he; subst he'; clear he)
  clear hmg
  wrow_args hpre hlay hrd hwl hlo
  first | refine callC_kw (enter_call ?_) | refine enter_call ?_ | refine callC_kw (enter_callW ?_) | refine enter_callW ?_
  w_top on
  try refine codeAny_mono ?_ (fun _ _ g => GoodW.toG g)
  have K0 := below_caller (Top.heap T)
  w_call any ho hde hcd hD T F
  clear hde TA
  k_drop
  have hMk := kstMark
  k_steps
  (with_reducible show Stop _; unfold Stop)
  k_steps
  (with_reducible show Stop _; unfold Stop)
  k_steps
  (with_reducible show Stop _; unfold Stop)
  k_steps
  (with_reducible show Stop _; unfold Stop)
  k_steps
  (with_reducible show Stop _; unfold Stop)
  k_steps
  (with_reducible show Stop _; unfold Stop)
  k_steps
  (with_reducible show Stop _; unfold Stop)
  (rename News _ _ _ _ => N9; rename Fr _ _ _ _ => F9)
  refine ask_iter2 (by rfl) (by omega) (by omega) (by omega) F9 N9 ?hb ?hq ?hbq (by rfl) ?turn ?done
  case hb => k_all
  case hq => k_all
  case hbq => (show _ ≠ _; omega)
  case turn =>
    clear F9 N9
    intro i u m₁ asks t tt k tk nb vs na T I oI s₁ a1 a2 a3 a4 a5 a6 hTT x1 x2 hT hTb hTq hTI hbI hqI hA hvl F2 N2
    have hl1 := hT _ List.mem_cons_self
    have hl2 := hTb _ hl1
    have hl3 := hTq _ hl1
    (try dsimp only at hl2 hl3)
    k_steps
    (with_reducible show Stop _; unfold Stop)
    k_steps
    (with_reducible show Stop _; unfold Stop)
    k_steps
    (with_reducible show Stop _; unfold Stop)
    k_steps
    (rename News _ _ _ _ => N9; rename Fr _ _ _ _ => F9)
    simp only [List.push_toArray] at N9
    refine' ask_end F9 N9 ?mb ?mq ?mI ?mT ?mD ?aD a2 a3 ?hk' a4 ?g0 ?g1 ?s0 ?s1 ?l0 ?l1 hTT hTb hTq hTI hbI hqI hA ?htm ?hm
    case mb => k_mem
    case mq => k_mem
    case mI => k_mem
    case mT => (intro p hp; simp only [List.mem_cons, hp, or_true])
    case mD => k_mem
    case aD => omega
    case hk' => rfl
    case htm => rfl
    case hm => (intro z hz; simp only [List.contains_cons, List.contains_nil, Bool.or_false, Bool.or_eq_false_iff, beq_eq_false_iff_ne, ne_eq] at hz; obtain ⟨z1, z2, z3⟩ := hz; simp only [z1, z2, z3, if_false]; simp [z1, z2, z3])
    all_goals omega
  case done =>
    clear F9 N9
    intro m₁ asks t tt k tk nb vs na T h tk' a1 a2 a3 a4 a5 hTT x1 x2 hT hTb hTq hA F2 N2
    k_dflt (refine' law_tail ?kB ?kX ?kT ?hE F2 N2 ?m1 ?m2 ?m3 ?m4 ?m5 hTb hTq ?hqb (hT _ ?hc) ?hoc (hT _ ?hl0) ?hi ?hns a3 ?hk1 x2 x1 hA a5 a1 a2 ?hw ?h1 ?h2 ?h3 ?h4 ?hma ?hmb ?h)
    case kB => k_asm
    case kX => k_asm
    case kT => k_asm
    case hE => passes_own
    case m1 => rfl
    case m2 => rfl
    case m3 => rfl
    case m4 => rfl
    case m5 => rfl
    case hqb => (show _ ≠ _; omega)
    case hc => exact List.mem_cons_of_mem _ (List.mem_cons_of_mem _ List.mem_cons_self)
    case hoc => assumption
    case hl0 => exact List.mem_cons_self
    case hi => assumption
    case hns => (rw [List.length_take]; omega)
    case hk1 => omega
    case hw => omega
    case h1 => omega
    case h2 => omega
    case h3 => omega
    case h4 => omega
    case hma => assumption
    case hmb => assumption
    case h =>
      intro m' h' tk' F9
      k_steps
end

end
end Mine

theorem PySem.Challenge.cw_sj0106_01_holds : PySem.Challenge.rw_sj0106_01.Holds := by
  exact Mine.law1
