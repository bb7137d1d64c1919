import PyProof.Rows.All
import Wide.All
import OpenK.AllK
import Wide.FinOn
import Lean
import PySem.Challenge.RW_pf0269_01
open PySem PySem.W PyProof.Rows PySem.Calls
set_option Elab.async false
set_option maxRecDepth 100000
set_option maxHeartbeats 8000000
set_option rowWalk.seconds 0
namespace Mine
/-- a def of the text, by its place -/
noncomputable def fnAt (i : Nat) : Option (Arguments × List Stmt × Scope) := match PySem.Challenge.pw_pf0269_01.main.body[i]? with
  | some (.FunctionDef _ a b _ _ _ sc _ _ _) => some (a, b, sc)
  | _ => none
/-- a method, by its class's place and its own -/
noncomputable def methAt (i j : Nat) : Option (Arguments × List Stmt × Scope) := match PySem.Challenge.pw_pf0269_01.main.body[i]? with
  | some (.ClassDef _ _ _ b _ _ _ _ _ _ _) => (match b[j]? with
    | some (.FunctionDef _ a b _ _ _ sc _ _ _) => some (a, b, sc)
    | _ => none)
  | _ => none
noncomputable def lf0 : {x : Arguments × List Stmt × Scope // fnAt 0 = some x} := ⟨(_, _, _), rfl⟩
noncomputable def lf2 : {x : Arguments × List Stmt × Scope // fnAt 2 = some x} := ⟨(_, _, _), rfl⟩
noncomputable def lf6x0 : {x : Arguments × List Stmt × Scope // methAt 6 0 = some x} := ⟨(_, _, _), rfl⟩
noncomputable def lf9x0 : {x : Arguments × List Stmt × Scope // methAt 9 0 = some x} := ⟨(_, _, _), rfl⟩
noncomputable def lf9x1 : {x : Arguments × List Stmt × Scope // methAt 9 1 = some x} := ⟨(_, _, _), rfl⟩
noncomputable def lf9x2 : {x : Arguments × List Stmt × Scope // methAt 9 2 = some x} := ⟨(_, _, _), rfl⟩
noncomputable def lf9x3 : {x : Arguments × List Stmt × Scope // methAt 9 3 = some x} := ⟨(_, _, _), rfl⟩
noncomputable def lf9x4 : {x : Arguments × List Stmt × Scope // methAt 9 4 = some x} := ⟨(_, _, _), rfl⟩
noncomputable def lf9x5 : {x : Arguments × List Stmt × Scope // methAt 9 5 = some x} := ⟨(_, _, _), rfl⟩
noncomputable def lf9x6 : {x : Arguments × List Stmt × Scope // methAt 9 6 = some x} := ⟨(_, _, _), rfl⟩
noncomputable def lf9x7 : {x : Arguments × List Stmt × Scope // methAt 9 7 = some x} := ⟨(_, _, _), rfl⟩
noncomputable def lf9x8 : {x : Arguments × List Stmt × Scope // methAt 9 8 = some x} := ⟨(_, _, _), rfl⟩
noncomputable def lf9x9 : {x : Arguments × List Stmt × Scope // methAt 9 9 = some x} := ⟨(_, _, _), rfl⟩
noncomputable def lf9x10 : {x : Arguments × List Stmt × Scope // methAt 9 10 = some x} := ⟨(_, _, _), rfl⟩
noncomputable def lf9x11 : {x : Arguments × List Stmt × Scope // methAt 9 11 = some x} := ⟨(_, _, _), rfl⟩
noncomputable def lf12x0 : {x : Arguments × List Stmt × Scope // methAt 12 0 = some x} := ⟨(_, _, _), rfl⟩
noncomputable def lf14x0 : {x : Arguments × List Stmt × Scope // methAt 14 0 = some x} := ⟨(_, _, _), rfl⟩
noncomputable def lf14x1 : {x : Arguments × List Stmt × Scope // methAt 14 1 = some x} := ⟨(_, _, _), rfl⟩
noncomputable def lf14x2 : {x : Arguments × List Stmt × Scope // methAt 14 2 = some x} := ⟨(_, _, _), rfl⟩
noncomputable def lf14x3 : {x : Arguments × List Stmt × Scope // methAt 14 3 = some x} := ⟨(_, _, _), rfl⟩
noncomputable def lf14x4 : {x : Arguments × List Stmt × Scope // methAt 14 4 = some x} := ⟨(_, _, _), rfl⟩
noncomputable def lf14x5 : {x : Arguments × List Stmt × Scope // methAt 14 5 = some x} := ⟨(_, _, _), rfl⟩
noncomputable def lf14x6 : {x : Arguments × List Stmt × Scope // methAt 14 6 = some x} := ⟨(_, _, _), rfl⟩
noncomputable def lf14x7 : {x : Arguments × List Stmt × Scope // methAt 14 7 = some x} := ⟨(_, _, _), rfl⟩
noncomputable def lf14x8 : {x : Arguments × List Stmt × Scope // methAt 14 8 = some x} := ⟨(_, _, _), rfl⟩
noncomputable def lf14x9 : {x : Arguments × List Stmt × Scope // methAt 14 9 = some x} := ⟨(_, _, _), rfl⟩
noncomputable def lf14x10 : {x : Arguments × List Stmt × Scope // methAt 14 10 = some x} := ⟨(_, _, _), rfl⟩
noncomputable def lf14x11 : {x : Arguments × List Stmt × Scope // methAt 14 11 = some x} := ⟨(_, _, _), rfl⟩
noncomputable def lf14x12 : {x : Arguments × List Stmt × Scope // methAt 14 12 = some x} := ⟨(_, _, _), rfl⟩
noncomputable def lf14x13 : {x : Arguments × List Stmt × Scope // methAt 14 13 = some x} := ⟨(_, _, _), rfl⟩
noncomputable def lf14x14 : {x : Arguments × List Stmt × Scope // methAt 14 14 = some x} := ⟨(_, _, _), rfl⟩
noncomputable def lf14x15 : {x : Arguments × List Stmt × Scope // methAt 14 15 = some x} := ⟨(_, _, _), rfl⟩
noncomputable def lf14x16 : {x : Arguments × List Stmt × Scope // methAt 14 16 = some x} := ⟨(_, _, _), rfl⟩
noncomputable def lf14x17 : {x : Arguments × List Stmt × Scope // methAt 14 17 = some x} := ⟨(_, _, _), rfl⟩
noncomputable def lf14x18 : {x : Arguments × List Stmt × Scope // methAt 14 18 = some x} := ⟨(_, _, _), rfl⟩
noncomputable def lf16 : {x : Arguments × List Stmt × Scope // fnAt 16 = some x} := ⟨(_, _, _), rfl⟩
noncomputable def lf17 : {x : Arguments × List Stmt × Scope // fnAt 17 = some x} := ⟨(_, _, _), rfl⟩

noncomputable def ob21 : {o : Obj // o = ({ cls := PySem.Value.type "function", data := PySem.Data.func { name := PySem.Str.ofString "_wall", qualname := PySem.Str.ofString "_wall", params := lf0.1.1, body := PySem.FuncBody.stmts lf0.1.2.1, scope := lf0.1.2.2, globals := 3, closure := [], defaults := PySem.Value.none, kwdefaults := PySem.Value.none, pyModule := PySem.Value.str (PySem.Str.ofString "__main__") 164, code := PySem.Value.ref 20 } } : Obj)} := by
  refine' ⟨_, ?h⟩
  case h => (dsimp only [lf0]; exact rfl)
noncomputable def ob28 : {o : Obj // o = ({ cls := PySem.Value.type "function", data := PySem.Data.func { name := PySem.Str.ofString "learn_peer", qualname := PySem.Str.ofString "learn_peer", params := lf2.1.1, body := PySem.FuncBody.stmts lf2.1.2.1, scope := lf2.1.2.2, globals := 3, closure := [], defaults := PySem.Value.none, kwdefaults := PySem.Value.none, pyModule := PySem.Value.str (PySem.Str.ofString "quic.connin") 194, code := PySem.Value.ref 27 } } : Obj)} := by
  refine' ⟨_, ?h⟩
  case h => (dsimp only [lf2]; exact rfl)
noncomputable def ob42 : {o : Obj // o = ({ cls := PySem.Value.type "function", data := PySem.Data.func { name := PySem.Str.ofString "__init__", qualname := PySem.Str.ofString "QuicError.__init__", params := lf6x0.1.1, body := PySem.FuncBody.stmts lf6x0.1.2.1, scope := lf6x0.1.2.2, globals := 3, closure := [], defaults := PySem.Value.none, kwdefaults := PySem.Value.none, pyModule := PySem.Value.str (PySem.Str.ofString "quic.errors") 204, code := PySem.Value.ref 41 } } : Obj)} := by
  refine' ⟨_, ?h⟩
  case h => (dsimp only [lf6x0]; exact rfl)
noncomputable def ob62 : {o : Obj // o = ({ cls := PySem.Value.type "function", data := PySem.Data.func { name := PySem.Str.ofString "__init__", qualname := PySem.Str.ofString "RemoteIds.__init__", params := lf9x0.1.1, body := PySem.FuncBody.stmts lf9x0.1.2.1, scope := lf9x0.1.2.2, globals := 3, closure := [], defaults := PySem.Value.none, kwdefaults := PySem.Value.none, pyModule := PySem.Value.str (PySem.Str.ofString "quic.cids") 243, code := PySem.Value.ref 61 } } : Obj)} := by
  refine' ⟨_, ?h⟩
  case h => (dsimp only [lf9x0]; exact rfl)
noncomputable def ob69 : {o : Obj // o = ({ cls := PySem.Value.type "function", data := PySem.Data.func { name := PySem.Str.ofString "set_token", qualname := PySem.Str.ofString "RemoteIds.set_token", params := lf9x1.1.1, body := PySem.FuncBody.stmts lf9x1.1.2.1, scope := lf9x1.1.2.2, globals := 3, closure := [], defaults := PySem.Value.none, kwdefaults := PySem.Value.none, pyModule := PySem.Value.str (PySem.Str.ofString "quic.cids") 243, code := PySem.Value.ref 68 } } : Obj)} := by
  refine' ⟨_, ?h⟩
  case h => (dsimp only [lf9x1]; exact rfl)
noncomputable def ob76 : {o : Obj // o = ({ cls := PySem.Value.type "function", data := PySem.Data.func { name := PySem.Str.ofString "check_new", qualname := PySem.Str.ofString "RemoteIds.check_new", params := lf9x2.1.1, body := PySem.FuncBody.stmts lf9x2.1.2.1, scope := lf9x2.1.2.2, globals := 3, closure := [], defaults := PySem.Value.none, kwdefaults := PySem.Value.none, pyModule := PySem.Value.str (PySem.Str.ofString "quic.cids") 243, code := PySem.Value.ref 75 } } : Obj)} := by
  refine' ⟨_, ?h⟩
  case h => (dsimp only [lf9x2]; exact rfl)
noncomputable def ob83 : {o : Obj // o = ({ cls := PySem.Value.type "function", data := PySem.Data.func { name := PySem.Str.ofString "on_new", qualname := PySem.Str.ofString "RemoteIds.on_new", params := lf9x3.1.1, body := PySem.FuncBody.stmts lf9x3.1.2.1, scope := lf9x3.1.2.2, globals := 3, closure := [], defaults := PySem.Value.none, kwdefaults := PySem.Value.none, pyModule := PySem.Value.str (PySem.Str.ofString "quic.cids") 243, code := PySem.Value.ref 82 } } : Obj)} := by
  refine' ⟨_, ?h⟩
  case h => (dsimp only [lf9x3]; exact rfl)
noncomputable def ob90 : {o : Obj // o = ({ cls := PySem.Value.type "function", data := PySem.Data.func { name := PySem.Str.ofString "retire_below", qualname := PySem.Str.ofString "RemoteIds.retire_below", params := lf9x4.1.1, body := PySem.FuncBody.stmts lf9x4.1.2.1, scope := lf9x4.1.2.2, globals := 3, closure := [], defaults := PySem.Value.none, kwdefaults := PySem.Value.none, pyModule := PySem.Value.str (PySem.Str.ofString "quic.cids") 243, code := PySem.Value.ref 89 } } : Obj)} := by
  refine' ⟨_, ?h⟩
  case h => (dsimp only [lf9x4]; exact rfl)
noncomputable def ob97 : {o : Obj // o = ({ cls := PySem.Value.type "function", data := PySem.Data.func { name := PySem.Str.ofString "retire", qualname := PySem.Str.ofString "RemoteIds.retire", params := lf9x5.1.1, body := PySem.FuncBody.stmts lf9x5.1.2.1, scope := lf9x5.1.2.2, globals := 3, closure := [], defaults := PySem.Value.none, kwdefaults := PySem.Value.none, pyModule := PySem.Value.str (PySem.Str.ofString "quic.cids") 243, code := PySem.Value.ref 96 } } : Obj)} := by
  refine' ⟨_, ?h⟩
  case h => (dsimp only [lf9x5]; exact rfl)
noncomputable def ob104 : {o : Obj // o = ({ cls := PySem.Value.type "function", data := PySem.Data.func { name := PySem.Str.ofString "use", qualname := PySem.Str.ofString "RemoteIds.use", params := lf9x6.1.1, body := PySem.FuncBody.stmts lf9x6.1.2.1, scope := lf9x6.1.2.2, globals := 3, closure := [], defaults := PySem.Value.none, kwdefaults := PySem.Value.none, pyModule := PySem.Value.str (PySem.Str.ofString "quic.cids") 243, code := PySem.Value.ref 103 } } : Obj)} := by
  refine' ⟨_, ?h⟩
  case h => (dsimp only [lf9x6]; exact rfl)
noncomputable def ob111 : {o : Obj // o = ({ cls := PySem.Value.type "function", data := PySem.Data.func { name := PySem.Str.ofString "present", qualname := PySem.Str.ofString "RemoteIds.present", params := lf9x7.1.1, body := PySem.FuncBody.stmts lf9x7.1.2.1, scope := lf9x7.1.2.2, globals := 3, closure := [], defaults := PySem.Value.none, kwdefaults := PySem.Value.none, pyModule := PySem.Value.str (PySem.Str.ofString "quic.cids") 243, code := PySem.Value.ref 110 } } : Obj)} := by
  refine' ⟨_, ?h⟩
  case h => (dsimp only [lf9x7]; exact rfl)
noncomputable def ob116 : {o : Obj // o = ({ cls := PySem.Value.type "function", data := PySem.Data.func { name := PySem.Str.ofString "fresh", qualname := PySem.Str.ofString "RemoteIds.fresh", params := lf9x8.1.1, body := PySem.FuncBody.stmts lf9x8.1.2.1, scope := lf9x8.1.2.2, globals := 3, closure := [], defaults := PySem.Value.none, kwdefaults := PySem.Value.none, pyModule := PySem.Value.str (PySem.Str.ofString "quic.cids") 243, code := PySem.Value.ref 115 } } : Obj)} := by
  refine' ⟨_, ?h⟩
  case h => (dsimp only [lf9x8]; exact rfl)
noncomputable def ob123 : {o : Obj // o = ({ cls := PySem.Value.type "function", data := PySem.Data.func { name := PySem.Str.ofString "change", qualname := PySem.Str.ofString "RemoteIds.change", params := lf9x9.1.1, body := PySem.FuncBody.stmts lf9x9.1.2.1, scope := lf9x9.1.2.2, globals := 3, closure := [], defaults := PySem.Value.none, kwdefaults := PySem.Value.none, pyModule := PySem.Value.str (PySem.Str.ofString "quic.cids") 243, code := PySem.Value.ref 122 } } : Obj)} := by
  refine' ⟨_, ?h⟩
  case h => (dsimp only [lf9x9]; exact rfl)
noncomputable def ob130 : {o : Obj // o = ({ cls := PySem.Value.type "function", data := PySem.Data.func { name := PySem.Str.ofString "frames", qualname := PySem.Str.ofString "RemoteIds.frames", params := lf9x10.1.1, body := PySem.FuncBody.stmts lf9x10.1.2.1, scope := lf9x10.1.2.2, globals := 3, closure := [], defaults := PySem.Value.none, kwdefaults := PySem.Value.none, pyModule := PySem.Value.str (PySem.Str.ofString "quic.cids") 243, code := PySem.Value.ref 129 } } : Obj)} := by
  refine' ⟨_, ?h⟩
  case h => (dsimp only [lf9x10]; exact rfl)
noncomputable def ob137 : {o : Obj // o = ({ cls := PySem.Value.type "function", data := PySem.Data.func { name := PySem.Str.ofString "is_reset", qualname := PySem.Str.ofString "RemoteIds.is_reset", params := lf9x11.1.1, body := PySem.FuncBody.stmts lf9x11.1.2.1, scope := lf9x11.1.2.2, globals := 3, closure := [], defaults := PySem.Value.none, kwdefaults := PySem.Value.none, pyModule := PySem.Value.str (PySem.Str.ofString "quic.cids") 243, code := PySem.Value.ref 136 } } : Obj)} := by
  refine' ⟨_, ?h⟩
  case h => (dsimp only [lf9x11]; exact rfl)
noncomputable def ob158 : {o : Obj // o = ({ cls := PySem.Value.type "function", data := PySem.Data.func { name := PySem.Str.ofString "__init__", qualname := PySem.Str.ofString "RawPacket.__init__", params := lf12x0.1.1, body := PySem.FuncBody.stmts lf12x0.1.2.1, scope := lf12x0.1.2.2, globals := 3, closure := [], defaults := PySem.Value.none, kwdefaults := PySem.Value.none, pyModule := PySem.Value.str (PySem.Str.ofString "quic.longheads") 375, code := PySem.Value.ref 157 } } : Obj)} := by
  refine' ⟨_, ?h⟩
  case h => (dsimp only [lf12x0]; exact rfl)
noncomputable def ob179 : {o : Obj // o = ({ cls := PySem.Value.type "function", data := PySem.Data.func { name := PySem.Str.ofString "__init__", qualname := PySem.Str.ofString "Space.__init__", params := lf14x0.1.1, body := PySem.FuncBody.stmts lf14x0.1.2.1, scope := lf14x0.1.2.2, globals := 3, closure := [], defaults := PySem.Value.none, kwdefaults := PySem.Value.none, pyModule := PySem.Value.str (PySem.Str.ofString "quic.spaces") 421, code := PySem.Value.ref 178 } } : Obj)} := by
  refine' ⟨_, ?h⟩
  case h => (dsimp only [lf14x0]; exact rfl)
noncomputable def ob186 : {o : Obj // o = ({ cls := PySem.Value.type "function", data := PySem.Data.func { name := PySem.Str.ofString "is_known", qualname := PySem.Str.ofString "Space.is_known", params := lf14x1.1.1, body := PySem.FuncBody.stmts lf14x1.1.2.1, scope := lf14x1.1.2.2, globals := 3, closure := [], defaults := PySem.Value.none, kwdefaults := PySem.Value.none, pyModule := PySem.Value.str (PySem.Str.ofString "quic.spaces") 421, code := PySem.Value.ref 185 } } : Obj)} := by
  refine' ⟨_, ?h⟩
  case h => (dsimp only [lf14x1]; exact rfl)
noncomputable def ob193 : {o : Obj // o = ({ cls := PySem.Value.type "function", data := PySem.Data.func { name := PySem.Str.ofString "on_received", qualname := PySem.Str.ofString "Space.on_received", params := lf14x2.1.1, body := PySem.FuncBody.stmts lf14x2.1.2.1, scope := lf14x2.1.2.2, globals := 3, closure := [], defaults := PySem.Value.none, kwdefaults := PySem.Value.none, pyModule := PySem.Value.str (PySem.Str.ofString "quic.spaces") 421, code := PySem.Value.ref 192 } } : Obj)} := by
  refine' ⟨_, ?h⟩
  case h => (dsimp only [lf14x2]; exact rfl)
noncomputable def ob200 : {o : Obj // o = ({ cls := PySem.Value.type "function", data := PySem.Data.func { name := PySem.Str.ofString "ack_frame", qualname := PySem.Str.ofString "Space.ack_frame", params := lf14x3.1.1, body := PySem.FuncBody.stmts lf14x3.1.2.1, scope := lf14x3.1.2.2, globals := 3, closure := [], defaults := PySem.Value.none, kwdefaults := PySem.Value.none, pyModule := PySem.Value.str (PySem.Str.ofString "quic.spaces") 421, code := PySem.Value.ref 199 } } : Obj)} := by
  refine' ⟨_, ?h⟩
  case h => (dsimp only [lf14x3]; exact rfl)
noncomputable def ob207 : {o : Obj // o = ({ cls := PySem.Value.type "function", data := PySem.Data.func { name := PySem.Str.ofString "on_ack_sent", qualname := PySem.Str.ofString "Space.on_ack_sent", params := lf14x4.1.1, body := PySem.FuncBody.stmts lf14x4.1.2.1, scope := lf14x4.1.2.2, globals := 3, closure := [], defaults := PySem.Value.none, kwdefaults := PySem.Value.none, pyModule := PySem.Value.str (PySem.Str.ofString "quic.spaces") 421, code := PySem.Value.ref 206 } } : Obj)} := by
  refine' ⟨_, ?h⟩
  case h => (dsimp only [lf14x4]; exact rfl)
noncomputable def ob214 : {o : Obj // o = ({ cls := PySem.Value.type "function", data := PySem.Data.func { name := PySem.Str.ofString "owes_ack", qualname := PySem.Str.ofString "Space.owes_ack", params := lf14x5.1.1, body := PySem.FuncBody.stmts lf14x5.1.2.1, scope := lf14x5.1.2.2, globals := 3, closure := [], defaults := PySem.Value.none, kwdefaults := PySem.Value.none, pyModule := PySem.Value.str (PySem.Str.ofString "quic.spaces") 421, code := PySem.Value.ref 213 } } : Obj)} := by
  refine' ⟨_, ?h⟩
  case h => (dsimp only [lf14x5]; exact rfl)
noncomputable def ob221 : {o : Obj // o = ({ cls := PySem.Value.type "function", data := PySem.Data.func { name := PySem.Str.ofString "take_number", qualname := PySem.Str.ofString "Space.take_number", params := lf14x6.1.1, body := PySem.FuncBody.stmts lf14x6.1.2.1, scope := lf14x6.1.2.2, globals := 3, closure := [], defaults := PySem.Value.none, kwdefaults := PySem.Value.none, pyModule := PySem.Value.str (PySem.Str.ofString "quic.spaces") 421, code := PySem.Value.ref 220 } } : Obj)} := by
  refine' ⟨_, ?h⟩
  case h => (dsimp only [lf14x6]; exact rfl)
noncomputable def ob228 : {o : Obj // o = ({ cls := PySem.Value.type "function", data := PySem.Data.func { name := PySem.Str.ofString "on_sent", qualname := PySem.Str.ofString "Space.on_sent", params := lf14x7.1.1, body := PySem.FuncBody.stmts lf14x7.1.2.1, scope := lf14x7.1.2.2, globals := 3, closure := [], defaults := PySem.Value.none, kwdefaults := PySem.Value.none, pyModule := PySem.Value.str (PySem.Str.ofString "quic.spaces") 421, code := PySem.Value.ref 227 } } : Obj)} := by
  refine' ⟨_, ?h⟩
  case h => (dsimp only [lf14x7]; exact rfl)
noncomputable def ob235 : {o : Obj // o = ({ cls := PySem.Value.type "function", data := PySem.Data.func { name := PySem.Str.ofString "take", qualname := PySem.Str.ofString "Space.take", params := lf14x8.1.1, body := PySem.FuncBody.stmts lf14x8.1.2.1, scope := lf14x8.1.2.2, globals := 3, closure := [], defaults := PySem.Value.none, kwdefaults := PySem.Value.none, pyModule := PySem.Value.str (PySem.Str.ofString "quic.spaces") 421, code := PySem.Value.ref 234 } } : Obj)} := by
  refine' ⟨_, ?h⟩
  case h => (dsimp only [lf14x8]; exact rfl)
noncomputable def ob242 : {o : Obj // o = ({ cls := PySem.Value.type "function", data := PySem.Data.func { name := PySem.Str.ofString "acked_by", qualname := PySem.Str.ofString "Space.acked_by", params := lf14x9.1.1, body := PySem.FuncBody.stmts lf14x9.1.2.1, scope := lf14x9.1.2.2, globals := 3, closure := [], defaults := PySem.Value.none, kwdefaults := PySem.Value.none, pyModule := PySem.Value.str (PySem.Str.ofString "quic.spaces") 421, code := PySem.Value.ref 241 } } : Obj)} := by
  refine' ⟨_, ?h⟩
  case h => (dsimp only [lf14x9]; exact rfl)
noncomputable def ob249 : {o : Obj // o = ({ cls := PySem.Value.type "function", data := PySem.Data.func { name := PySem.Str.ofString "note_acked", qualname := PySem.Str.ofString "Space.note_acked", params := lf14x10.1.1, body := PySem.FuncBody.stmts lf14x10.1.2.1, scope := lf14x10.1.2.2, globals := 3, closure := [], defaults := PySem.Value.none, kwdefaults := PySem.Value.none, pyModule := PySem.Value.str (PySem.Str.ofString "quic.spaces") 421, code := PySem.Value.ref 248 } } : Obj)} := by
  refine' ⟨_, ?h⟩
  case h => (dsimp only [lf14x10]; exact rfl)
noncomputable def ob256 : {o : Obj // o = ({ cls := PySem.Value.type "function", data := PySem.Data.func { name := PySem.Str.ofString "note_ranges", qualname := PySem.Str.ofString "Space.note_ranges", params := lf14x11.1.1, body := PySem.FuncBody.stmts lf14x11.1.2.1, scope := lf14x11.1.2.2, globals := 3, closure := [], defaults := PySem.Value.none, kwdefaults := PySem.Value.none, pyModule := PySem.Value.str (PySem.Str.ofString "quic.spaces") 421, code := PySem.Value.ref 255 } } : Obj)} := by
  refine' ⟨_, ?h⟩
  case h => (dsimp only [lf14x11]; exact rfl)
noncomputable def ob263 : {o : Obj // o = ({ cls := PySem.Value.type "function", data := PySem.Data.func { name := PySem.Str.ofString "is_beyond", qualname := PySem.Str.ofString "Space.is_beyond", params := lf14x12.1.1, body := PySem.FuncBody.stmts lf14x12.1.2.1, scope := lf14x12.1.2.2, globals := 3, closure := [], defaults := PySem.Value.none, kwdefaults := PySem.Value.none, pyModule := PySem.Value.str (PySem.Str.ofString "quic.spaces") 421, code := PySem.Value.ref 262 } } : Obj)} := by
  refine' ⟨_, ?h⟩
  case h => (dsimp only [lf14x12]; exact rfl)
noncomputable def ob270 : {o : Obj // o = ({ cls := PySem.Value.type "function", data := PySem.Data.func { name := PySem.Str.ofString "note_largest", qualname := PySem.Str.ofString "Space.note_largest", params := lf14x13.1.1, body := PySem.FuncBody.stmts lf14x13.1.2.1, scope := lf14x13.1.2.2, globals := 3, closure := [], defaults := PySem.Value.none, kwdefaults := PySem.Value.none, pyModule := PySem.Value.str (PySem.Str.ofString "quic.spaces") 421, code := PySem.Value.ref 269 } } : Obj)} := by
  refine' ⟨_, ?h⟩
  case h => (dsimp only [lf14x13]; exact rfl)
noncomputable def ob277 : {o : Obj // o = ({ cls := PySem.Value.type "function", data := PySem.Data.func { name := PySem.Str.ofString "eliciting_left", qualname := PySem.Str.ofString "Space.eliciting_left", params := lf14x14.1.1, body := PySem.FuncBody.stmts lf14x14.1.2.1, scope := lf14x14.1.2.2, globals := 3, closure := [], defaults := PySem.Value.none, kwdefaults := PySem.Value.none, pyModule := PySem.Value.str (PySem.Str.ofString "quic.spaces") 421, code := PySem.Value.ref 276 } } : Obj)} := by
  refine' ⟨_, ?h⟩
  case h => (dsimp only [lf14x14]; exact rfl)
noncomputable def ob284 : {o : Obj // o = ({ cls := PySem.Value.type "function", data := PySem.Data.func { name := PySem.Str.ofString "bare_numbers", qualname := PySem.Str.ofString "Space.bare_numbers", params := lf14x15.1.1, body := PySem.FuncBody.stmts lf14x15.1.2.1, scope := lf14x15.1.2.2, globals := 3, closure := [], defaults := PySem.Value.none, kwdefaults := PySem.Value.none, pyModule := PySem.Value.str (PySem.Str.ofString "quic.spaces") 421, code := PySem.Value.ref 283 } } : Obj)} := by
  refine' ⟨_, ?h⟩
  case h => (dsimp only [lf14x15]; exact rfl)
noncomputable def ob291 : {o : Obj // o = ({ cls := PySem.Value.type "function", data := PySem.Data.func { name := PySem.Str.ofString "octets_out", qualname := PySem.Str.ofString "Space.octets_out", params := lf14x16.1.1, body := PySem.FuncBody.stmts lf14x16.1.2.1, scope := lf14x16.1.2.2, globals := 3, closure := [], defaults := PySem.Value.none, kwdefaults := PySem.Value.none, pyModule := PySem.Value.str (PySem.Str.ofString "quic.spaces") 421, code := PySem.Value.ref 290 } } : Obj)} := by
  refine' ⟨_, ?h⟩
  case h => (dsimp only [lf14x16]; exact rfl)
noncomputable def ob298 : {o : Obj // o = ({ cls := PySem.Value.type "function", data := PySem.Data.func { name := PySem.Str.ofString "sent_rows", qualname := PySem.Str.ofString "Space.sent_rows", params := lf14x17.1.1, body := PySem.FuncBody.stmts lf14x17.1.2.1, scope := lf14x17.1.2.2, globals := 3, closure := [], defaults := PySem.Value.none, kwdefaults := PySem.Value.none, pyModule := PySem.Value.str (PySem.Str.ofString "quic.spaces") 421, code := PySem.Value.ref 297 } } : Obj)} := by
  refine' ⟨_, ?h⟩
  case h => (dsimp only [lf14x17]; exact rfl)
noncomputable def ob305 : {o : Obj // o = ({ cls := PySem.Value.type "function", data := PySem.Data.func { name := PySem.Str.ofString "forget", qualname := PySem.Str.ofString "Space.forget", params := lf14x18.1.1, body := PySem.FuncBody.stmts lf14x18.1.2.1, scope := lf14x18.1.2.2, globals := 3, closure := [], defaults := PySem.Value.none, kwdefaults := PySem.Value.none, pyModule := PySem.Value.str (PySem.Str.ofString "quic.spaces") 421, code := PySem.Value.ref 304 } } : Obj)} := by
  refine' ⟨_, ?h⟩
  case h => (dsimp only [lf14x18]; exact rfl)
noncomputable def ob319 : {o : Obj // o = ({ cls := PySem.Value.type "function", data := PySem.Data.func { name := PySem.Str.ofString "_law_take", qualname := PySem.Str.ofString "_law_take", params := lf16.1.1, body := PySem.FuncBody.stmts lf16.1.2.1, scope := lf16.1.2.2, globals := 3, closure := [], defaults := PySem.Value.none, kwdefaults := PySem.Value.none, pyModule := PySem.Value.str (PySem.Str.ofString "law_pf0269_01") 611, code := PySem.Value.ref 318 } } : Obj)} := by
  refine' ⟨_, ?h⟩
  case h => (dsimp only [lf16]; exact rfl)
noncomputable def ob326 : {o : Obj // o = ({ cls := PySem.Value.type "function", data := PySem.Data.func { name := PySem.Str.ofString "law", qualname := PySem.Str.ofString "law", params := lf17.1.1, body := PySem.FuncBody.stmts lf17.1.2.1, scope := lf17.1.2.2, globals := 3, closure := [], defaults := PySem.Value.none, kwdefaults := PySem.Value.none, pyModule := PySem.Value.str (PySem.Str.ofString "law_pf0269_01") 611, code := PySem.Value.ref 325 } } : Obj)} := by
  refine' ⟨_, ?h⟩
  case h => (dsimp only [lf17]; exact rfl)
@[reducible] noncomputable def heapK : Params → Frag := fun P =>
  (nat_lit 2, { cls := PySem.Value.none, data := PySem.Data.dict #[{ hash := PySem.PyData.keyHash P (PySem.Str.ofString "type.__subclasses__.Exception.0"), key := PySem.Value.str (PySem.Str.ofString "type.__subclasses__.Exception.0") 239, val := PySem.Value.int 45 0 }, { hash := PySem.PyData.keyHash P (PySem.Str.ofString "type.__subclasses__.Exception.n"), key := PySem.Value.str (PySem.Str.ofString "type.__subclasses__.Exception.n") 240, val := PySem.Value.int 1 0 }] 2 }) ::
  (nat_lit 3, { cls := PySem.Value.type "dict", data := PySem.Data.dict #[{ hash := PySem.PyData.keyHash P (PySem.Str.ofString "__name__"), key := PySem.Value.str (PySem.Str.ofString "__name__") 165, val := PySem.Value.str (PySem.Str.ofString "law_pf0269_01") 611 }, { hash := PySem.PyData.keyHash P (PySem.Str.ofString "__doc__"), key := PySem.Value.str (PySem.Str.ofString "__doc__") 166, val := PySem.Value.none }, { hash := PySem.PyData.keyHash P (PySem.Str.ofString "__package__"), key := PySem.Value.str (PySem.Str.ofString "__package__") 167, val := PySem.Value.none }, { hash := PySem.PyData.keyHash P (PySem.Str.ofString "__loader__"), key := PySem.Value.str (PySem.Str.ofString "__loader__") 168, val := PySem.Value.builtin "__main__.__loader__#opaque" }, { hash := PySem.PyData.keyHash P (PySem.Str.ofString "__spec__"), key := PySem.Value.str (PySem.Str.ofString "__spec__") 169, val := PySem.Value.none }, { hash := PySem.PyData.keyHash P (PySem.Str.ofString "__annotations__"), key := PySem.Value.str (PySem.Str.ofString "__annotations__") 170, val := PySem.Value.ref 6 }, { hash := PySem.PyData.keyHash P (PySem.Str.ofString "__builtins__"), key := PySem.Value.str (PySem.Str.ofString "__builtins__") 171, val := PySem.Value.ref 4 }, { hash := PySem.PyData.keyHash P (PySem.Str.ofString "__file__"), key := PySem.Value.str (PySem.Str.ofString "__file__") 173, val := PySem.Value.str (PySem.Str.ofString "/claim/cut.py") 172 }, { hash := PySem.PyData.keyHash P (PySem.Str.ofString "__cached__"), key := PySem.Value.str (PySem.Str.ofString "__cached__") 174, val := PySem.Value.none }, { hash := PySem.PyData.keyHash P (PySem.Str.ofString "_wall"), key := PySem.Value.str (PySem.Str.ofString "_wall") 193, val := PySem.Value.ref 21 }, { hash := PySem.PyData.keyHash P (PySem.Str.ofString "learn_peer"), key := PySem.Value.str (PySem.Str.ofString "learn_peer") 203, val := PySem.Value.ref 28 }, { hash := PySem.PyData.keyHash P (PySem.Str.ofString "CONNECTION_ID_LIMIT_ERROR"), key := PySem.Value.str (PySem.Str.ofString "CONNECTION_ID_LIMIT_ERROR") 207, val := PySem.Value.int 9 206 }, { hash := PySem.PyData.keyHash P (PySem.Str.ofString "PROTOCOL_VIOLATION"), key := PySem.Value.str (PySem.Str.ofString "PROTOCOL_VIOLATION") 209, val := PySem.Value.int 10 208 }, { hash := PySem.PyData.keyHash P (PySem.Str.ofString "QuicError"), key := PySem.Value.str (PySem.Str.ofString "QuicError") 242, val := PySem.Value.ref 45 }, { hash := PySem.PyData.keyHash P (PySem.Str.ofString "FRAME_NEW"), key := PySem.Value.str (PySem.Str.ofString "FRAME_NEW") 246, val := PySem.Value.int 24 245 }, { hash := PySem.PyData.keyHash P (PySem.Str.ofString "RemoteIds"), key := PySem.Value.str (PySem.Str.ofString "RemoteIds") 374, val := PySem.Value.ref 140 }, { hash := PySem.PyData.keyHash P (PySem.Str.ofString "VERSION_NONE"), key := PySem.Value.str (PySem.Str.ofString "VERSION_NONE") 378, val := PySem.Value.int 0 377 }, { hash := PySem.PyData.keyHash P (PySem.Str.ofString "RawPacket"), key := PySem.Value.str (PySem.Str.ofString "RawPacket") 420, val := PySem.Value.ref 161 }, { hash := PySem.PyData.keyHash P (PySem.Str.ofString "Space"), key := PySem.Value.str (PySem.Str.ofString "Space") 610, val := PySem.Value.ref 308 }, { hash := PySem.PyData.keyHash P (PySem.Str.ofString "_law_take"), key := PySem.Value.str (PySem.Str.ofString "_law_take") 620, val := PySem.Value.ref 319 }, { hash := PySem.PyData.keyHash P (PySem.Str.ofString "law"), key := PySem.Value.str (PySem.Str.ofString "law") 636, val := PySem.Value.ref 326 }] 21 }) ::
  (nat_lit 15, { cls := PySem.Value.type "tuple", data := PySem.Data.seq #[] }) ::
  (nat_lit 17, { cls := PySem.Value.type "tuple", data := PySem.Data.seq #[PySem.Value.str (PySem.Str.ofString "k") 190] }) ::
  (nat_lit 18, { cls := PySem.Value.type "tuple", data := PySem.Data.seq #[] }) ::
  (nat_lit 20, { cls := PySem.Value.type "code", data := PySem.Data.fields #[PySem.Value.str (PySem.Str.ofString "_wall") 187, PySem.Value.str (PySem.Str.ofString "_wall") 188, PySem.Value.str (PySem.Str.ofString "/claim/cut.py") 189, PySem.Value.int 1 0, PySem.Value.int 1 0, PySem.Value.int 0 0, PySem.Value.int 0 0, PySem.Value.int 3 0, PySem.Value.ref 15, PySem.Value.bool Bool.true, PySem.Value.int 181 0, PySem.Value.ref 16, PySem.Value.none, PySem.Value.ref 17, PySem.Value.ref 18, PySem.Value.ref 19, PySem.Value.int 191 0, PySem.Value.int 1 0, PySem.Value.str (PySem.Str.ofString "/claim/cut.py") 192] }) ::
  (nat_lit 21, ob21.1) ::
  (nat_lit 22, { cls := PySem.Value.type "tuple", data := PySem.Data.seq #[] }) ::
  (nat_lit 24, { cls := PySem.Value.type "tuple", data := PySem.Data.seq #[PySem.Value.str (PySem.Str.ofString "conn") 199, PySem.Value.str (PySem.Str.ofString "raw") 200] }) ::
  (nat_lit 25, { cls := PySem.Value.type "tuple", data := PySem.Data.seq #[] }) ::
  (nat_lit 27, { cls := PySem.Value.type "code", data := PySem.Data.fields #[PySem.Value.str (PySem.Str.ofString "learn_peer") 196, PySem.Value.str (PySem.Str.ofString "learn_peer") 197, PySem.Value.str (PySem.Str.ofString "/claim/cut.py") 198, PySem.Value.int 5 0, PySem.Value.int 2 0, PySem.Value.int 0 0, PySem.Value.int 0 0, PySem.Value.int 3 0, PySem.Value.ref 22, PySem.Value.bool Bool.true, PySem.Value.int 181 0, PySem.Value.ref 23, PySem.Value.none, PySem.Value.ref 24, PySem.Value.ref 25, PySem.Value.ref 26, PySem.Value.int 201 0, PySem.Value.int 5 0, PySem.Value.str (PySem.Str.ofString "/claim/cut.py") 202] }) ::
  (nat_lit 28, ob28.1) ::
  (nat_lit 29, { cls := PySem.Value.type "tuple", data := PySem.Data.seq #[PySem.Value.type "Exception"] }) ::
  (nat_lit 36, { cls := PySem.Value.type "tuple", data := PySem.Data.seq #[] }) ::
  (nat_lit 38, { cls := PySem.Value.type "tuple", data := PySem.Data.seq #[PySem.Value.str (PySem.Str.ofString "self") 225, PySem.Value.str (PySem.Str.ofString "code") 226, PySem.Value.str (PySem.Str.ofString "frame_type") 227, PySem.Value.str (PySem.Str.ofString "text") 228] }) ::
  (nat_lit 39, { cls := PySem.Value.type "tuple", data := PySem.Data.seq #[] }) ::
  (nat_lit 41, { cls := PySem.Value.type "code", data := PySem.Data.fields #[PySem.Value.str (PySem.Str.ofString "__init__") 222, PySem.Value.str (PySem.Str.ofString "QuicError.__init__") 223, PySem.Value.str (PySem.Str.ofString "/claim/cut.py") 224, PySem.Value.int 17 0, PySem.Value.int 4 0, PySem.Value.int 0 0, PySem.Value.int 0 0, PySem.Value.int 3 0, PySem.Value.ref 36, PySem.Value.bool Bool.true, PySem.Value.int 181 0, PySem.Value.ref 37, PySem.Value.none, PySem.Value.ref 38, PySem.Value.ref 39, PySem.Value.ref 40, PySem.Value.int 229 0, PySem.Value.int 17 0, PySem.Value.str (PySem.Str.ofString "/claim/cut.py") 230] }) ::
  (nat_lit 42, ob42.1) ::
  (nat_lit 43, { cls := PySem.Value.type "tuple", data := PySem.Data.seq #[PySem.Value.str (PySem.Str.ofString "code") 232, PySem.Value.str (PySem.Str.ofString "frame_type") 233, PySem.Value.str (PySem.Str.ofString "text") 234] }) ::
  (nat_lit 44, { cls := PySem.Value.type "dict", data := PySem.Data.dict #[{ hash := PySem.PyData.keyHash P (PySem.Str.ofString "__module__"), key := PySem.Value.str (PySem.Str.ofString "__module__") 217, val := PySem.Value.str (PySem.Str.ofString "quic.errors") 204 }, { hash := PySem.PyData.keyHash P (PySem.Str.ofString "__firstlineno__"), key := PySem.Value.str (PySem.Str.ofString "__firstlineno__") 221, val := PySem.Value.int 15 220 }, { hash := PySem.PyData.keyHash P (PySem.Str.ofString "__init__"), key := PySem.Value.str (PySem.Str.ofString "__init__") 231, val := PySem.Value.ref 42 }, { hash := PySem.PyData.keyHash P (PySem.Str.ofString "__static_attributes__"), key := PySem.Value.str (PySem.Str.ofString "__static_attributes__") 235, val := PySem.Value.ref 43 }, { hash := PySem.PyData.keyHash P (PySem.Str.ofString "__weakref__"), key := PySem.Value.str (PySem.Str.ofString "__weakref__") 237, val := PySem.Value.ref 46 }, { hash := PySem.PyData.keyHash P (PySem.Str.ofString "__doc__"), key := PySem.Value.str (PySem.Str.ofString "__doc__") 238, val := PySem.Value.none }] 3 }) ::
  (nat_lit 45, { cls := PySem.Value.type "type", data := PySem.Data.cls { name := PySem.Str.ofString "QuicError", bases := [PySem.Value.type "Exception"], mro := [PySem.Value.ref 45, PySem.Value.type "Exception", PySem.Value.type "BaseException", PySem.Value.type "object"], ns := 44, qualname := PySem.Str.ofString "QuicError" }, slots := #[Option.some (PySem.Value.ref 29), Option.none, Option.some (PySem.Value.str (PySem.Str.ofString "QuicError") 210), Option.some (PySem.Value.str (PySem.Str.ofString "QuicError") 218), Option.some (PySem.Value.builtin "Exception.__new__"), Option.some (PySem.Value.bool Bool.true)] }) ::
  (nat_lit 46, { cls := PySem.Value.type "getset_descriptor", data := PySem.Data.fields #[PySem.Value.str (PySem.Str.ofString "__weakref__") 236, PySem.Value.ref 45, PySem.Value.builtin "ExceptionGroup.__weakref__", PySem.Value.none] }) ::
  (nat_lit 56, { cls := PySem.Value.type "tuple", data := PySem.Data.seq #[] }) ::
  (nat_lit 58, { cls := PySem.Value.type "tuple", data := PySem.Data.seq #[PySem.Value.str (PySem.Str.ofString "self") 262, PySem.Value.str (PySem.Str.ofString "first") 263, PySem.Value.str (PySem.Str.ofString "token") 264, PySem.Value.str (PySem.Str.ofString "limit") 265] }) ::
  (nat_lit 59, { cls := PySem.Value.type "tuple", data := PySem.Data.seq #[] }) ::
  (nat_lit 61, { cls := PySem.Value.type "code", data := PySem.Data.fields #[PySem.Value.str (PySem.Str.ofString "__init__") 259, PySem.Value.str (PySem.Str.ofString "RemoteIds.__init__") 260, PySem.Value.str (PySem.Str.ofString "/claim/cut.py") 261, PySem.Value.int 26 0, PySem.Value.int 4 0, PySem.Value.int 0 0, PySem.Value.int 0 0, PySem.Value.int 3 0, PySem.Value.ref 56, PySem.Value.bool Bool.true, PySem.Value.int 181 0, PySem.Value.ref 57, PySem.Value.none, PySem.Value.ref 58, PySem.Value.ref 59, PySem.Value.ref 60, PySem.Value.int 266 0, PySem.Value.int 26 0, PySem.Value.str (PySem.Str.ofString "/claim/cut.py") 267] }) ::
  (nat_lit 62, ob62.1) ::
  (nat_lit 63, { cls := PySem.Value.type "tuple", data := PySem.Data.seq #[] }) ::
  (nat_lit 65, { cls := PySem.Value.type "tuple", data := PySem.Data.seq #[PySem.Value.str (PySem.Str.ofString "self") 272, PySem.Value.str (PySem.Str.ofString "token") 273] }) ::
  (nat_lit 66, { cls := PySem.Value.type "tuple", data := PySem.Data.seq #[] }) ::
  (nat_lit 68, { cls := PySem.Value.type "code", data := PySem.Data.fields #[PySem.Value.str (PySem.Str.ofString "set_token") 269, PySem.Value.str (PySem.Str.ofString "RemoteIds.set_token") 270, PySem.Value.str (PySem.Str.ofString "/claim/cut.py") 271, PySem.Value.int 36 0, PySem.Value.int 2 0, PySem.Value.int 0 0, PySem.Value.int 0 0, PySem.Value.int 3 0, PySem.Value.ref 63, PySem.Value.bool Bool.true, PySem.Value.int 181 0, PySem.Value.ref 64, PySem.Value.none, PySem.Value.ref 65, PySem.Value.ref 66, PySem.Value.ref 67, PySem.Value.int 274 0, PySem.Value.int 36 0, PySem.Value.str (PySem.Str.ofString "/claim/cut.py") 275] }) ::
  (nat_lit 69, ob69.1) ::
  (nat_lit 70, { cls := PySem.Value.type "tuple", data := PySem.Data.seq #[] }) ::
  (nat_lit 72, { cls := PySem.Value.type "tuple", data := PySem.Data.seq #[PySem.Value.str (PySem.Str.ofString "self") 280, PySem.Value.str (PySem.Str.ofString "number") 281, PySem.Value.str (PySem.Str.ofString "cid") 282, PySem.Value.str (PySem.Str.ofString "token") 283, PySem.Value.str (PySem.Str.ofString "other") 284] }) ::
  (nat_lit 73, { cls := PySem.Value.type "tuple", data := PySem.Data.seq #[] }) ::
  (nat_lit 75, { cls := PySem.Value.type "code", data := PySem.Data.fields #[PySem.Value.str (PySem.Str.ofString "check_new") 277, PySem.Value.str (PySem.Str.ofString "RemoteIds.check_new") 278, PySem.Value.str (PySem.Str.ofString "/claim/cut.py") 279, PySem.Value.int 39 0, PySem.Value.int 4 0, PySem.Value.int 0 0, PySem.Value.int 0 0, PySem.Value.int 3 0, PySem.Value.ref 70, PySem.Value.bool Bool.true, PySem.Value.int 181 0, PySem.Value.ref 71, PySem.Value.none, PySem.Value.ref 72, PySem.Value.ref 73, PySem.Value.ref 74, PySem.Value.int 285 0, PySem.Value.int 39 0, PySem.Value.str (PySem.Str.ofString "/claim/cut.py") 286] }) ::
  (nat_lit 76, ob76.1) ::
  (nat_lit 77, { cls := PySem.Value.type "tuple", data := PySem.Data.seq #[] }) ::
  (nat_lit 79, { cls := PySem.Value.type "tuple", data := PySem.Data.seq #[PySem.Value.str (PySem.Str.ofString "self") 291, PySem.Value.str (PySem.Str.ofString "number") 292, PySem.Value.str (PySem.Str.ofString "prior") 293, PySem.Value.str (PySem.Str.ofString "cid") 294, PySem.Value.str (PySem.Str.ofString "token") 295] }) ::
  (nat_lit 80, { cls := PySem.Value.type "tuple", data := PySem.Data.seq #[] }) ::
  (nat_lit 82, { cls := PySem.Value.type "code", data := PySem.Data.fields #[PySem.Value.str (PySem.Str.ofString "on_new") 288, PySem.Value.str (PySem.Str.ofString "RemoteIds.on_new") 289, PySem.Value.str (PySem.Str.ofString "/claim/cut.py") 290, PySem.Value.int 51 0, PySem.Value.int 5 0, PySem.Value.int 0 0, PySem.Value.int 0 0, PySem.Value.int 3 0, PySem.Value.ref 77, PySem.Value.bool Bool.true, PySem.Value.int 181 0, PySem.Value.ref 78, PySem.Value.none, PySem.Value.ref 79, PySem.Value.ref 80, PySem.Value.ref 81, PySem.Value.int 296 0, PySem.Value.int 51 0, PySem.Value.str (PySem.Str.ofString "/claim/cut.py") 297] }) ::
  (nat_lit 83, ob83.1) ::
  (nat_lit 84, { cls := PySem.Value.type "tuple", data := PySem.Data.seq #[] }) ::
  (nat_lit 86, { cls := PySem.Value.type "tuple", data := PySem.Data.seq #[PySem.Value.str (PySem.Str.ofString "self") 302, PySem.Value.str (PySem.Str.ofString "prior") 303, PySem.Value.str (PySem.Str.ofString "number") 304] }) ::
  (nat_lit 87, { cls := PySem.Value.type "tuple", data := PySem.Data.seq #[] }) ::
  (nat_lit 89, { cls := PySem.Value.type "code", data := PySem.Data.fields #[PySem.Value.str (PySem.Str.ofString "retire_below") 299, PySem.Value.str (PySem.Str.ofString "RemoteIds.retire_below") 300, PySem.Value.str (PySem.Str.ofString "/claim/cut.py") 301, PySem.Value.int 65 0, PySem.Value.int 2 0, PySem.Value.int 0 0, PySem.Value.int 0 0, PySem.Value.int 3 0, PySem.Value.ref 84, PySem.Value.bool Bool.true, PySem.Value.int 181 0, PySem.Value.ref 85, PySem.Value.none, PySem.Value.ref 86, PySem.Value.ref 87, PySem.Value.ref 88, PySem.Value.int 305 0, PySem.Value.int 65 0, PySem.Value.str (PySem.Str.ofString "/claim/cut.py") 306] }) ::
  (nat_lit 90, ob90.1) ::
  (nat_lit 91, { cls := PySem.Value.type "tuple", data := PySem.Data.seq #[] }) ::
  (nat_lit 93, { cls := PySem.Value.type "tuple", data := PySem.Data.seq #[PySem.Value.str (PySem.Str.ofString "self") 311, PySem.Value.str (PySem.Str.ofString "number") 312] }) ::
  (nat_lit 94, { cls := PySem.Value.type "tuple", data := PySem.Data.seq #[] }) ::
  (nat_lit 96, { cls := PySem.Value.type "code", data := PySem.Data.fields #[PySem.Value.str (PySem.Str.ofString "retire") 308, PySem.Value.str (PySem.Str.ofString "RemoteIds.retire") 309, PySem.Value.str (PySem.Str.ofString "/claim/cut.py") 310, PySem.Value.int 71 0, PySem.Value.int 2 0, PySem.Value.int 0 0, PySem.Value.int 0 0, PySem.Value.int 3 0, PySem.Value.ref 91, PySem.Value.bool Bool.true, PySem.Value.int 181 0, PySem.Value.ref 92, PySem.Value.none, PySem.Value.ref 93, PySem.Value.ref 94, PySem.Value.ref 95, PySem.Value.int 313 0, PySem.Value.int 71 0, PySem.Value.str (PySem.Str.ofString "/claim/cut.py") 314] }) ::
  (nat_lit 97, ob97.1) ::
  (nat_lit 98, { cls := PySem.Value.type "tuple", data := PySem.Data.seq #[] }) ::
  (nat_lit 100, { cls := PySem.Value.type "tuple", data := PySem.Data.seq #[PySem.Value.str (PySem.Str.ofString "self") 319, PySem.Value.str (PySem.Str.ofString "number") 320] }) ::
  (nat_lit 101, { cls := PySem.Value.type "tuple", data := PySem.Data.seq #[] }) ::
  (nat_lit 103, { cls := PySem.Value.type "code", data := PySem.Data.fields #[PySem.Value.str (PySem.Str.ofString "use") 316, PySem.Value.str (PySem.Str.ofString "RemoteIds.use") 317, PySem.Value.str (PySem.Str.ofString "/claim/cut.py") 318, PySem.Value.int 77 0, PySem.Value.int 2 0, PySem.Value.int 0 0, PySem.Value.int 0 0, PySem.Value.int 3 0, PySem.Value.ref 98, PySem.Value.bool Bool.true, PySem.Value.int 181 0, PySem.Value.ref 99, PySem.Value.none, PySem.Value.ref 100, PySem.Value.ref 101, PySem.Value.ref 102, PySem.Value.int 321 0, PySem.Value.int 77 0, PySem.Value.str (PySem.Str.ofString "/claim/cut.py") 322] }) ::
  (nat_lit 104, ob104.1) ::
  (nat_lit 105, { cls := PySem.Value.type "tuple", data := PySem.Data.seq #[] }) ::
  (nat_lit 107, { cls := PySem.Value.type "tuple", data := PySem.Data.seq #[PySem.Value.str (PySem.Str.ofString "self") 327] }) ::
  (nat_lit 108, { cls := PySem.Value.type "tuple", data := PySem.Data.seq #[] }) ::
  (nat_lit 110, { cls := PySem.Value.type "code", data := PySem.Data.fields #[PySem.Value.str (PySem.Str.ofString "present") 324, PySem.Value.str (PySem.Str.ofString "RemoteIds.present") 325, PySem.Value.str (PySem.Str.ofString "/claim/cut.py") 326, PySem.Value.int 82 0, PySem.Value.int 1 0, PySem.Value.int 0 0, PySem.Value.int 0 0, PySem.Value.int 3 0, PySem.Value.ref 105, PySem.Value.bool Bool.true, PySem.Value.int 181 0, PySem.Value.ref 106, PySem.Value.none, PySem.Value.ref 107, PySem.Value.ref 108, PySem.Value.ref 109, PySem.Value.int 328 0, PySem.Value.int 82 0, PySem.Value.str (PySem.Str.ofString "/claim/cut.py") 329] }) ::
  (nat_lit 111, ob111.1) ::
  (nat_lit 112, { cls := PySem.Value.type "tuple", data := PySem.Data.seq #[] }) ::
  (nat_lit 115, { cls := PySem.Value.type "code", data := PySem.Data.fields #[PySem.Value.str (PySem.Str.ofString "fresh") 331, PySem.Value.str (PySem.Str.ofString "RemoteIds.fresh") 332, PySem.Value.str (PySem.Str.ofString "/claim/cut.py") 333, PySem.Value.int 85 0, PySem.Value.int 1 0, PySem.Value.int 0 0, PySem.Value.int 0 0, PySem.Value.int 3 0, PySem.Value.ref 112, PySem.Value.bool Bool.true, PySem.Value.int 181 0, PySem.Value.ref 113, PySem.Value.none, PySem.Value.none, PySem.Value.none, PySem.Value.ref 114, PySem.Value.int 334 0, PySem.Value.int 85 0, PySem.Value.str (PySem.Str.ofString "/claim/cut.py") 335] }) ::
  (nat_lit 116, ob116.1) ::
  (nat_lit 117, { cls := PySem.Value.type "tuple", data := PySem.Data.seq #[] }) ::
  (nat_lit 119, { cls := PySem.Value.type "tuple", data := PySem.Data.seq #[PySem.Value.str (PySem.Str.ofString "self") 340] }) ::
  (nat_lit 120, { cls := PySem.Value.type "tuple", data := PySem.Data.seq #[] }) ::
  (nat_lit 122, { cls := PySem.Value.type "code", data := PySem.Data.fields #[PySem.Value.str (PySem.Str.ofString "change") 337, PySem.Value.str (PySem.Str.ofString "RemoteIds.change") 338, PySem.Value.str (PySem.Str.ofString "/claim/cut.py") 339, PySem.Value.int 89 0, PySem.Value.int 1 0, PySem.Value.int 0 0, PySem.Value.int 0 0, PySem.Value.int 3 0, PySem.Value.ref 117, PySem.Value.bool Bool.true, PySem.Value.int 181 0, PySem.Value.ref 118, PySem.Value.none, PySem.Value.ref 119, PySem.Value.ref 120, PySem.Value.ref 121, PySem.Value.int 341 0, PySem.Value.int 89 0, PySem.Value.str (PySem.Str.ofString "/claim/cut.py") 342] }) ::
  (nat_lit 123, ob123.1) ::
  (nat_lit 124, { cls := PySem.Value.type "tuple", data := PySem.Data.seq #[] }) ::
  (nat_lit 126, { cls := PySem.Value.type "tuple", data := PySem.Data.seq #[PySem.Value.str (PySem.Str.ofString "self") 347] }) ::
  (nat_lit 127, { cls := PySem.Value.type "tuple", data := PySem.Data.seq #[] }) ::
  (nat_lit 129, { cls := PySem.Value.type "code", data := PySem.Data.fields #[PySem.Value.str (PySem.Str.ofString "frames") 344, PySem.Value.str (PySem.Str.ofString "RemoteIds.frames") 345, PySem.Value.str (PySem.Str.ofString "/claim/cut.py") 346, PySem.Value.int 92 0, PySem.Value.int 1 0, PySem.Value.int 0 0, PySem.Value.int 0 0, PySem.Value.int 3 0, PySem.Value.ref 124, PySem.Value.bool Bool.true, PySem.Value.int 181 0, PySem.Value.ref 125, PySem.Value.none, PySem.Value.ref 126, PySem.Value.ref 127, PySem.Value.ref 128, PySem.Value.int 348 0, PySem.Value.int 92 0, PySem.Value.str (PySem.Str.ofString "/claim/cut.py") 349] }) ::
  (nat_lit 130, ob130.1) ::
  (nat_lit 131, { cls := PySem.Value.type "tuple", data := PySem.Data.seq #[] }) ::
  (nat_lit 133, { cls := PySem.Value.type "tuple", data := PySem.Data.seq #[PySem.Value.str (PySem.Str.ofString "self") 354, PySem.Value.str (PySem.Str.ofString "datagram") 355] }) ::
  (nat_lit 134, { cls := PySem.Value.type "tuple", data := PySem.Data.seq #[] }) ::
  (nat_lit 136, { cls := PySem.Value.type "code", data := PySem.Data.fields #[PySem.Value.str (PySem.Str.ofString "is_reset") 351, PySem.Value.str (PySem.Str.ofString "RemoteIds.is_reset") 352, PySem.Value.str (PySem.Str.ofString "/claim/cut.py") 353, PySem.Value.int 95 0, PySem.Value.int 2 0, PySem.Value.int 0 0, PySem.Value.int 0 0, PySem.Value.int 3 0, PySem.Value.ref 131, PySem.Value.bool Bool.true, PySem.Value.int 181 0, PySem.Value.ref 132, PySem.Value.none, PySem.Value.ref 133, PySem.Value.ref 134, PySem.Value.ref 135, PySem.Value.int 356 0, PySem.Value.int 95 0, PySem.Value.str (PySem.Str.ofString "/claim/cut.py") 357] }) ::
  (nat_lit 137, ob137.1) ::
  (nat_lit 138, { cls := PySem.Value.type "tuple", data := PySem.Data.seq #[PySem.Value.str (PySem.Str.ofString "current") 359, PySem.Value.str (PySem.Str.ofString "is_empty") 360, PySem.Value.str (PySem.Str.ofString "known") 361, PySem.Value.str (PySem.Str.ofString "limit") 362, PySem.Value.str (PySem.Str.ofString "retire_prior") 363, PySem.Value.str (PySem.Str.ofString "to_retire") 364, PySem.Value.str (PySem.Str.ofString "told") 365, PySem.Value.str (PySem.Str.ofString "used") 366] }) ::
  (nat_lit 139, { cls := PySem.Value.type "dict", data := PySem.Data.dict #[{ hash := PySem.PyData.keyHash P (PySem.Str.ofString "__module__"), key := PySem.Value.str (PySem.Str.ofString "__module__") 254, val := PySem.Value.str (PySem.Str.ofString "quic.cids") 243 }, { hash := PySem.PyData.keyHash P (PySem.Str.ofString "__firstlineno__"), key := PySem.Value.str (PySem.Str.ofString "__firstlineno__") 258, val := PySem.Value.int 24 257 }, { hash := PySem.PyData.keyHash P (PySem.Str.ofString "__init__"), key := PySem.Value.str (PySem.Str.ofString "__init__") 268, val := PySem.Value.ref 62 }, { hash := PySem.PyData.keyHash P (PySem.Str.ofString "set_token"), key := PySem.Value.str (PySem.Str.ofString "set_token") 276, val := PySem.Value.ref 69 }, { hash := PySem.PyData.keyHash P (PySem.Str.ofString "check_new"), key := PySem.Value.str (PySem.Str.ofString "check_new") 287, val := PySem.Value.ref 76 }, { hash := PySem.PyData.keyHash P (PySem.Str.ofString "on_new"), key := PySem.Value.str (PySem.Str.ofString "on_new") 298, val := PySem.Value.ref 83 }, { hash := PySem.PyData.keyHash P (PySem.Str.ofString "retire_below"), key := PySem.Value.str (PySem.Str.ofString "retire_below") 307, val := PySem.Value.ref 90 }, { hash := PySem.PyData.keyHash P (PySem.Str.ofString "retire"), key := PySem.Value.str (PySem.Str.ofString "retire") 315, val := PySem.Value.ref 97 }, { hash := PySem.PyData.keyHash P (PySem.Str.ofString "use"), key := PySem.Value.str (PySem.Str.ofString "use") 323, val := PySem.Value.ref 104 }, { hash := PySem.PyData.keyHash P (PySem.Str.ofString "present"), key := PySem.Value.str (PySem.Str.ofString "present") 330, val := PySem.Value.ref 111 }, { hash := PySem.PyData.keyHash P (PySem.Str.ofString "fresh"), key := PySem.Value.str (PySem.Str.ofString "fresh") 336, val := PySem.Value.ref 116 }, { hash := PySem.PyData.keyHash P (PySem.Str.ofString "change"), key := PySem.Value.str (PySem.Str.ofString "change") 343, val := PySem.Value.ref 123 }, { hash := PySem.PyData.keyHash P (PySem.Str.ofString "frames"), key := PySem.Value.str (PySem.Str.ofString "frames") 350, val := PySem.Value.ref 130 }, { hash := PySem.PyData.keyHash P (PySem.Str.ofString "is_reset"), key := PySem.Value.str (PySem.Str.ofString "is_reset") 358, val := PySem.Value.ref 137 }, { hash := PySem.PyData.keyHash P (PySem.Str.ofString "__static_attributes__"), key := PySem.Value.str (PySem.Str.ofString "__static_attributes__") 367, val := PySem.Value.ref 138 }, { hash := PySem.PyData.keyHash P (PySem.Str.ofString "__dict__"), key := PySem.Value.str (PySem.Str.ofString "__dict__") 369, val := PySem.Value.ref 141 }, { hash := PySem.PyData.keyHash P (PySem.Str.ofString "__weakref__"), key := PySem.Value.str (PySem.Str.ofString "__weakref__") 371, val := PySem.Value.ref 142 }, { hash := PySem.PyData.keyHash P (PySem.Str.ofString "__doc__"), key := PySem.Value.str (PySem.Str.ofString "__doc__") 372, val := PySem.Value.none }] 4 }) ::
  (nat_lit 140, { cls := PySem.Value.type "type", data := PySem.Data.cls { name := PySem.Str.ofString "RemoteIds", bases := [PySem.Value.type "object"], mro := [PySem.Value.ref 140, PySem.Value.type "object"], ns := 139, qualname := PySem.Str.ofString "RemoteIds" }, slots := #[Option.none, Option.none, Option.some (PySem.Value.str (PySem.Str.ofString "RemoteIds") 247), Option.some (PySem.Value.str (PySem.Str.ofString "RemoteIds") 255), Option.some (PySem.Value.builtin "object.__new__"), Option.some (PySem.Value.bool Bool.true)] }) ::
  (nat_lit 141, { cls := PySem.Value.type "getset_descriptor", data := PySem.Data.fields #[PySem.Value.str (PySem.Str.ofString "__dict__") 368, PySem.Value.ref 140, PySem.Value.builtin "function.__dict__", PySem.Value.builtin "function.__dict__#set"] }) ::
  (nat_lit 142, { cls := PySem.Value.type "getset_descriptor", data := PySem.Data.fields #[PySem.Value.str (PySem.Str.ofString "__weakref__") 370, PySem.Value.ref 140, PySem.Value.builtin "ExceptionGroup.__weakref__", PySem.Value.none] }) ::
  (nat_lit 152, { cls := PySem.Value.type "tuple", data := PySem.Data.seq #[] }) ::
  (nat_lit 154, { cls := PySem.Value.type "tuple", data := PySem.Data.seq #[PySem.Value.str (PySem.Str.ofString "self") 394, PySem.Value.str (PySem.Str.ofString "kind") 395, PySem.Value.str (PySem.Str.ofString "first") 396, PySem.Value.str (PySem.Str.ofString "dcid") 397, PySem.Value.str (PySem.Str.ofString "start") 398] }) ::
  (nat_lit 155, { cls := PySem.Value.type "tuple", data := PySem.Data.seq #[] }) ::
  (nat_lit 157, { cls := PySem.Value.type "code", data := PySem.Data.fields #[PySem.Value.str (PySem.Str.ofString "__init__") 391, PySem.Value.str (PySem.Str.ofString "RawPacket.__init__") 392, PySem.Value.str (PySem.Str.ofString "/claim/cut.py") 393, PySem.Value.int 101 0, PySem.Value.int 5 0, PySem.Value.int 0 0, PySem.Value.int 0 0, PySem.Value.int 3 0, PySem.Value.ref 152, PySem.Value.bool Bool.true, PySem.Value.int 181 0, PySem.Value.ref 153, PySem.Value.none, PySem.Value.ref 154, PySem.Value.ref 155, PySem.Value.ref 156, PySem.Value.int 399 0, PySem.Value.int 101 0, PySem.Value.str (PySem.Str.ofString "/claim/cut.py") 400] }) ::
  (nat_lit 158, ob158.1) ::
  (nat_lit 159, { cls := PySem.Value.type "tuple", data := PySem.Data.seq #[PySem.Value.str (PySem.Str.ofString "dcid") 402, PySem.Value.str (PySem.Str.ofString "end") 403, PySem.Value.str (PySem.Str.ofString "first") 404, PySem.Value.str (PySem.Str.ofString "kind") 405, PySem.Value.str (PySem.Str.ofString "number_at") 406, PySem.Value.str (PySem.Str.ofString "scid") 407, PySem.Value.str (PySem.Str.ofString "start") 408, PySem.Value.str (PySem.Str.ofString "tag") 409, PySem.Value.str (PySem.Str.ofString "token") 410, PySem.Value.str (PySem.Str.ofString "version") 411, PySem.Value.str (PySem.Str.ofString "versions") 412] }) ::
  (nat_lit 160, { cls := PySem.Value.type "dict", data := PySem.Data.dict #[{ hash := PySem.PyData.keyHash P (PySem.Str.ofString "__module__"), key := PySem.Value.str (PySem.Str.ofString "__module__") 386, val := PySem.Value.str (PySem.Str.ofString "quic.longheads") 375 }, { hash := PySem.PyData.keyHash P (PySem.Str.ofString "__firstlineno__"), key := PySem.Value.str (PySem.Str.ofString "__firstlineno__") 390, val := PySem.Value.int 99 389 }, { hash := PySem.PyData.keyHash P (PySem.Str.ofString "__init__"), key := PySem.Value.str (PySem.Str.ofString "__init__") 401, val := PySem.Value.ref 158 }, { hash := PySem.PyData.keyHash P (PySem.Str.ofString "__static_attributes__"), key := PySem.Value.str (PySem.Str.ofString "__static_attributes__") 413, val := PySem.Value.ref 159 }, { hash := PySem.PyData.keyHash P (PySem.Str.ofString "__dict__"), key := PySem.Value.str (PySem.Str.ofString "__dict__") 415, val := PySem.Value.ref 162 }, { hash := PySem.PyData.keyHash P (PySem.Str.ofString "__weakref__"), key := PySem.Value.str (PySem.Str.ofString "__weakref__") 417, val := PySem.Value.ref 163 }, { hash := PySem.PyData.keyHash P (PySem.Str.ofString "__doc__"), key := PySem.Value.str (PySem.Str.ofString "__doc__") 418, val := PySem.Value.none }] 4 }) ::
  (nat_lit 161, { cls := PySem.Value.type "type", data := PySem.Data.cls { name := PySem.Str.ofString "RawPacket", bases := [PySem.Value.type "object"], mro := [PySem.Value.ref 161, PySem.Value.type "object"], ns := 160, qualname := PySem.Str.ofString "RawPacket" }, slots := #[Option.none, Option.none, Option.some (PySem.Value.str (PySem.Str.ofString "RawPacket") 379), Option.some (PySem.Value.str (PySem.Str.ofString "RawPacket") 387), Option.some (PySem.Value.builtin "object.__new__"), Option.some (PySem.Value.bool Bool.true)] }) ::
  (nat_lit 162, { cls := PySem.Value.type "getset_descriptor", data := PySem.Data.fields #[PySem.Value.str (PySem.Str.ofString "__dict__") 414, PySem.Value.ref 161, PySem.Value.builtin "function.__dict__", PySem.Value.builtin "function.__dict__#set"] }) ::
  (nat_lit 163, { cls := PySem.Value.type "getset_descriptor", data := PySem.Data.fields #[PySem.Value.str (PySem.Str.ofString "__weakref__") 416, PySem.Value.ref 161, PySem.Value.builtin "ExceptionGroup.__weakref__", PySem.Value.none] }) ::
  (nat_lit 173, { cls := PySem.Value.type "tuple", data := PySem.Data.seq #[] }) ::
  (nat_lit 175, { cls := PySem.Value.type "tuple", data := PySem.Data.seq #[PySem.Value.str (PySem.Str.ofString "self") 438, PySem.Value.str (PySem.Str.ofString "name") 439] }) ::
  (nat_lit 176, { cls := PySem.Value.type "tuple", data := PySem.Data.seq #[] }) ::
  (nat_lit 178, { cls := PySem.Value.type "code", data := PySem.Data.fields #[PySem.Value.str (PySem.Str.ofString "__init__") 435, PySem.Value.str (PySem.Str.ofString "Space.__init__") 436, PySem.Value.str (PySem.Str.ofString "/claim/cut.py") 437, PySem.Value.int 116 0, PySem.Value.int 2 0, PySem.Value.int 0 0, PySem.Value.int 0 0, PySem.Value.int 3 0, PySem.Value.ref 173, PySem.Value.bool Bool.true, PySem.Value.int 181 0, PySem.Value.ref 174, PySem.Value.none, PySem.Value.ref 175, PySem.Value.ref 176, PySem.Value.ref 177, PySem.Value.int 440 0, PySem.Value.int 116 0, PySem.Value.str (PySem.Str.ofString "/claim/cut.py") 441] }) ::
  (nat_lit 179, ob179.1) ::
  (nat_lit 180, { cls := PySem.Value.type "tuple", data := PySem.Data.seq #[] }) ::
  (nat_lit 182, { cls := PySem.Value.type "tuple", data := PySem.Data.seq #[PySem.Value.str (PySem.Str.ofString "self") 446, PySem.Value.str (PySem.Str.ofString "number") 447] }) ::
  (nat_lit 183, { cls := PySem.Value.type "tuple", data := PySem.Data.seq #[] }) ::
  (nat_lit 185, { cls := PySem.Value.type "code", data := PySem.Data.fields #[PySem.Value.str (PySem.Str.ofString "is_known") 443, PySem.Value.str (PySem.Str.ofString "Space.is_known") 444, PySem.Value.str (PySem.Str.ofString "/claim/cut.py") 445, PySem.Value.int 135 0, PySem.Value.int 2 0, PySem.Value.int 0 0, PySem.Value.int 0 0, PySem.Value.int 3 0, PySem.Value.ref 180, PySem.Value.bool Bool.true, PySem.Value.int 181 0, PySem.Value.ref 181, PySem.Value.none, PySem.Value.ref 182, PySem.Value.ref 183, PySem.Value.ref 184, PySem.Value.int 448 0, PySem.Value.int 135 0, PySem.Value.str (PySem.Str.ofString "/claim/cut.py") 449] }) ::
  (nat_lit 186, ob186.1) ::
  (nat_lit 187, { cls := PySem.Value.type "tuple", data := PySem.Data.seq #[] }) ::
  (nat_lit 189, { cls := PySem.Value.type "tuple", data := PySem.Data.seq #[PySem.Value.str (PySem.Str.ofString "self") 454, PySem.Value.str (PySem.Str.ofString "number") 455, PySem.Value.str (PySem.Str.ofString "now") 456, PySem.Value.str (PySem.Str.ofString "has_eliciting") 457, PySem.Value.str (PySem.Str.ofString "mark") 458] }) ::
  (nat_lit 190, { cls := PySem.Value.type "tuple", data := PySem.Data.seq #[] }) ::
  (nat_lit 192, { cls := PySem.Value.type "code", data := PySem.Data.fields #[PySem.Value.str (PySem.Str.ofString "on_received") 451, PySem.Value.str (PySem.Str.ofString "Space.on_received") 452, PySem.Value.str (PySem.Str.ofString "/claim/cut.py") 453, PySem.Value.int 138 0, PySem.Value.int 5 0, PySem.Value.int 0 0, PySem.Value.int 0 0, PySem.Value.int 3 0, PySem.Value.ref 187, PySem.Value.bool Bool.true, PySem.Value.int 181 0, PySem.Value.ref 188, PySem.Value.none, PySem.Value.ref 189, PySem.Value.ref 190, PySem.Value.ref 191, PySem.Value.int 459 0, PySem.Value.int 138 0, PySem.Value.str (PySem.Str.ofString "/claim/cut.py") 460] }) ::
  (nat_lit 193, ob193.1) ::
  (nat_lit 194, { cls := PySem.Value.type "tuple", data := PySem.Data.seq #[] }) ::
  (nat_lit 196, { cls := PySem.Value.type "tuple", data := PySem.Data.seq #[PySem.Value.str (PySem.Str.ofString "self") 465, PySem.Value.str (PySem.Str.ofString "now") 466, PySem.Value.str (PySem.Str.ofString "exponent") 467] }) ::
  (nat_lit 197, { cls := PySem.Value.type "tuple", data := PySem.Data.seq #[] }) ::
  (nat_lit 199, { cls := PySem.Value.type "code", data := PySem.Data.fields #[PySem.Value.str (PySem.Str.ofString "ack_frame") 462, PySem.Value.str (PySem.Str.ofString "Space.ack_frame") 463, PySem.Value.str (PySem.Str.ofString "/claim/cut.py") 464, PySem.Value.int 141 0, PySem.Value.int 3 0, PySem.Value.int 0 0, PySem.Value.int 0 0, PySem.Value.int 3 0, PySem.Value.ref 194, PySem.Value.bool Bool.true, PySem.Value.int 181 0, PySem.Value.ref 195, PySem.Value.none, PySem.Value.ref 196, PySem.Value.ref 197, PySem.Value.ref 198, PySem.Value.int 468 0, PySem.Value.int 141 0, PySem.Value.str (PySem.Str.ofString "/claim/cut.py") 469] }) ::
  (nat_lit 200, ob200.1) ::
  (nat_lit 201, { cls := PySem.Value.type "tuple", data := PySem.Data.seq #[] }) ::
  (nat_lit 203, { cls := PySem.Value.type "tuple", data := PySem.Data.seq #[PySem.Value.str (PySem.Str.ofString "self") 474] }) ::
  (nat_lit 204, { cls := PySem.Value.type "tuple", data := PySem.Data.seq #[] }) ::
  (nat_lit 206, { cls := PySem.Value.type "code", data := PySem.Data.fields #[PySem.Value.str (PySem.Str.ofString "on_ack_sent") 471, PySem.Value.str (PySem.Str.ofString "Space.on_ack_sent") 472, PySem.Value.str (PySem.Str.ofString "/claim/cut.py") 473, PySem.Value.int 144 0, PySem.Value.int 1 0, PySem.Value.int 0 0, PySem.Value.int 0 0, PySem.Value.int 3 0, PySem.Value.ref 201, PySem.Value.bool Bool.true, PySem.Value.int 181 0, PySem.Value.ref 202, PySem.Value.none, PySem.Value.ref 203, PySem.Value.ref 204, PySem.Value.ref 205, PySem.Value.int 475 0, PySem.Value.int 144 0, PySem.Value.str (PySem.Str.ofString "/claim/cut.py") 476] }) ::
  (nat_lit 207, ob207.1) ::
  (nat_lit 208, { cls := PySem.Value.type "tuple", data := PySem.Data.seq #[] }) ::
  (nat_lit 210, { cls := PySem.Value.type "tuple", data := PySem.Data.seq #[PySem.Value.str (PySem.Str.ofString "self") 481] }) ::
  (nat_lit 211, { cls := PySem.Value.type "tuple", data := PySem.Data.seq #[] }) ::
  (nat_lit 213, { cls := PySem.Value.type "code", data := PySem.Data.fields #[PySem.Value.str (PySem.Str.ofString "owes_ack") 478, PySem.Value.str (PySem.Str.ofString "Space.owes_ack") 479, PySem.Value.str (PySem.Str.ofString "/claim/cut.py") 480, PySem.Value.int 147 0, PySem.Value.int 1 0, PySem.Value.int 0 0, PySem.Value.int 0 0, PySem.Value.int 3 0, PySem.Value.ref 208, PySem.Value.bool Bool.true, PySem.Value.int 181 0, PySem.Value.ref 209, PySem.Value.none, PySem.Value.ref 210, PySem.Value.ref 211, PySem.Value.ref 212, PySem.Value.int 482 0, PySem.Value.int 147 0, PySem.Value.str (PySem.Str.ofString "/claim/cut.py") 483] }) ::
  (nat_lit 214, ob214.1) ::
  (nat_lit 215, { cls := PySem.Value.type "tuple", data := PySem.Data.seq #[] }) ::
  (nat_lit 217, { cls := PySem.Value.type "tuple", data := PySem.Data.seq #[PySem.Value.str (PySem.Str.ofString "self") 488] }) ::
  (nat_lit 218, { cls := PySem.Value.type "tuple", data := PySem.Data.seq #[] }) ::
  (nat_lit 220, { cls := PySem.Value.type "code", data := PySem.Data.fields #[PySem.Value.str (PySem.Str.ofString "take_number") 485, PySem.Value.str (PySem.Str.ofString "Space.take_number") 486, PySem.Value.str (PySem.Str.ofString "/claim/cut.py") 487, PySem.Value.int 150 0, PySem.Value.int 1 0, PySem.Value.int 0 0, PySem.Value.int 0 0, PySem.Value.int 3 0, PySem.Value.ref 215, PySem.Value.bool Bool.true, PySem.Value.int 181 0, PySem.Value.ref 216, PySem.Value.none, PySem.Value.ref 217, PySem.Value.ref 218, PySem.Value.ref 219, PySem.Value.int 489 0, PySem.Value.int 150 0, PySem.Value.str (PySem.Str.ofString "/claim/cut.py") 490] }) ::
  (nat_lit 221, ob221.1) ::
  (nat_lit 222, { cls := PySem.Value.type "tuple", data := PySem.Data.seq #[] }) ::
  (nat_lit 224, { cls := PySem.Value.type "tuple", data := PySem.Data.seq #[PySem.Value.str (PySem.Str.ofString "self") 495, PySem.Value.str (PySem.Str.ofString "number") 496, PySem.Value.str (PySem.Str.ofString "now") 497, PySem.Value.str (PySem.Str.ofString "size") 498, PySem.Value.str (PySem.Str.ofString "frames") 499] }) ::
  (nat_lit 225, { cls := PySem.Value.type "tuple", data := PySem.Data.seq #[] }) ::
  (nat_lit 227, { cls := PySem.Value.type "code", data := PySem.Data.fields #[PySem.Value.str (PySem.Str.ofString "on_sent") 492, PySem.Value.str (PySem.Str.ofString "Space.on_sent") 493, PySem.Value.str (PySem.Str.ofString "/claim/cut.py") 494, PySem.Value.int 153 0, PySem.Value.int 5 0, PySem.Value.int 0 0, PySem.Value.int 0 0, PySem.Value.int 3 0, PySem.Value.ref 222, PySem.Value.bool Bool.true, PySem.Value.int 181 0, PySem.Value.ref 223, PySem.Value.none, PySem.Value.ref 224, PySem.Value.ref 225, PySem.Value.ref 226, PySem.Value.int 500 0, PySem.Value.int 153 0, PySem.Value.str (PySem.Str.ofString "/claim/cut.py") 501] }) ::
  (nat_lit 228, ob228.1) ::
  (nat_lit 229, { cls := PySem.Value.type "tuple", data := PySem.Data.seq #[] }) ::
  (nat_lit 231, { cls := PySem.Value.type "tuple", data := PySem.Data.seq #[PySem.Value.str (PySem.Str.ofString "self") 506, PySem.Value.str (PySem.Str.ofString "numbers") 507] }) ::
  (nat_lit 232, { cls := PySem.Value.type "tuple", data := PySem.Data.seq #[] }) ::
  (nat_lit 234, { cls := PySem.Value.type "code", data := PySem.Data.fields #[PySem.Value.str (PySem.Str.ofString "take") 503, PySem.Value.str (PySem.Str.ofString "Space.take") 504, PySem.Value.str (PySem.Str.ofString "/claim/cut.py") 505, PySem.Value.int 156 0, PySem.Value.int 2 0, PySem.Value.int 0 0, PySem.Value.int 0 0, PySem.Value.int 3 0, PySem.Value.ref 229, PySem.Value.bool Bool.true, PySem.Value.int 181 0, PySem.Value.ref 230, PySem.Value.none, PySem.Value.ref 231, PySem.Value.ref 232, PySem.Value.ref 233, PySem.Value.int 508 0, PySem.Value.int 156 0, PySem.Value.str (PySem.Str.ofString "/claim/cut.py") 509] }) ::
  (nat_lit 235, ob235.1) ::
  (nat_lit 236, { cls := PySem.Value.type "tuple", data := PySem.Data.seq #[] }) ::
  (nat_lit 238, { cls := PySem.Value.type "tuple", data := PySem.Data.seq #[PySem.Value.str (PySem.Str.ofString "self") 514, PySem.Value.str (PySem.Str.ofString "ranges") 515] }) ::
  (nat_lit 239, { cls := PySem.Value.type "tuple", data := PySem.Data.seq #[] }) ::
  (nat_lit 241, { cls := PySem.Value.type "code", data := PySem.Data.fields #[PySem.Value.str (PySem.Str.ofString "acked_by") 511, PySem.Value.str (PySem.Str.ofString "Space.acked_by") 512, PySem.Value.str (PySem.Str.ofString "/claim/cut.py") 513, PySem.Value.int 159 0, PySem.Value.int 2 0, PySem.Value.int 0 0, PySem.Value.int 0 0, PySem.Value.int 3 0, PySem.Value.ref 236, PySem.Value.bool Bool.true, PySem.Value.int 181 0, PySem.Value.ref 237, PySem.Value.none, PySem.Value.ref 238, PySem.Value.ref 239, PySem.Value.ref 240, PySem.Value.int 516 0, PySem.Value.int 159 0, PySem.Value.str (PySem.Str.ofString "/claim/cut.py") 517] }) ::
  (nat_lit 242, ob242.1) ::
  (nat_lit 243, { cls := PySem.Value.type "tuple", data := PySem.Data.seq #[] }) ::
  (nat_lit 245, { cls := PySem.Value.type "tuple", data := PySem.Data.seq #[PySem.Value.str (PySem.Str.ofString "self") 522, PySem.Value.str (PySem.Str.ofString "numbers") 523] }) ::
  (nat_lit 246, { cls := PySem.Value.type "tuple", data := PySem.Data.seq #[] }) ::
  (nat_lit 248, { cls := PySem.Value.type "code", data := PySem.Data.fields #[PySem.Value.str (PySem.Str.ofString "note_acked") 519, PySem.Value.str (PySem.Str.ofString "Space.note_acked") 520, PySem.Value.str (PySem.Str.ofString "/claim/cut.py") 521, PySem.Value.int 162 0, PySem.Value.int 2 0, PySem.Value.int 0 0, PySem.Value.int 0 0, PySem.Value.int 3 0, PySem.Value.ref 243, PySem.Value.bool Bool.true, PySem.Value.int 181 0, PySem.Value.ref 244, PySem.Value.none, PySem.Value.ref 245, PySem.Value.ref 246, PySem.Value.ref 247, PySem.Value.int 524 0, PySem.Value.int 162 0, PySem.Value.str (PySem.Str.ofString "/claim/cut.py") 525] }) ::
  (nat_lit 249, ob249.1) ::
  (nat_lit 250, { cls := PySem.Value.type "tuple", data := PySem.Data.seq #[] }) ::
  (nat_lit 252, { cls := PySem.Value.type "tuple", data := PySem.Data.seq #[PySem.Value.str (PySem.Str.ofString "self") 530, PySem.Value.str (PySem.Str.ofString "ranges") 531] }) ::
  (nat_lit 253, { cls := PySem.Value.type "tuple", data := PySem.Data.seq #[] }) ::
  (nat_lit 255, { cls := PySem.Value.type "code", data := PySem.Data.fields #[PySem.Value.str (PySem.Str.ofString "note_ranges") 527, PySem.Value.str (PySem.Str.ofString "Space.note_ranges") 528, PySem.Value.str (PySem.Str.ofString "/claim/cut.py") 529, PySem.Value.int 165 0, PySem.Value.int 2 0, PySem.Value.int 0 0, PySem.Value.int 0 0, PySem.Value.int 3 0, PySem.Value.ref 250, PySem.Value.bool Bool.true, PySem.Value.int 181 0, PySem.Value.ref 251, PySem.Value.none, PySem.Value.ref 252, PySem.Value.ref 253, PySem.Value.ref 254, PySem.Value.int 532 0, PySem.Value.int 165 0, PySem.Value.str (PySem.Str.ofString "/claim/cut.py") 533] }) ::
  (nat_lit 256, ob256.1) ::
  (nat_lit 257, { cls := PySem.Value.type "tuple", data := PySem.Data.seq #[] }) ::
  (nat_lit 259, { cls := PySem.Value.type "tuple", data := PySem.Data.seq #[PySem.Value.str (PySem.Str.ofString "self") 538, PySem.Value.str (PySem.Str.ofString "ranges") 539] }) ::
  (nat_lit 260, { cls := PySem.Value.type "tuple", data := PySem.Data.seq #[] }) ::
  (nat_lit 262, { cls := PySem.Value.type "code", data := PySem.Data.fields #[PySem.Value.str (PySem.Str.ofString "is_beyond") 535, PySem.Value.str (PySem.Str.ofString "Space.is_beyond") 536, PySem.Value.str (PySem.Str.ofString "/claim/cut.py") 537, PySem.Value.int 168 0, PySem.Value.int 2 0, PySem.Value.int 0 0, PySem.Value.int 0 0, PySem.Value.int 3 0, PySem.Value.ref 257, PySem.Value.bool Bool.true, PySem.Value.int 181 0, PySem.Value.ref 258, PySem.Value.none, PySem.Value.ref 259, PySem.Value.ref 260, PySem.Value.ref 261, PySem.Value.int 540 0, PySem.Value.int 168 0, PySem.Value.str (PySem.Str.ofString "/claim/cut.py") 541] }) ::
  (nat_lit 263, ob263.1) ::
  (nat_lit 264, { cls := PySem.Value.type "tuple", data := PySem.Data.seq #[] }) ::
  (nat_lit 266, { cls := PySem.Value.type "tuple", data := PySem.Data.seq #[PySem.Value.str (PySem.Str.ofString "self") 546, PySem.Value.str (PySem.Str.ofString "number") 547] }) ::
  (nat_lit 267, { cls := PySem.Value.type "tuple", data := PySem.Data.seq #[] }) ::
  (nat_lit 269, { cls := PySem.Value.type "code", data := PySem.Data.fields #[PySem.Value.str (PySem.Str.ofString "note_largest") 543, PySem.Value.str (PySem.Str.ofString "Space.note_largest") 544, PySem.Value.str (PySem.Str.ofString "/claim/cut.py") 545, PySem.Value.int 171 0, PySem.Value.int 2 0, PySem.Value.int 0 0, PySem.Value.int 0 0, PySem.Value.int 3 0, PySem.Value.ref 264, PySem.Value.bool Bool.true, PySem.Value.int 181 0, PySem.Value.ref 265, PySem.Value.none, PySem.Value.ref 266, PySem.Value.ref 267, PySem.Value.ref 268, PySem.Value.int 548 0, PySem.Value.int 171 0, PySem.Value.str (PySem.Str.ofString "/claim/cut.py") 549] }) ::
  (nat_lit 270, ob270.1) ::
  (nat_lit 271, { cls := PySem.Value.type "tuple", data := PySem.Data.seq #[] }) ::
  (nat_lit 273, { cls := PySem.Value.type "tuple", data := PySem.Data.seq #[PySem.Value.str (PySem.Str.ofString "self") 554] }) ::
  (nat_lit 274, { cls := PySem.Value.type "tuple", data := PySem.Data.seq #[] }) ::
  (nat_lit 276, { cls := PySem.Value.type "code", data := PySem.Data.fields #[PySem.Value.str (PySem.Str.ofString "eliciting_left") 551, PySem.Value.str (PySem.Str.ofString "Space.eliciting_left") 552, PySem.Value.str (PySem.Str.ofString "/claim/cut.py") 553, PySem.Value.int 174 0, PySem.Value.int 1 0, PySem.Value.int 0 0, PySem.Value.int 0 0, PySem.Value.int 3 0, PySem.Value.ref 271, PySem.Value.bool Bool.true, PySem.Value.int 181 0, PySem.Value.ref 272, PySem.Value.none, PySem.Value.ref 273, PySem.Value.ref 274, PySem.Value.ref 275, PySem.Value.int 555 0, PySem.Value.int 174 0, PySem.Value.str (PySem.Str.ofString "/claim/cut.py") 556] }) ::
  (nat_lit 277, ob277.1) ::
  (nat_lit 278, { cls := PySem.Value.type "tuple", data := PySem.Data.seq #[] }) ::
  (nat_lit 280, { cls := PySem.Value.type "tuple", data := PySem.Data.seq #[PySem.Value.str (PySem.Str.ofString "self") 561] }) ::
  (nat_lit 281, { cls := PySem.Value.type "tuple", data := PySem.Data.seq #[] }) ::
  (nat_lit 283, { cls := PySem.Value.type "code", data := PySem.Data.fields #[PySem.Value.str (PySem.Str.ofString "bare_numbers") 558, PySem.Value.str (PySem.Str.ofString "Space.bare_numbers") 559, PySem.Value.str (PySem.Str.ofString "/claim/cut.py") 560, PySem.Value.int 177 0, PySem.Value.int 1 0, PySem.Value.int 0 0, PySem.Value.int 0 0, PySem.Value.int 3 0, PySem.Value.ref 278, PySem.Value.bool Bool.true, PySem.Value.int 181 0, PySem.Value.ref 279, PySem.Value.none, PySem.Value.ref 280, PySem.Value.ref 281, PySem.Value.ref 282, PySem.Value.int 562 0, PySem.Value.int 177 0, PySem.Value.str (PySem.Str.ofString "/claim/cut.py") 563] }) ::
  (nat_lit 284, ob284.1) ::
  (nat_lit 285, { cls := PySem.Value.type "tuple", data := PySem.Data.seq #[] }) ::
  (nat_lit 287, { cls := PySem.Value.type "tuple", data := PySem.Data.seq #[PySem.Value.str (PySem.Str.ofString "self") 568] }) ::
  (nat_lit 288, { cls := PySem.Value.type "tuple", data := PySem.Data.seq #[] }) ::
  (nat_lit 290, { cls := PySem.Value.type "code", data := PySem.Data.fields #[PySem.Value.str (PySem.Str.ofString "octets_out") 565, PySem.Value.str (PySem.Str.ofString "Space.octets_out") 566, PySem.Value.str (PySem.Str.ofString "/claim/cut.py") 567, PySem.Value.int 180 0, PySem.Value.int 1 0, PySem.Value.int 0 0, PySem.Value.int 0 0, PySem.Value.int 3 0, PySem.Value.ref 285, PySem.Value.bool Bool.true, PySem.Value.int 181 0, PySem.Value.ref 286, PySem.Value.none, PySem.Value.ref 287, PySem.Value.ref 288, PySem.Value.ref 289, PySem.Value.int 569 0, PySem.Value.int 180 0, PySem.Value.str (PySem.Str.ofString "/claim/cut.py") 570] }) ::
  (nat_lit 291, ob291.1) ::
  (nat_lit 292, { cls := PySem.Value.type "tuple", data := PySem.Data.seq #[] }) ::
  (nat_lit 294, { cls := PySem.Value.type "tuple", data := PySem.Data.seq #[PySem.Value.str (PySem.Str.ofString "self") 575] }) ::
  (nat_lit 295, { cls := PySem.Value.type "tuple", data := PySem.Data.seq #[] }) ::
  (nat_lit 297, { cls := PySem.Value.type "code", data := PySem.Data.fields #[PySem.Value.str (PySem.Str.ofString "sent_rows") 572, PySem.Value.str (PySem.Str.ofString "Space.sent_rows") 573, PySem.Value.str (PySem.Str.ofString "/claim/cut.py") 574, PySem.Value.int 183 0, PySem.Value.int 1 0, PySem.Value.int 0 0, PySem.Value.int 0 0, PySem.Value.int 3 0, PySem.Value.ref 292, PySem.Value.bool Bool.true, PySem.Value.int 181 0, PySem.Value.ref 293, PySem.Value.none, PySem.Value.ref 294, PySem.Value.ref 295, PySem.Value.ref 296, PySem.Value.int 576 0, PySem.Value.int 183 0, PySem.Value.str (PySem.Str.ofString "/claim/cut.py") 577] }) ::
  (nat_lit 298, ob298.1) ::
  (nat_lit 299, { cls := PySem.Value.type "tuple", data := PySem.Data.seq #[] }) ::
  (nat_lit 301, { cls := PySem.Value.type "tuple", data := PySem.Data.seq #[PySem.Value.str (PySem.Str.ofString "self") 582] }) ::
  (nat_lit 302, { cls := PySem.Value.type "tuple", data := PySem.Data.seq #[] }) ::
  (nat_lit 304, { cls := PySem.Value.type "code", data := PySem.Data.fields #[PySem.Value.str (PySem.Str.ofString "forget") 579, PySem.Value.str (PySem.Str.ofString "Space.forget") 580, PySem.Value.str (PySem.Str.ofString "/claim/cut.py") 581, PySem.Value.int 186 0, PySem.Value.int 1 0, PySem.Value.int 0 0, PySem.Value.int 0 0, PySem.Value.int 3 0, PySem.Value.ref 299, PySem.Value.bool Bool.true, PySem.Value.int 181 0, PySem.Value.ref 300, PySem.Value.none, PySem.Value.ref 301, PySem.Value.ref 302, PySem.Value.ref 303, PySem.Value.int 583 0, PySem.Value.int 186 0, PySem.Value.str (PySem.Str.ofString "/claim/cut.py") 584] }) ::
  (nat_lit 305, ob305.1) ::
  (nat_lit 306, { cls := PySem.Value.type "tuple", data := PySem.Data.seq #[PySem.Value.str (PySem.Str.ofString "acked") 586, PySem.Value.str (PySem.Str.ofString "ecn") 587, PySem.Value.str (PySem.Str.ofString "first_unacked") 588, PySem.Value.str (PySem.Str.ofString "floor") 589, PySem.Value.str (PySem.Str.ofString "has_new") 590, PySem.Value.str (PySem.Str.ofString "is_gone") 591, PySem.Value.str (PySem.Str.ofString "largest_acked") 592, PySem.Value.str (PySem.Str.ofString "largest_seen") 593, PySem.Value.str (PySem.Str.ofString "largest_time") 594, PySem.Value.str (PySem.Str.ofString "last_eliciting_time") 595, PySem.Value.str (PySem.Str.ofString "loss_time") 596, PySem.Value.str (PySem.Str.ofString "name") 597, PySem.Value.str (PySem.Str.ofString "next_number") 598, PySem.Value.str (PySem.Str.ofString "received") 599, PySem.Value.str (PySem.Str.ofString "sent") 600, PySem.Value.str (PySem.Str.ofString "unacked") 601, PySem.Value.str (PySem.Str.ofString "wants_now") 602] }) ::
  (nat_lit 307, { cls := PySem.Value.type "dict", data := PySem.Data.dict #[{ hash := PySem.PyData.keyHash P (PySem.Str.ofString "__module__"), key := PySem.Value.str (PySem.Str.ofString "__module__") 430, val := PySem.Value.str (PySem.Str.ofString "quic.spaces") 421 }, { hash := PySem.PyData.keyHash P (PySem.Str.ofString "__firstlineno__"), key := PySem.Value.str (PySem.Str.ofString "__firstlineno__") 434, val := PySem.Value.int 114 433 }, { hash := PySem.PyData.keyHash P (PySem.Str.ofString "__init__"), key := PySem.Value.str (PySem.Str.ofString "__init__") 442, val := PySem.Value.ref 179 }, { hash := PySem.PyData.keyHash P (PySem.Str.ofString "is_known"), key := PySem.Value.str (PySem.Str.ofString "is_known") 450, val := PySem.Value.ref 186 }, { hash := PySem.PyData.keyHash P (PySem.Str.ofString "on_received"), key := PySem.Value.str (PySem.Str.ofString "on_received") 461, val := PySem.Value.ref 193 }, { hash := PySem.PyData.keyHash P (PySem.Str.ofString "ack_frame"), key := PySem.Value.str (PySem.Str.ofString "ack_frame") 470, val := PySem.Value.ref 200 }, { hash := PySem.PyData.keyHash P (PySem.Str.ofString "on_ack_sent"), key := PySem.Value.str (PySem.Str.ofString "on_ack_sent") 477, val := PySem.Value.ref 207 }, { hash := PySem.PyData.keyHash P (PySem.Str.ofString "owes_ack"), key := PySem.Value.str (PySem.Str.ofString "owes_ack") 484, val := PySem.Value.ref 214 }, { hash := PySem.PyData.keyHash P (PySem.Str.ofString "take_number"), key := PySem.Value.str (PySem.Str.ofString "take_number") 491, val := PySem.Value.ref 221 }, { hash := PySem.PyData.keyHash P (PySem.Str.ofString "on_sent"), key := PySem.Value.str (PySem.Str.ofString "on_sent") 502, val := PySem.Value.ref 228 }, { hash := PySem.PyData.keyHash P (PySem.Str.ofString "take"), key := PySem.Value.str (PySem.Str.ofString "take") 510, val := PySem.Value.ref 235 }, { hash := PySem.PyData.keyHash P (PySem.Str.ofString "acked_by"), key := PySem.Value.str (PySem.Str.ofString "acked_by") 518, val := PySem.Value.ref 242 }, { hash := PySem.PyData.keyHash P (PySem.Str.ofString "note_acked"), key := PySem.Value.str (PySem.Str.ofString "note_acked") 526, val := PySem.Value.ref 249 }, { hash := PySem.PyData.keyHash P (PySem.Str.ofString "note_ranges"), key := PySem.Value.str (PySem.Str.ofString "note_ranges") 534, val := PySem.Value.ref 256 }, { hash := PySem.PyData.keyHash P (PySem.Str.ofString "is_beyond"), key := PySem.Value.str (PySem.Str.ofString "is_beyond") 542, val := PySem.Value.ref 263 }, { hash := PySem.PyData.keyHash P (PySem.Str.ofString "note_largest"), key := PySem.Value.str (PySem.Str.ofString "note_largest") 550, val := PySem.Value.ref 270 }, { hash := PySem.PyData.keyHash P (PySem.Str.ofString "eliciting_left"), key := PySem.Value.str (PySem.Str.ofString "eliciting_left") 557, val := PySem.Value.ref 277 }, { hash := PySem.PyData.keyHash P (PySem.Str.ofString "bare_numbers"), key := PySem.Value.str (PySem.Str.ofString "bare_numbers") 564, val := PySem.Value.ref 284 }, { hash := PySem.PyData.keyHash P (PySem.Str.ofString "octets_out"), key := PySem.Value.str (PySem.Str.ofString "octets_out") 571, val := PySem.Value.ref 291 }, { hash := PySem.PyData.keyHash P (PySem.Str.ofString "sent_rows"), key := PySem.Value.str (PySem.Str.ofString "sent_rows") 578, val := PySem.Value.ref 298 }, { hash := PySem.PyData.keyHash P (PySem.Str.ofString "forget"), key := PySem.Value.str (PySem.Str.ofString "forget") 585, val := PySem.Value.ref 305 }, { hash := PySem.PyData.keyHash P (PySem.Str.ofString "__static_attributes__"), key := PySem.Value.str (PySem.Str.ofString "__static_attributes__") 603, val := PySem.Value.ref 306 }, { hash := PySem.PyData.keyHash P (PySem.Str.ofString "__dict__"), key := PySem.Value.str (PySem.Str.ofString "__dict__") 605, val := PySem.Value.ref 309 }, { hash := PySem.PyData.keyHash P (PySem.Str.ofString "__weakref__"), key := PySem.Value.str (PySem.Str.ofString "__weakref__") 607, val := PySem.Value.ref 310 }, { hash := PySem.PyData.keyHash P (PySem.Str.ofString "__doc__"), key := PySem.Value.str (PySem.Str.ofString "__doc__") 608, val := PySem.Value.none }] 4 }) ::
  (nat_lit 308, { cls := PySem.Value.type "type", data := PySem.Data.cls { name := PySem.Str.ofString "Space", bases := [PySem.Value.type "object"], mro := [PySem.Value.ref 308, PySem.Value.type "object"], ns := 307, qualname := PySem.Str.ofString "Space" }, slots := #[Option.none, Option.none, Option.some (PySem.Value.str (PySem.Str.ofString "Space") 423), Option.some (PySem.Value.str (PySem.Str.ofString "Space") 431), Option.some (PySem.Value.builtin "object.__new__"), Option.some (PySem.Value.bool Bool.true)] }) ::
  (nat_lit 309, { cls := PySem.Value.type "getset_descriptor", data := PySem.Data.fields #[PySem.Value.str (PySem.Str.ofString "__dict__") 604, PySem.Value.ref 308, PySem.Value.builtin "function.__dict__", PySem.Value.builtin "function.__dict__#set"] }) ::
  (nat_lit 310, { cls := PySem.Value.type "getset_descriptor", data := PySem.Data.fields #[PySem.Value.str (PySem.Str.ofString "__weakref__") 606, PySem.Value.ref 308, PySem.Value.builtin "ExceptionGroup.__weakref__", PySem.Value.none] }) ::
  (nat_lit 313, { cls := PySem.Value.type "tuple", data := PySem.Data.seq #[] }) ::
  (nat_lit 315, { cls := PySem.Value.type "tuple", data := PySem.Data.seq #[PySem.Value.str (PySem.Str.ofString "box") 616, PySem.Value.str (PySem.Str.ofString "many") 617] }) ::
  (nat_lit 316, { cls := PySem.Value.type "tuple", data := PySem.Data.seq #[] }) ::
  (nat_lit 318, { cls := PySem.Value.type "code", data := PySem.Data.fields #[PySem.Value.str (PySem.Str.ofString "_law_take") 613, PySem.Value.str (PySem.Str.ofString "_law_take") 614, PySem.Value.str (PySem.Str.ofString "/claim/cut.py") 615, PySem.Value.int 189 0, PySem.Value.int 2 0, PySem.Value.int 0 0, PySem.Value.int 0 0, PySem.Value.int 3 0, PySem.Value.ref 313, PySem.Value.bool Bool.true, PySem.Value.int 181 0, PySem.Value.ref 314, PySem.Value.none, PySem.Value.ref 315, PySem.Value.ref 316, PySem.Value.ref 317, PySem.Value.int 618 0, PySem.Value.int 189 0, PySem.Value.str (PySem.Str.ofString "/claim/cut.py") 619] }) ::
  (nat_lit 319, ob319.1) ::
  (nat_lit 320, { cls := PySem.Value.type "tuple", data := PySem.Data.seq #[] }) ::
  (nat_lit 322, { cls := PySem.Value.type "tuple", data := PySem.Data.seq #[PySem.Value.str (PySem.Str.ofString "script") 624, PySem.Value.str (PySem.Str.ofString "box") 625, PySem.Value.str (PySem.Str.ofString "conn") 626, PySem.Value.str (PySem.Str.ofString "due") 627, PySem.Value.str (PySem.Str.ofString "turn") 628, PySem.Value.str (PySem.Str.ofString "raw") 629, PySem.Value.str (PySem.Str.ofString "wrong") 630, PySem.Value.str (PySem.Str.ofString "token") 631, PySem.Value.str (PySem.Str.ofString "found") 632] }) ::
  (nat_lit 323, { cls := PySem.Value.type "tuple", data := PySem.Data.seq #[PySem.Value.str (PySem.Str.ofString "is_client") 633] }) ::
  (nat_lit 325, { cls := PySem.Value.type "code", data := PySem.Data.fields #[PySem.Value.str (PySem.Str.ofString "law") 621, PySem.Value.str (PySem.Str.ofString "law") 622, PySem.Value.str (PySem.Str.ofString "/claim/cut.py") 623, PySem.Value.int 194 0, PySem.Value.int 1 0, PySem.Value.int 0 0, PySem.Value.int 0 0, PySem.Value.int 3 0, PySem.Value.ref 320, PySem.Value.bool Bool.true, PySem.Value.int 181 0, PySem.Value.ref 321, PySem.Value.none, PySem.Value.ref 322, PySem.Value.ref 323, PySem.Value.ref 324, PySem.Value.int 634 0, PySem.Value.int 194 0, PySem.Value.str (PySem.Str.ofString "/claim/cut.py") 635] }) ::
  (nat_lit 326, ob326.1) ::
  []

noncomputable def viewQ : Program := view PySem.Challenge.pw_pf0269_01 [0, 2, 4, 5, 6, 8, 9, 11, 12, 14, 16, 17]
theorem keysW : ∀ P, [2, 3, 15, 17, 18, 20, 21, 22, 24, 25, 27, 28, 29, 36, 38, 39, 41, 42, 43, 44, 45, 46, 56, 58, 59, 61, 62, 63, 65, 66, 68, 69, 70, 72, 73, 75, 76, 77, 79, 80, 82, 83, 84, 86, 87, 89, 90, 91, 93, 94, 96, 97, 98, 100, 101, 103, 104, 105, 107, 108, 110, 111, 112, 115, 116, 117, 119, 120, 122, 123, 124, 126, 127, 129, 130, 131, 133, 134, 136, 137, 138, 139, 140, 141, 142, 152, 154, 155, 157, 158, 159, 160, 161, 162, 163, 173, 175, 176, 178, 179, 180, 182, 183, 185, 186, 187, 189, 190, 192, 193, 194, 196, 197, 199, 200, 201, 203, 204, 206, 207, 208, 210, 211, 213, 214, 215, 217, 218, 220, 221, 222, 224, 225, 227, 228, 229, 231, 232, 234, 235, 236, 238, 239, 241, 242, 243, 245, 246, 248, 249, 250, 252, 253, 255, 256, 257, 259, 260, 262, 263, 264, 266, 267, 269, 270, 271, 273, 274, 276, 277, 278, 280, 281, 283, 284, 285, 287, 288, 290, 291, 292, 294, 295, 297, 298, 299, 301, 302, 304, 305, 306, 307, 308, 309, 310, 313, 315, 316, 318, 319, 320, 322, 323, 325, 326] = (heapK P).map (·.1) := fun _ => by kernel_rfl
noncomputable abbrev hook : Hook := kmHook heapK [2, 3, 15, 17, 18, 20, 21, 22, 24, 25, 27, 28, 29, 36, 38, 39, 41, 42, 43, 44, 45, 46, 56, 58, 59, 61, 62, 63, 65, 66, 68, 69, 70, 72, 73, 75, 76, 77, 79, 80, 82, 83, 84, 86, 87, 89, 90, 91, 93, 94, 96, 97, 98, 100, 101, 103, 104, 105, 107, 108, 110, 111, 112, 115, 116, 117, 119, 120, 122, 123, 124, 126, 127, 129, 130, 131, 133, 134, 136, 137, 138, 139, 140, 141, 142, 152, 154, 155, 157, 158, 159, 160, 161, 162, 163, 173, 175, 176, 178, 179, 180, 182, 183, 185, 186, 187, 189, 190, 192, 193, 194, 196, 197, 199, 200, 201, 203, 204, 206, 207, 208, 210, 211, 213, 214, 215, 217, 218, 220, 221, 222, 224, 225, 227, 228, 229, 231, 232, 234, 235, 236, 238, 239, 241, 242, 243, 245, 246, 248, 249, 250, 252, 253, 255, 256, 257, 259, 260, 262, 263, 264, 266, 267, 269, 270, 271, 273, 274, 276, 277, 278, 280, 281, 283, 284, 285, 287, 288, 290, 291, 292, 294, 295, 297, 298, 299, 301, 302, 304, 305, 306, 307, 308, 309, 310, 313, 315, 316, 318, 319, 320, 322, 323, 325, 326] keysW [321]
noncomputable def om11 (P : Params) : Obj := { cls := PySem.Value.type "tuple", data := PySem.Data.seq #[] }
noncomputable def om12 (P : Params) : Obj := { cls := PySem.Value.none, data := PySem.Data.fields #[] }
noncomputable def om13 (P : Params) : Obj := { cls := PySem.Value.type "code", data := PySem.Data.fields #[PySem.Value.str (PySem.Str.ofString "<module>") 182, PySem.Value.str (PySem.Str.ofString "<module>") 183, PySem.Value.str (PySem.Str.ofString "/claim/cut.py") 184, PySem.Value.int 1 0, PySem.Value.int 0 0, PySem.Value.int 0 0, PySem.Value.int 0 0, PySem.Value.int 0 0, PySem.Value.ref 11, PySem.Value.bool Bool.false, PySem.Value.int 181 0, PySem.Value.ref 12, PySem.Value.none, PySem.Value.none, PySem.Value.none, PySem.Value.none, PySem.Value.int 185 0, PySem.Value.int 1 0, PySem.Value.str (PySem.Str.ofString "/claim/cut.py") 186] }
noncomputable def om14 (P : Params) : Obj := { cls := PySem.Value.type "frame", slots := #[Option.some (PySem.Value.ref 13), Option.some (PySem.Value.ref 3), Option.some (PySem.Value.ref 3), Option.none, Option.some (PySem.Value.str (PySem.Str.ofString "__main__") 164), Option.none, Option.some (PySem.Value.ref 0)] }
noncomputable def om2 (P : Params) : Obj := { cls := PySem.Value.none, data := PySem.Data.dict #[{ hash := PySem.PyData.keyHash P (PySem.Str.ofString "type.__subclasses__.Exception.0"), key := PySem.Value.str (PySem.Str.ofString "type.__subclasses__.Exception.0") 239, val := PySem.Value.int 45 0 }, { hash := PySem.PyData.keyHash P (PySem.Str.ofString "type.__subclasses__.Exception.n"), key := PySem.Value.str (PySem.Str.ofString "type.__subclasses__.Exception.n") 240, val := PySem.Value.int 1 0 }] 2 }
noncomputable def om3 (P : Params) : Obj := { cls := PySem.Value.type "dict", data := PySem.Data.dict #[{ hash := PySem.PyData.keyHash P (PySem.Str.ofString "__name__"), key := PySem.Value.str (PySem.Str.ofString "__name__") 165, val := PySem.Value.str (PySem.Str.ofString "quic.spaces") 421 }, { hash := PySem.PyData.keyHash P (PySem.Str.ofString "__doc__"), key := PySem.Value.str (PySem.Str.ofString "__doc__") 166, val := PySem.Value.none }, { hash := PySem.PyData.keyHash P (PySem.Str.ofString "__package__"), key := PySem.Value.str (PySem.Str.ofString "__package__") 167, val := PySem.Value.none }, { hash := PySem.PyData.keyHash P (PySem.Str.ofString "__loader__"), key := PySem.Value.str (PySem.Str.ofString "__loader__") 168, val := PySem.Value.builtin "__main__.__loader__#opaque" }, { hash := PySem.PyData.keyHash P (PySem.Str.ofString "__spec__"), key := PySem.Value.str (PySem.Str.ofString "__spec__") 169, val := PySem.Value.none }, { hash := PySem.PyData.keyHash P (PySem.Str.ofString "__annotations__"), key := PySem.Value.str (PySem.Str.ofString "__annotations__") 170, val := PySem.Value.ref 6 }, { hash := PySem.PyData.keyHash P (PySem.Str.ofString "__builtins__"), key := PySem.Value.str (PySem.Str.ofString "__builtins__") 171, val := PySem.Value.ref 4 }, { hash := PySem.PyData.keyHash P (PySem.Str.ofString "__file__"), key := PySem.Value.str (PySem.Str.ofString "__file__") 173, val := PySem.Value.str (PySem.Str.ofString "/claim/cut.py") 172 }, { hash := PySem.PyData.keyHash P (PySem.Str.ofString "__cached__"), key := PySem.Value.str (PySem.Str.ofString "__cached__") 174, val := PySem.Value.none }, { hash := PySem.PyData.keyHash P (PySem.Str.ofString "_wall"), key := PySem.Value.str (PySem.Str.ofString "_wall") 193, val := PySem.Value.ref 21 }, { hash := PySem.PyData.keyHash P (PySem.Str.ofString "learn_peer"), key := PySem.Value.str (PySem.Str.ofString "learn_peer") 203, val := PySem.Value.ref 28 }, { hash := PySem.PyData.keyHash P (PySem.Str.ofString "CONNECTION_ID_LIMIT_ERROR"), key := PySem.Value.str (PySem.Str.ofString "CONNECTION_ID_LIMIT_ERROR") 207, val := PySem.Value.int 9 206 }, { hash := PySem.PyData.keyHash P (PySem.Str.ofString "PROTOCOL_VIOLATION"), key := PySem.Value.str (PySem.Str.ofString "PROTOCOL_VIOLATION") 209, val := PySem.Value.int 10 208 }, { hash := PySem.PyData.keyHash P (PySem.Str.ofString "QuicError"), key := PySem.Value.str (PySem.Str.ofString "QuicError") 242, val := PySem.Value.ref 45 }, { hash := PySem.PyData.keyHash P (PySem.Str.ofString "FRAME_NEW"), key := PySem.Value.str (PySem.Str.ofString "FRAME_NEW") 246, val := PySem.Value.int 24 245 }, { hash := PySem.PyData.keyHash P (PySem.Str.ofString "RemoteIds"), key := PySem.Value.str (PySem.Str.ofString "RemoteIds") 374, val := PySem.Value.ref 140 }, { hash := PySem.PyData.keyHash P (PySem.Str.ofString "VERSION_NONE"), key := PySem.Value.str (PySem.Str.ofString "VERSION_NONE") 378, val := PySem.Value.int 0 377 }, { hash := PySem.PyData.keyHash P (PySem.Str.ofString "RawPacket"), key := PySem.Value.str (PySem.Str.ofString "RawPacket") 420, val := PySem.Value.ref 161 }] 18 }
noncomputable def om12v1 (P : Params) : Obj := { cls := PySem.Value.none, data := PySem.Data.fields #[PySem.Value.int 1 0, PySem.Value.int 0 0, PySem.Value.ref 20, PySem.Value.int 5 0, PySem.Value.int 0 0, PySem.Value.ref 27, PySem.Value.int 15 0, PySem.Value.int 0 0, PySem.Value.ref 34, PySem.Value.int 24 0, PySem.Value.int 0 0, PySem.Value.ref 54, PySem.Value.int 99 0, PySem.Value.int 0 0, PySem.Value.ref 150] }
noncomputable def om15 (P : Params) : Obj := { cls := PySem.Value.type "tuple", data := PySem.Data.seq #[] }
noncomputable def om16 (P : Params) : Obj := { cls := PySem.Value.none, data := PySem.Data.fields #[] }
noncomputable def om17 (P : Params) : Obj := { cls := PySem.Value.type "tuple", data := PySem.Data.seq #[PySem.Value.str (PySem.Str.ofString "k") 190] }
noncomputable def om18 (P : Params) : Obj := { cls := PySem.Value.type "tuple", data := PySem.Data.seq #[] }
noncomputable def om19 (P : Params) : Obj := { cls := PySem.Value.none, data := PySem.Data.func { name := PySem.Str.ofString "_wall", qualname := PySem.Str.ofString "_wall", params := lf0.1.1, body := PySem.FuncBody.stmts lf0.1.2.1, scope := lf0.1.2.2, globals := 0, closure := [], defaults := PySem.Value.none, kwdefaults := PySem.Value.none } }
noncomputable def om20 (P : Params) : Obj := { cls := PySem.Value.type "code", data := PySem.Data.fields #[PySem.Value.str (PySem.Str.ofString "_wall") 187, PySem.Value.str (PySem.Str.ofString "_wall") 188, PySem.Value.str (PySem.Str.ofString "/claim/cut.py") 189, PySem.Value.int 1 0, PySem.Value.int 1 0, PySem.Value.int 0 0, PySem.Value.int 0 0, PySem.Value.int 3 0, PySem.Value.ref 15, PySem.Value.bool Bool.true, PySem.Value.int 181 0, PySem.Value.ref 16, PySem.Value.none, PySem.Value.ref 17, PySem.Value.ref 18, PySem.Value.ref 19, PySem.Value.int 191 0, PySem.Value.int 1 0, PySem.Value.str (PySem.Str.ofString "/claim/cut.py") 192] }
noncomputable def om21 (P : Params) : Obj := { cls := PySem.Value.type "function", data := PySem.Data.func { name := PySem.Str.ofString "_wall", qualname := PySem.Str.ofString "_wall", params := lf0.1.1, body := PySem.FuncBody.stmts lf0.1.2.1, scope := lf0.1.2.2, globals := 3, closure := [], defaults := PySem.Value.none, kwdefaults := PySem.Value.none, pyModule := PySem.Value.str (PySem.Str.ofString "__main__") 164, code := PySem.Value.ref 20 } }
noncomputable def om22 (P : Params) : Obj := { cls := PySem.Value.type "tuple", data := PySem.Data.seq #[] }
noncomputable def om23 (P : Params) : Obj := { cls := PySem.Value.none, data := PySem.Data.fields #[] }
noncomputable def om24 (P : Params) : Obj := { cls := PySem.Value.type "tuple", data := PySem.Data.seq #[PySem.Value.str (PySem.Str.ofString "conn") 199, PySem.Value.str (PySem.Str.ofString "raw") 200] }
noncomputable def om25 (P : Params) : Obj := { cls := PySem.Value.type "tuple", data := PySem.Data.seq #[] }
noncomputable def om26 (P : Params) : Obj := { cls := PySem.Value.none, data := PySem.Data.func { name := PySem.Str.ofString "learn_peer", qualname := PySem.Str.ofString "learn_peer", params := lf2.1.1, body := PySem.FuncBody.stmts lf2.1.2.1, scope := lf2.1.2.2, globals := 0, closure := [], defaults := PySem.Value.none, kwdefaults := PySem.Value.none } }
noncomputable def om27 (P : Params) : Obj := { cls := PySem.Value.type "code", data := PySem.Data.fields #[PySem.Value.str (PySem.Str.ofString "learn_peer") 196, PySem.Value.str (PySem.Str.ofString "learn_peer") 197, PySem.Value.str (PySem.Str.ofString "/claim/cut.py") 198, PySem.Value.int 5 0, PySem.Value.int 2 0, PySem.Value.int 0 0, PySem.Value.int 0 0, PySem.Value.int 3 0, PySem.Value.ref 22, PySem.Value.bool Bool.true, PySem.Value.int 181 0, PySem.Value.ref 23, PySem.Value.none, PySem.Value.ref 24, PySem.Value.ref 25, PySem.Value.ref 26, PySem.Value.int 201 0, PySem.Value.int 5 0, PySem.Value.str (PySem.Str.ofString "/claim/cut.py") 202] }
noncomputable def om28 (P : Params) : Obj := { cls := PySem.Value.type "function", data := PySem.Data.func { name := PySem.Str.ofString "learn_peer", qualname := PySem.Str.ofString "learn_peer", params := lf2.1.1, body := PySem.FuncBody.stmts lf2.1.2.1, scope := lf2.1.2.2, globals := 3, closure := [], defaults := PySem.Value.none, kwdefaults := PySem.Value.none, pyModule := PySem.Value.str (PySem.Str.ofString "quic.connin") 194, code := PySem.Value.ref 27 } }
noncomputable def om29 (P : Params) : Obj := { cls := PySem.Value.type "tuple", data := PySem.Data.seq #[PySem.Value.type "Exception"] }
noncomputable def om30 (P : Params) : Obj := { cls := PySem.Value.type "builtin_function_or_method", data := PySem.Data.fields #[PySem.Value.builtin "type.__prepare__", PySem.Value.type "type"] }
noncomputable def om31 (P : Params) : Obj := { cls := PySem.Value.type "dict", data := PySem.Data.dict #[{ hash := PySem.PyData.keyHash P (PySem.Str.ofString "__module__"), key := PySem.Value.str (PySem.Str.ofString "__module__") 217, val := PySem.Value.str (PySem.Str.ofString "quic.errors") 204 }, { hash := PySem.PyData.keyHash P (PySem.Str.ofString "__qualname__"), key := PySem.Value.str (PySem.Str.ofString "__qualname__") 219, val := PySem.Value.str (PySem.Str.ofString "QuicError") 218 }, { hash := PySem.PyData.keyHash P (PySem.Str.ofString "__firstlineno__"), key := PySem.Value.str (PySem.Str.ofString "__firstlineno__") 221, val := PySem.Value.int 15 220 }, { hash := PySem.PyData.keyHash P (PySem.Str.ofString "__init__"), key := PySem.Value.str (PySem.Str.ofString "__init__") 231, val := PySem.Value.ref 42 }, { hash := PySem.PyData.keyHash P (PySem.Str.ofString "__static_attributes__"), key := PySem.Value.str (PySem.Str.ofString "__static_attributes__") 235, val := PySem.Value.ref 43 }] 5 }
noncomputable def om32 (P : Params) : Obj := { cls := PySem.Value.type "tuple", data := PySem.Data.seq #[] }
noncomputable def om33 (P : Params) : Obj := { cls := PySem.Value.none, data := PySem.Data.fields #[PySem.Value.int 17 0, PySem.Value.int 4 0, PySem.Value.ref 41] }
noncomputable def om34 (P : Params) : Obj := { cls := PySem.Value.type "code", data := PySem.Data.fields #[PySem.Value.str (PySem.Str.ofString "QuicError") 212, PySem.Value.str (PySem.Str.ofString "QuicError") 213, PySem.Value.str (PySem.Str.ofString "/claim/cut.py") 214, PySem.Value.int 15 0, PySem.Value.int 0 0, PySem.Value.int 0 0, PySem.Value.int 0 0, PySem.Value.int 0 0, PySem.Value.ref 32, PySem.Value.bool Bool.false, PySem.Value.int 181 0, PySem.Value.ref 33, PySem.Value.none, PySem.Value.none, PySem.Value.none, PySem.Value.none, PySem.Value.int 215 0, PySem.Value.int 15 0, PySem.Value.str (PySem.Str.ofString "/claim/cut.py") 216] }
noncomputable def om35 (P : Params) : Obj := { cls := PySem.Value.type "frame", slots := #[Option.some (PySem.Value.ref 34), Option.some (PySem.Value.ref 3), Option.some (PySem.Value.ref 31), Option.none, Option.some (PySem.Value.str (PySem.Str.ofString "quic.errors") 204), Option.none, Option.some (PySem.Value.ref 0)] }
noncomputable def om36 (P : Params) : Obj := { cls := PySem.Value.type "tuple", data := PySem.Data.seq #[] }
noncomputable def om37 (P : Params) : Obj := { cls := PySem.Value.none, data := PySem.Data.fields #[] }
noncomputable def om38 (P : Params) : Obj := { cls := PySem.Value.type "tuple", data := PySem.Data.seq #[PySem.Value.str (PySem.Str.ofString "self") 225, PySem.Value.str (PySem.Str.ofString "code") 226, PySem.Value.str (PySem.Str.ofString "frame_type") 227, PySem.Value.str (PySem.Str.ofString "text") 228] }
noncomputable def om39 (P : Params) : Obj := { cls := PySem.Value.type "tuple", data := PySem.Data.seq #[] }
noncomputable def om40 (P : Params) : Obj := { cls := PySem.Value.none, data := PySem.Data.func { name := PySem.Str.ofString "__init__", qualname := PySem.Str.ofString "QuicError.__init__", params := lf6x0.1.1, body := PySem.FuncBody.stmts lf6x0.1.2.1, scope := lf6x0.1.2.2, globals := 0, closure := [], defaults := PySem.Value.none, kwdefaults := PySem.Value.none } }
noncomputable def om41 (P : Params) : Obj := { cls := PySem.Value.type "code", data := PySem.Data.fields #[PySem.Value.str (PySem.Str.ofString "__init__") 222, PySem.Value.str (PySem.Str.ofString "QuicError.__init__") 223, PySem.Value.str (PySem.Str.ofString "/claim/cut.py") 224, PySem.Value.int 17 0, PySem.Value.int 4 0, PySem.Value.int 0 0, PySem.Value.int 0 0, PySem.Value.int 3 0, PySem.Value.ref 36, PySem.Value.bool Bool.true, PySem.Value.int 181 0, PySem.Value.ref 37, PySem.Value.none, PySem.Value.ref 38, PySem.Value.ref 39, PySem.Value.ref 40, PySem.Value.int 229 0, PySem.Value.int 17 0, PySem.Value.str (PySem.Str.ofString "/claim/cut.py") 230] }
noncomputable def om42 (P : Params) : Obj := { cls := PySem.Value.type "function", data := PySem.Data.func { name := PySem.Str.ofString "__init__", qualname := PySem.Str.ofString "QuicError.__init__", params := lf6x0.1.1, body := PySem.FuncBody.stmts lf6x0.1.2.1, scope := lf6x0.1.2.2, globals := 3, closure := [], defaults := PySem.Value.none, kwdefaults := PySem.Value.none, pyModule := PySem.Value.str (PySem.Str.ofString "quic.errors") 204, code := PySem.Value.ref 41 } }
noncomputable def om43 (P : Params) : Obj := { cls := PySem.Value.type "tuple", data := PySem.Data.seq #[PySem.Value.str (PySem.Str.ofString "code") 232, PySem.Value.str (PySem.Str.ofString "frame_type") 233, PySem.Value.str (PySem.Str.ofString "text") 234] }
noncomputable def om44 (P : Params) : Obj := { cls := PySem.Value.type "dict", data := PySem.Data.dict #[{ hash := PySem.PyData.keyHash P (PySem.Str.ofString "__module__"), key := PySem.Value.str (PySem.Str.ofString "__module__") 217, val := PySem.Value.str (PySem.Str.ofString "quic.errors") 204 }, { hash := PySem.PyData.keyHash P (PySem.Str.ofString "__firstlineno__"), key := PySem.Value.str (PySem.Str.ofString "__firstlineno__") 221, val := PySem.Value.int 15 220 }, { hash := PySem.PyData.keyHash P (PySem.Str.ofString "__init__"), key := PySem.Value.str (PySem.Str.ofString "__init__") 231, val := PySem.Value.ref 42 }, { hash := PySem.PyData.keyHash P (PySem.Str.ofString "__static_attributes__"), key := PySem.Value.str (PySem.Str.ofString "__static_attributes__") 235, val := PySem.Value.ref 43 }, { hash := PySem.PyData.keyHash P (PySem.Str.ofString "__weakref__"), key := PySem.Value.str (PySem.Str.ofString "__weakref__") 237, val := PySem.Value.ref 46 }, { hash := PySem.PyData.keyHash P (PySem.Str.ofString "__doc__"), key := PySem.Value.str (PySem.Str.ofString "__doc__") 238, val := PySem.Value.none }] 3 }
noncomputable def om45 (P : Params) : Obj := { cls := PySem.Value.type "type", data := PySem.Data.cls { name := PySem.Str.ofString "QuicError", bases := [PySem.Value.type "Exception"], mro := [PySem.Value.ref 45, PySem.Value.type "Exception", PySem.Value.type "BaseException", PySem.Value.type "object"], ns := 44, qualname := PySem.Str.ofString "QuicError" }, slots := #[Option.some (PySem.Value.ref 29), Option.none, Option.some (PySem.Value.str (PySem.Str.ofString "QuicError") 210), Option.some (PySem.Value.str (PySem.Str.ofString "QuicError") 218), Option.some (PySem.Value.builtin "Exception.__new__"), Option.some (PySem.Value.bool Bool.true)] }
noncomputable def om46 (P : Params) : Obj := { cls := PySem.Value.type "getset_descriptor", data := PySem.Data.fields #[PySem.Value.str (PySem.Str.ofString "__weakref__") 236, PySem.Value.ref 45, PySem.Value.builtin "ExceptionGroup.__weakref__", PySem.Value.none] }
noncomputable def om47 (P : Params) : Obj := { cls := PySem.Value.type "super", data := PySem.Data.fields #[PySem.Value.ref 45, PySem.Value.ref 45, PySem.Value.ref 45] }
noncomputable def om48 (P : Params) : Obj := { cls := PySem.Value.type "builtin_function_or_method", data := PySem.Data.fields #[PySem.Value.builtin "object.__init_subclass__", PySem.Value.ref 45] }
noncomputable def om49 (P : Params) : Obj := { cls := PySem.Value.type "tuple", data := PySem.Data.seq #[] }
noncomputable def om50 (P : Params) : Obj := { cls := PySem.Value.type "builtin_function_or_method", data := PySem.Data.fields #[PySem.Value.builtin "type.__prepare__", PySem.Value.type "type"] }
noncomputable def om51 (P : Params) : Obj := { cls := PySem.Value.type "dict", data := PySem.Data.dict #[{ hash := PySem.PyData.keyHash P (PySem.Str.ofString "__module__"), key := PySem.Value.str (PySem.Str.ofString "__module__") 254, val := PySem.Value.str (PySem.Str.ofString "quic.cids") 243 }, { hash := PySem.PyData.keyHash P (PySem.Str.ofString "__qualname__"), key := PySem.Value.str (PySem.Str.ofString "__qualname__") 256, val := PySem.Value.str (PySem.Str.ofString "RemoteIds") 255 }, { hash := PySem.PyData.keyHash P (PySem.Str.ofString "__firstlineno__"), key := PySem.Value.str (PySem.Str.ofString "__firstlineno__") 258, val := PySem.Value.int 24 257 }, { hash := PySem.PyData.keyHash P (PySem.Str.ofString "__init__"), key := PySem.Value.str (PySem.Str.ofString "__init__") 268, val := PySem.Value.ref 62 }, { hash := PySem.PyData.keyHash P (PySem.Str.ofString "set_token"), key := PySem.Value.str (PySem.Str.ofString "set_token") 276, val := PySem.Value.ref 69 }, { hash := PySem.PyData.keyHash P (PySem.Str.ofString "check_new"), key := PySem.Value.str (PySem.Str.ofString "check_new") 287, val := PySem.Value.ref 76 }, { hash := PySem.PyData.keyHash P (PySem.Str.ofString "on_new"), key := PySem.Value.str (PySem.Str.ofString "on_new") 298, val := PySem.Value.ref 83 }, { hash := PySem.PyData.keyHash P (PySem.Str.ofString "retire_below"), key := PySem.Value.str (PySem.Str.ofString "retire_below") 307, val := PySem.Value.ref 90 }, { hash := PySem.PyData.keyHash P (PySem.Str.ofString "retire"), key := PySem.Value.str (PySem.Str.ofString "retire") 315, val := PySem.Value.ref 97 }, { hash := PySem.PyData.keyHash P (PySem.Str.ofString "use"), key := PySem.Value.str (PySem.Str.ofString "use") 323, val := PySem.Value.ref 104 }, { hash := PySem.PyData.keyHash P (PySem.Str.ofString "present"), key := PySem.Value.str (PySem.Str.ofString "present") 330, val := PySem.Value.ref 111 }, { hash := PySem.PyData.keyHash P (PySem.Str.ofString "fresh"), key := PySem.Value.str (PySem.Str.ofString "fresh") 336, val := PySem.Value.ref 116 }, { hash := PySem.PyData.keyHash P (PySem.Str.ofString "change"), key := PySem.Value.str (PySem.Str.ofString "change") 343, val := PySem.Value.ref 123 }, { hash := PySem.PyData.keyHash P (PySem.Str.ofString "frames"), key := PySem.Value.str (PySem.Str.ofString "frames") 350, val := PySem.Value.ref 130 }, { hash := PySem.PyData.keyHash P (PySem.Str.ofString "is_reset"), key := PySem.Value.str (PySem.Str.ofString "is_reset") 358, val := PySem.Value.ref 137 }, { hash := PySem.PyData.keyHash P (PySem.Str.ofString "__static_attributes__"), key := PySem.Value.str (PySem.Str.ofString "__static_attributes__") 367, val := PySem.Value.ref 138 }] 16 }
noncomputable def om52 (P : Params) : Obj := { cls := PySem.Value.type "tuple", data := PySem.Data.seq #[] }
noncomputable def om53 (P : Params) : Obj := { cls := PySem.Value.none, data := PySem.Data.fields #[PySem.Value.int 26 0, PySem.Value.int 4 0, PySem.Value.ref 61, PySem.Value.int 36 0, PySem.Value.int 4 0, PySem.Value.ref 68, PySem.Value.int 39 0, PySem.Value.int 4 0, PySem.Value.ref 75, PySem.Value.int 51 0, PySem.Value.int 4 0, PySem.Value.ref 82, PySem.Value.int 65 0, PySem.Value.int 4 0, PySem.Value.ref 89, PySem.Value.int 71 0, PySem.Value.int 4 0, PySem.Value.ref 96, PySem.Value.int 77 0, PySem.Value.int 4 0, PySem.Value.ref 103, PySem.Value.int 82 0, PySem.Value.int 4 0, PySem.Value.ref 110, PySem.Value.int 85 0, PySem.Value.int 4 0, PySem.Value.ref 115, PySem.Value.int 89 0, PySem.Value.int 4 0, PySem.Value.ref 122, PySem.Value.int 92 0, PySem.Value.int 4 0, PySem.Value.ref 129, PySem.Value.int 95 0, PySem.Value.int 4 0, PySem.Value.ref 136] }
noncomputable def om54 (P : Params) : Obj := { cls := PySem.Value.type "code", data := PySem.Data.fields #[PySem.Value.str (PySem.Str.ofString "RemoteIds") 249, PySem.Value.str (PySem.Str.ofString "RemoteIds") 250, PySem.Value.str (PySem.Str.ofString "/claim/cut.py") 251, PySem.Value.int 24 0, PySem.Value.int 0 0, PySem.Value.int 0 0, PySem.Value.int 0 0, PySem.Value.int 0 0, PySem.Value.ref 52, PySem.Value.bool Bool.false, PySem.Value.int 181 0, PySem.Value.ref 53, PySem.Value.none, PySem.Value.none, PySem.Value.none, PySem.Value.none, PySem.Value.int 252 0, PySem.Value.int 24 0, PySem.Value.str (PySem.Str.ofString "/claim/cut.py") 253] }
noncomputable def om55 (P : Params) : Obj := { cls := PySem.Value.type "frame", slots := #[Option.some (PySem.Value.ref 54), Option.some (PySem.Value.ref 3), Option.some (PySem.Value.ref 51), Option.none, Option.some (PySem.Value.str (PySem.Str.ofString "quic.cids") 243), Option.none, Option.some (PySem.Value.ref 0)] }
noncomputable def om56 (P : Params) : Obj := { cls := PySem.Value.type "tuple", data := PySem.Data.seq #[] }
noncomputable def om57 (P : Params) : Obj := { cls := PySem.Value.none, data := PySem.Data.fields #[] }
noncomputable def om58 (P : Params) : Obj := { cls := PySem.Value.type "tuple", data := PySem.Data.seq #[PySem.Value.str (PySem.Str.ofString "self") 262, PySem.Value.str (PySem.Str.ofString "first") 263, PySem.Value.str (PySem.Str.ofString "token") 264, PySem.Value.str (PySem.Str.ofString "limit") 265] }
noncomputable def om59 (P : Params) : Obj := { cls := PySem.Value.type "tuple", data := PySem.Data.seq #[] }
noncomputable def om60 (P : Params) : Obj := { cls := PySem.Value.none, data := PySem.Data.func { name := PySem.Str.ofString "__init__", qualname := PySem.Str.ofString "RemoteIds.__init__", params := lf9x0.1.1, body := PySem.FuncBody.stmts lf9x0.1.2.1, scope := lf9x0.1.2.2, globals := 0, closure := [], defaults := PySem.Value.none, kwdefaults := PySem.Value.none } }
noncomputable def om61 (P : Params) : Obj := { cls := PySem.Value.type "code", data := PySem.Data.fields #[PySem.Value.str (PySem.Str.ofString "__init__") 259, PySem.Value.str (PySem.Str.ofString "RemoteIds.__init__") 260, PySem.Value.str (PySem.Str.ofString "/claim/cut.py") 261, PySem.Value.int 26 0, PySem.Value.int 4 0, PySem.Value.int 0 0, PySem.Value.int 0 0, PySem.Value.int 3 0, PySem.Value.ref 56, PySem.Value.bool Bool.true, PySem.Value.int 181 0, PySem.Value.ref 57, PySem.Value.none, PySem.Value.ref 58, PySem.Value.ref 59, PySem.Value.ref 60, PySem.Value.int 266 0, PySem.Value.int 26 0, PySem.Value.str (PySem.Str.ofString "/claim/cut.py") 267] }
noncomputable def om62 (P : Params) : Obj := { cls := PySem.Value.type "function", data := PySem.Data.func { name := PySem.Str.ofString "__init__", qualname := PySem.Str.ofString "RemoteIds.__init__", params := lf9x0.1.1, body := PySem.FuncBody.stmts lf9x0.1.2.1, scope := lf9x0.1.2.2, globals := 3, closure := [], defaults := PySem.Value.none, kwdefaults := PySem.Value.none, pyModule := PySem.Value.str (PySem.Str.ofString "quic.cids") 243, code := PySem.Value.ref 61 } }
noncomputable def om63 (P : Params) : Obj := { cls := PySem.Value.type "tuple", data := PySem.Data.seq #[] }
noncomputable def om64 (P : Params) : Obj := { cls := PySem.Value.none, data := PySem.Data.fields #[] }
noncomputable def om65 (P : Params) : Obj := { cls := PySem.Value.type "tuple", data := PySem.Data.seq #[PySem.Value.str (PySem.Str.ofString "self") 272, PySem.Value.str (PySem.Str.ofString "token") 273] }
noncomputable def om66 (P : Params) : Obj := { cls := PySem.Value.type "tuple", data := PySem.Data.seq #[] }
noncomputable def om67 (P : Params) : Obj := { cls := PySem.Value.none, data := PySem.Data.func { name := PySem.Str.ofString "set_token", qualname := PySem.Str.ofString "RemoteIds.set_token", params := lf9x1.1.1, body := PySem.FuncBody.stmts lf9x1.1.2.1, scope := lf9x1.1.2.2, globals := 0, closure := [], defaults := PySem.Value.none, kwdefaults := PySem.Value.none } }
noncomputable def om68 (P : Params) : Obj := { cls := PySem.Value.type "code", data := PySem.Data.fields #[PySem.Value.str (PySem.Str.ofString "set_token") 269, PySem.Value.str (PySem.Str.ofString "RemoteIds.set_token") 270, PySem.Value.str (PySem.Str.ofString "/claim/cut.py") 271, PySem.Value.int 36 0, PySem.Value.int 2 0, PySem.Value.int 0 0, PySem.Value.int 0 0, PySem.Value.int 3 0, PySem.Value.ref 63, PySem.Value.bool Bool.true, PySem.Value.int 181 0, PySem.Value.ref 64, PySem.Value.none, PySem.Value.ref 65, PySem.Value.ref 66, PySem.Value.ref 67, PySem.Value.int 274 0, PySem.Value.int 36 0, PySem.Value.str (PySem.Str.ofString "/claim/cut.py") 275] }
noncomputable def om69 (P : Params) : Obj := { cls := PySem.Value.type "function", data := PySem.Data.func { name := PySem.Str.ofString "set_token", qualname := PySem.Str.ofString "RemoteIds.set_token", params := lf9x1.1.1, body := PySem.FuncBody.stmts lf9x1.1.2.1, scope := lf9x1.1.2.2, globals := 3, closure := [], defaults := PySem.Value.none, kwdefaults := PySem.Value.none, pyModule := PySem.Value.str (PySem.Str.ofString "quic.cids") 243, code := PySem.Value.ref 68 } }
noncomputable def om70 (P : Params) : Obj := { cls := PySem.Value.type "tuple", data := PySem.Data.seq #[] }
noncomputable def om71 (P : Params) : Obj := { cls := PySem.Value.none, data := PySem.Data.fields #[] }
noncomputable def om72 (P : Params) : Obj := { cls := PySem.Value.type "tuple", data := PySem.Data.seq #[PySem.Value.str (PySem.Str.ofString "self") 280, PySem.Value.str (PySem.Str.ofString "number") 281, PySem.Value.str (PySem.Str.ofString "cid") 282, PySem.Value.str (PySem.Str.ofString "token") 283, PySem.Value.str (PySem.Str.ofString "other") 284] }
noncomputable def om73 (P : Params) : Obj := { cls := PySem.Value.type "tuple", data := PySem.Data.seq #[] }
noncomputable def om74 (P : Params) : Obj := { cls := PySem.Value.none, data := PySem.Data.func { name := PySem.Str.ofString "check_new", qualname := PySem.Str.ofString "RemoteIds.check_new", params := lf9x2.1.1, body := PySem.FuncBody.stmts lf9x2.1.2.1, scope := lf9x2.1.2.2, globals := 0, closure := [], defaults := PySem.Value.none, kwdefaults := PySem.Value.none } }
noncomputable def om75 (P : Params) : Obj := { cls := PySem.Value.type "code", data := PySem.Data.fields #[PySem.Value.str (PySem.Str.ofString "check_new") 277, PySem.Value.str (PySem.Str.ofString "RemoteIds.check_new") 278, PySem.Value.str (PySem.Str.ofString "/claim/cut.py") 279, PySem.Value.int 39 0, PySem.Value.int 4 0, PySem.Value.int 0 0, PySem.Value.int 0 0, PySem.Value.int 3 0, PySem.Value.ref 70, PySem.Value.bool Bool.true, PySem.Value.int 181 0, PySem.Value.ref 71, PySem.Value.none, PySem.Value.ref 72, PySem.Value.ref 73, PySem.Value.ref 74, PySem.Value.int 285 0, PySem.Value.int 39 0, PySem.Value.str (PySem.Str.ofString "/claim/cut.py") 286] }
noncomputable def om76 (P : Params) : Obj := { cls := PySem.Value.type "function", data := PySem.Data.func { name := PySem.Str.ofString "check_new", qualname := PySem.Str.ofString "RemoteIds.check_new", params := lf9x2.1.1, body := PySem.FuncBody.stmts lf9x2.1.2.1, scope := lf9x2.1.2.2, globals := 3, closure := [], defaults := PySem.Value.none, kwdefaults := PySem.Value.none, pyModule := PySem.Value.str (PySem.Str.ofString "quic.cids") 243, code := PySem.Value.ref 75 } }
noncomputable def om77 (P : Params) : Obj := { cls := PySem.Value.type "tuple", data := PySem.Data.seq #[] }
noncomputable def om78 (P : Params) : Obj := { cls := PySem.Value.none, data := PySem.Data.fields #[] }
noncomputable def om79 (P : Params) : Obj := { cls := PySem.Value.type "tuple", data := PySem.Data.seq #[PySem.Value.str (PySem.Str.ofString "self") 291, PySem.Value.str (PySem.Str.ofString "number") 292, PySem.Value.str (PySem.Str.ofString "prior") 293, PySem.Value.str (PySem.Str.ofString "cid") 294, PySem.Value.str (PySem.Str.ofString "token") 295] }
noncomputable def om80 (P : Params) : Obj := { cls := PySem.Value.type "tuple", data := PySem.Data.seq #[] }
noncomputable def om81 (P : Params) : Obj := { cls := PySem.Value.none, data := PySem.Data.func { name := PySem.Str.ofString "on_new", qualname := PySem.Str.ofString "RemoteIds.on_new", params := lf9x3.1.1, body := PySem.FuncBody.stmts lf9x3.1.2.1, scope := lf9x3.1.2.2, globals := 0, closure := [], defaults := PySem.Value.none, kwdefaults := PySem.Value.none } }
noncomputable def om82 (P : Params) : Obj := { cls := PySem.Value.type "code", data := PySem.Data.fields #[PySem.Value.str (PySem.Str.ofString "on_new") 288, PySem.Value.str (PySem.Str.ofString "RemoteIds.on_new") 289, PySem.Value.str (PySem.Str.ofString "/claim/cut.py") 290, PySem.Value.int 51 0, PySem.Value.int 5 0, PySem.Value.int 0 0, PySem.Value.int 0 0, PySem.Value.int 3 0, PySem.Value.ref 77, PySem.Value.bool Bool.true, PySem.Value.int 181 0, PySem.Value.ref 78, PySem.Value.none, PySem.Value.ref 79, PySem.Value.ref 80, PySem.Value.ref 81, PySem.Value.int 296 0, PySem.Value.int 51 0, PySem.Value.str (PySem.Str.ofString "/claim/cut.py") 297] }
noncomputable def om83 (P : Params) : Obj := { cls := PySem.Value.type "function", data := PySem.Data.func { name := PySem.Str.ofString "on_new", qualname := PySem.Str.ofString "RemoteIds.on_new", params := lf9x3.1.1, body := PySem.FuncBody.stmts lf9x3.1.2.1, scope := lf9x3.1.2.2, globals := 3, closure := [], defaults := PySem.Value.none, kwdefaults := PySem.Value.none, pyModule := PySem.Value.str (PySem.Str.ofString "quic.cids") 243, code := PySem.Value.ref 82 } }
noncomputable def om84 (P : Params) : Obj := { cls := PySem.Value.type "tuple", data := PySem.Data.seq #[] }
noncomputable def om85 (P : Params) : Obj := { cls := PySem.Value.none, data := PySem.Data.fields #[] }
noncomputable def om86 (P : Params) : Obj := { cls := PySem.Value.type "tuple", data := PySem.Data.seq #[PySem.Value.str (PySem.Str.ofString "self") 302, PySem.Value.str (PySem.Str.ofString "prior") 303, PySem.Value.str (PySem.Str.ofString "number") 304] }
noncomputable def om87 (P : Params) : Obj := { cls := PySem.Value.type "tuple", data := PySem.Data.seq #[] }
noncomputable def om88 (P : Params) : Obj := { cls := PySem.Value.none, data := PySem.Data.func { name := PySem.Str.ofString "retire_below", qualname := PySem.Str.ofString "RemoteIds.retire_below", params := lf9x4.1.1, body := PySem.FuncBody.stmts lf9x4.1.2.1, scope := lf9x4.1.2.2, globals := 0, closure := [], defaults := PySem.Value.none, kwdefaults := PySem.Value.none } }
noncomputable def om89 (P : Params) : Obj := { cls := PySem.Value.type "code", data := PySem.Data.fields #[PySem.Value.str (PySem.Str.ofString "retire_below") 299, PySem.Value.str (PySem.Str.ofString "RemoteIds.retire_below") 300, PySem.Value.str (PySem.Str.ofString "/claim/cut.py") 301, PySem.Value.int 65 0, PySem.Value.int 2 0, PySem.Value.int 0 0, PySem.Value.int 0 0, PySem.Value.int 3 0, PySem.Value.ref 84, PySem.Value.bool Bool.true, PySem.Value.int 181 0, PySem.Value.ref 85, PySem.Value.none, PySem.Value.ref 86, PySem.Value.ref 87, PySem.Value.ref 88, PySem.Value.int 305 0, PySem.Value.int 65 0, PySem.Value.str (PySem.Str.ofString "/claim/cut.py") 306] }
noncomputable def om90 (P : Params) : Obj := { cls := PySem.Value.type "function", data := PySem.Data.func { name := PySem.Str.ofString "retire_below", qualname := PySem.Str.ofString "RemoteIds.retire_below", params := lf9x4.1.1, body := PySem.FuncBody.stmts lf9x4.1.2.1, scope := lf9x4.1.2.2, globals := 3, closure := [], defaults := PySem.Value.none, kwdefaults := PySem.Value.none, pyModule := PySem.Value.str (PySem.Str.ofString "quic.cids") 243, code := PySem.Value.ref 89 } }
noncomputable def om91 (P : Params) : Obj := { cls := PySem.Value.type "tuple", data := PySem.Data.seq #[] }
noncomputable def om92 (P : Params) : Obj := { cls := PySem.Value.none, data := PySem.Data.fields #[] }
noncomputable def om93 (P : Params) : Obj := { cls := PySem.Value.type "tuple", data := PySem.Data.seq #[PySem.Value.str (PySem.Str.ofString "self") 311, PySem.Value.str (PySem.Str.ofString "number") 312] }
noncomputable def om94 (P : Params) : Obj := { cls := PySem.Value.type "tuple", data := PySem.Data.seq #[] }
noncomputable def om95 (P : Params) : Obj := { cls := PySem.Value.none, data := PySem.Data.func { name := PySem.Str.ofString "retire", qualname := PySem.Str.ofString "RemoteIds.retire", params := lf9x5.1.1, body := PySem.FuncBody.stmts lf9x5.1.2.1, scope := lf9x5.1.2.2, globals := 0, closure := [], defaults := PySem.Value.none, kwdefaults := PySem.Value.none } }
noncomputable def om96 (P : Params) : Obj := { cls := PySem.Value.type "code", data := PySem.Data.fields #[PySem.Value.str (PySem.Str.ofString "retire") 308, PySem.Value.str (PySem.Str.ofString "RemoteIds.retire") 309, PySem.Value.str (PySem.Str.ofString "/claim/cut.py") 310, PySem.Value.int 71 0, PySem.Value.int 2 0, PySem.Value.int 0 0, PySem.Value.int 0 0, PySem.Value.int 3 0, PySem.Value.ref 91, PySem.Value.bool Bool.true, PySem.Value.int 181 0, PySem.Value.ref 92, PySem.Value.none, PySem.Value.ref 93, PySem.Value.ref 94, PySem.Value.ref 95, PySem.Value.int 313 0, PySem.Value.int 71 0, PySem.Value.str (PySem.Str.ofString "/claim/cut.py") 314] }
noncomputable def om97 (P : Params) : Obj := { cls := PySem.Value.type "function", data := PySem.Data.func { name := PySem.Str.ofString "retire", qualname := PySem.Str.ofString "RemoteIds.retire", params := lf9x5.1.1, body := PySem.FuncBody.stmts lf9x5.1.2.1, scope := lf9x5.1.2.2, globals := 3, closure := [], defaults := PySem.Value.none, kwdefaults := PySem.Value.none, pyModule := PySem.Value.str (PySem.Str.ofString "quic.cids") 243, code := PySem.Value.ref 96 } }
noncomputable def om98 (P : Params) : Obj := { cls := PySem.Value.type "tuple", data := PySem.Data.seq #[] }
noncomputable def om99 (P : Params) : Obj := { cls := PySem.Value.none, data := PySem.Data.fields #[] }
noncomputable def om100 (P : Params) : Obj := { cls := PySem.Value.type "tuple", data := PySem.Data.seq #[PySem.Value.str (PySem.Str.ofString "self") 319, PySem.Value.str (PySem.Str.ofString "number") 320] }
noncomputable def om101 (P : Params) : Obj := { cls := PySem.Value.type "tuple", data := PySem.Data.seq #[] }
noncomputable def om102 (P : Params) : Obj := { cls := PySem.Value.none, data := PySem.Data.func { name := PySem.Str.ofString "use", qualname := PySem.Str.ofString "RemoteIds.use", params := lf9x6.1.1, body := PySem.FuncBody.stmts lf9x6.1.2.1, scope := lf9x6.1.2.2, globals := 0, closure := [], defaults := PySem.Value.none, kwdefaults := PySem.Value.none } }
noncomputable def om103 (P : Params) : Obj := { cls := PySem.Value.type "code", data := PySem.Data.fields #[PySem.Value.str (PySem.Str.ofString "use") 316, PySem.Value.str (PySem.Str.ofString "RemoteIds.use") 317, PySem.Value.str (PySem.Str.ofString "/claim/cut.py") 318, PySem.Value.int 77 0, PySem.Value.int 2 0, PySem.Value.int 0 0, PySem.Value.int 0 0, PySem.Value.int 3 0, PySem.Value.ref 98, PySem.Value.bool Bool.true, PySem.Value.int 181 0, PySem.Value.ref 99, PySem.Value.none, PySem.Value.ref 100, PySem.Value.ref 101, PySem.Value.ref 102, PySem.Value.int 321 0, PySem.Value.int 77 0, PySem.Value.str (PySem.Str.ofString "/claim/cut.py") 322] }
noncomputable def om104 (P : Params) : Obj := { cls := PySem.Value.type "function", data := PySem.Data.func { name := PySem.Str.ofString "use", qualname := PySem.Str.ofString "RemoteIds.use", params := lf9x6.1.1, body := PySem.FuncBody.stmts lf9x6.1.2.1, scope := lf9x6.1.2.2, globals := 3, closure := [], defaults := PySem.Value.none, kwdefaults := PySem.Value.none, pyModule := PySem.Value.str (PySem.Str.ofString "quic.cids") 243, code := PySem.Value.ref 103 } }
noncomputable def om105 (P : Params) : Obj := { cls := PySem.Value.type "tuple", data := PySem.Data.seq #[] }
noncomputable def om106 (P : Params) : Obj := { cls := PySem.Value.none, data := PySem.Data.fields #[] }
noncomputable def om107 (P : Params) : Obj := { cls := PySem.Value.type "tuple", data := PySem.Data.seq #[PySem.Value.str (PySem.Str.ofString "self") 327] }
noncomputable def om108 (P : Params) : Obj := { cls := PySem.Value.type "tuple", data := PySem.Data.seq #[] }
noncomputable def om109 (P : Params) : Obj := { cls := PySem.Value.none, data := PySem.Data.func { name := PySem.Str.ofString "present", qualname := PySem.Str.ofString "RemoteIds.present", params := lf9x7.1.1, body := PySem.FuncBody.stmts lf9x7.1.2.1, scope := lf9x7.1.2.2, globals := 0, closure := [], defaults := PySem.Value.none, kwdefaults := PySem.Value.none } }
noncomputable def om110 (P : Params) : Obj := { cls := PySem.Value.type "code", data := PySem.Data.fields #[PySem.Value.str (PySem.Str.ofString "present") 324, PySem.Value.str (PySem.Str.ofString "RemoteIds.present") 325, PySem.Value.str (PySem.Str.ofString "/claim/cut.py") 326, PySem.Value.int 82 0, PySem.Value.int 1 0, PySem.Value.int 0 0, PySem.Value.int 0 0, PySem.Value.int 3 0, PySem.Value.ref 105, PySem.Value.bool Bool.true, PySem.Value.int 181 0, PySem.Value.ref 106, PySem.Value.none, PySem.Value.ref 107, PySem.Value.ref 108, PySem.Value.ref 109, PySem.Value.int 328 0, PySem.Value.int 82 0, PySem.Value.str (PySem.Str.ofString "/claim/cut.py") 329] }
noncomputable def om111 (P : Params) : Obj := { cls := PySem.Value.type "function", data := PySem.Data.func { name := PySem.Str.ofString "present", qualname := PySem.Str.ofString "RemoteIds.present", params := lf9x7.1.1, body := PySem.FuncBody.stmts lf9x7.1.2.1, scope := lf9x7.1.2.2, globals := 3, closure := [], defaults := PySem.Value.none, kwdefaults := PySem.Value.none, pyModule := PySem.Value.str (PySem.Str.ofString "quic.cids") 243, code := PySem.Value.ref 110 } }
noncomputable def om112 (P : Params) : Obj := { cls := PySem.Value.type "tuple", data := PySem.Data.seq #[] }
noncomputable def om113 (P : Params) : Obj := { cls := PySem.Value.none, data := PySem.Data.fields #[] }
noncomputable def om114 (P : Params) : Obj := { cls := PySem.Value.none, data := PySem.Data.func { name := PySem.Str.ofString "fresh", qualname := PySem.Str.ofString "RemoteIds.fresh", params := lf9x8.1.1, body := PySem.FuncBody.stmts lf9x8.1.2.1, scope := lf9x8.1.2.2, globals := 0, closure := [], defaults := PySem.Value.none, kwdefaults := PySem.Value.none } }
noncomputable def om115 (P : Params) : Obj := { cls := PySem.Value.type "code", data := PySem.Data.fields #[PySem.Value.str (PySem.Str.ofString "fresh") 331, PySem.Value.str (PySem.Str.ofString "RemoteIds.fresh") 332, PySem.Value.str (PySem.Str.ofString "/claim/cut.py") 333, PySem.Value.int 85 0, PySem.Value.int 1 0, PySem.Value.int 0 0, PySem.Value.int 0 0, PySem.Value.int 3 0, PySem.Value.ref 112, PySem.Value.bool Bool.true, PySem.Value.int 181 0, PySem.Value.ref 113, PySem.Value.none, PySem.Value.none, PySem.Value.none, PySem.Value.ref 114, PySem.Value.int 334 0, PySem.Value.int 85 0, PySem.Value.str (PySem.Str.ofString "/claim/cut.py") 335] }
noncomputable def om116 (P : Params) : Obj := { cls := PySem.Value.type "function", data := PySem.Data.func { name := PySem.Str.ofString "fresh", qualname := PySem.Str.ofString "RemoteIds.fresh", params := lf9x8.1.1, body := PySem.FuncBody.stmts lf9x8.1.2.1, scope := lf9x8.1.2.2, globals := 3, closure := [], defaults := PySem.Value.none, kwdefaults := PySem.Value.none, pyModule := PySem.Value.str (PySem.Str.ofString "quic.cids") 243, code := PySem.Value.ref 115 } }
noncomputable def om117 (P : Params) : Obj := { cls := PySem.Value.type "tuple", data := PySem.Data.seq #[] }
noncomputable def om118 (P : Params) : Obj := { cls := PySem.Value.none, data := PySem.Data.fields #[] }
noncomputable def om119 (P : Params) : Obj := { cls := PySem.Value.type "tuple", data := PySem.Data.seq #[PySem.Value.str (PySem.Str.ofString "self") 340] }
noncomputable def om120 (P : Params) : Obj := { cls := PySem.Value.type "tuple", data := PySem.Data.seq #[] }
noncomputable def om121 (P : Params) : Obj := { cls := PySem.Value.none, data := PySem.Data.func { name := PySem.Str.ofString "change", qualname := PySem.Str.ofString "RemoteIds.change", params := lf9x9.1.1, body := PySem.FuncBody.stmts lf9x9.1.2.1, scope := lf9x9.1.2.2, globals := 0, closure := [], defaults := PySem.Value.none, kwdefaults := PySem.Value.none } }
noncomputable def om122 (P : Params) : Obj := { cls := PySem.Value.type "code", data := PySem.Data.fields #[PySem.Value.str (PySem.Str.ofString "change") 337, PySem.Value.str (PySem.Str.ofString "RemoteIds.change") 338, PySem.Value.str (PySem.Str.ofString "/claim/cut.py") 339, PySem.Value.int 89 0, PySem.Value.int 1 0, PySem.Value.int 0 0, PySem.Value.int 0 0, PySem.Value.int 3 0, PySem.Value.ref 117, PySem.Value.bool Bool.true, PySem.Value.int 181 0, PySem.Value.ref 118, PySem.Value.none, PySem.Value.ref 119, PySem.Value.ref 120, PySem.Value.ref 121, PySem.Value.int 341 0, PySem.Value.int 89 0, PySem.Value.str (PySem.Str.ofString "/claim/cut.py") 342] }
noncomputable def om123 (P : Params) : Obj := { cls := PySem.Value.type "function", data := PySem.Data.func { name := PySem.Str.ofString "change", qualname := PySem.Str.ofString "RemoteIds.change", params := lf9x9.1.1, body := PySem.FuncBody.stmts lf9x9.1.2.1, scope := lf9x9.1.2.2, globals := 3, closure := [], defaults := PySem.Value.none, kwdefaults := PySem.Value.none, pyModule := PySem.Value.str (PySem.Str.ofString "quic.cids") 243, code := PySem.Value.ref 122 } }
noncomputable def om124 (P : Params) : Obj := { cls := PySem.Value.type "tuple", data := PySem.Data.seq #[] }
noncomputable def om125 (P : Params) : Obj := { cls := PySem.Value.none, data := PySem.Data.fields #[] }
noncomputable def om126 (P : Params) : Obj := { cls := PySem.Value.type "tuple", data := PySem.Data.seq #[PySem.Value.str (PySem.Str.ofString "self") 347] }
noncomputable def om127 (P : Params) : Obj := { cls := PySem.Value.type "tuple", data := PySem.Data.seq #[] }
noncomputable def om128 (P : Params) : Obj := { cls := PySem.Value.none, data := PySem.Data.func { name := PySem.Str.ofString "frames", qualname := PySem.Str.ofString "RemoteIds.frames", params := lf9x10.1.1, body := PySem.FuncBody.stmts lf9x10.1.2.1, scope := lf9x10.1.2.2, globals := 0, closure := [], defaults := PySem.Value.none, kwdefaults := PySem.Value.none } }
noncomputable def om129 (P : Params) : Obj := { cls := PySem.Value.type "code", data := PySem.Data.fields #[PySem.Value.str (PySem.Str.ofString "frames") 344, PySem.Value.str (PySem.Str.ofString "RemoteIds.frames") 345, PySem.Value.str (PySem.Str.ofString "/claim/cut.py") 346, PySem.Value.int 92 0, PySem.Value.int 1 0, PySem.Value.int 0 0, PySem.Value.int 0 0, PySem.Value.int 3 0, PySem.Value.ref 124, PySem.Value.bool Bool.true, PySem.Value.int 181 0, PySem.Value.ref 125, PySem.Value.none, PySem.Value.ref 126, PySem.Value.ref 127, PySem.Value.ref 128, PySem.Value.int 348 0, PySem.Value.int 92 0, PySem.Value.str (PySem.Str.ofString "/claim/cut.py") 349] }
noncomputable def om130 (P : Params) : Obj := { cls := PySem.Value.type "function", data := PySem.Data.func { name := PySem.Str.ofString "frames", qualname := PySem.Str.ofString "RemoteIds.frames", params := lf9x10.1.1, body := PySem.FuncBody.stmts lf9x10.1.2.1, scope := lf9x10.1.2.2, globals := 3, closure := [], defaults := PySem.Value.none, kwdefaults := PySem.Value.none, pyModule := PySem.Value.str (PySem.Str.ofString "quic.cids") 243, code := PySem.Value.ref 129 } }
noncomputable def om131 (P : Params) : Obj := { cls := PySem.Value.type "tuple", data := PySem.Data.seq #[] }
noncomputable def om132 (P : Params) : Obj := { cls := PySem.Value.none, data := PySem.Data.fields #[] }
noncomputable def om133 (P : Params) : Obj := { cls := PySem.Value.type "tuple", data := PySem.Data.seq #[PySem.Value.str (PySem.Str.ofString "self") 354, PySem.Value.str (PySem.Str.ofString "datagram") 355] }
noncomputable def om134 (P : Params) : Obj := { cls := PySem.Value.type "tuple", data := PySem.Data.seq #[] }
noncomputable def om135 (P : Params) : Obj := { cls := PySem.Value.none, data := PySem.Data.func { name := PySem.Str.ofString "is_reset", qualname := PySem.Str.ofString "RemoteIds.is_reset", params := lf9x11.1.1, body := PySem.FuncBody.stmts lf9x11.1.2.1, scope := lf9x11.1.2.2, globals := 0, closure := [], defaults := PySem.Value.none, kwdefaults := PySem.Value.none } }
noncomputable def om136 (P : Params) : Obj := { cls := PySem.Value.type "code", data := PySem.Data.fields #[PySem.Value.str (PySem.Str.ofString "is_reset") 351, PySem.Value.str (PySem.Str.ofString "RemoteIds.is_reset") 352, PySem.Value.str (PySem.Str.ofString "/claim/cut.py") 353, PySem.Value.int 95 0, PySem.Value.int 2 0, PySem.Value.int 0 0, PySem.Value.int 0 0, PySem.Value.int 3 0, PySem.Value.ref 131, PySem.Value.bool Bool.true, PySem.Value.int 181 0, PySem.Value.ref 132, PySem.Value.none, PySem.Value.ref 133, PySem.Value.ref 134, PySem.Value.ref 135, PySem.Value.int 356 0, PySem.Value.int 95 0, PySem.Value.str (PySem.Str.ofString "/claim/cut.py") 357] }
noncomputable def om137 (P : Params) : Obj := { cls := PySem.Value.type "function", data := PySem.Data.func { name := PySem.Str.ofString "is_reset", qualname := PySem.Str.ofString "RemoteIds.is_reset", params := lf9x11.1.1, body := PySem.FuncBody.stmts lf9x11.1.2.1, scope := lf9x11.1.2.2, globals := 3, closure := [], defaults := PySem.Value.none, kwdefaults := PySem.Value.none, pyModule := PySem.Value.str (PySem.Str.ofString "quic.cids") 243, code := PySem.Value.ref 136 } }
noncomputable def om138 (P : Params) : Obj := { cls := PySem.Value.type "tuple", data := PySem.Data.seq #[PySem.Value.str (PySem.Str.ofString "current") 359, PySem.Value.str (PySem.Str.ofString "is_empty") 360, PySem.Value.str (PySem.Str.ofString "known") 361, PySem.Value.str (PySem.Str.ofString "limit") 362, PySem.Value.str (PySem.Str.ofString "retire_prior") 363, PySem.Value.str (PySem.Str.ofString "to_retire") 364, PySem.Value.str (PySem.Str.ofString "told") 365, PySem.Value.str (PySem.Str.ofString "used") 366] }
noncomputable def om139 (P : Params) : Obj := { cls := PySem.Value.type "dict", data := PySem.Data.dict #[{ hash := PySem.PyData.keyHash P (PySem.Str.ofString "__module__"), key := PySem.Value.str (PySem.Str.ofString "__module__") 254, val := PySem.Value.str (PySem.Str.ofString "quic.cids") 243 }, { hash := PySem.PyData.keyHash P (PySem.Str.ofString "__firstlineno__"), key := PySem.Value.str (PySem.Str.ofString "__firstlineno__") 258, val := PySem.Value.int 24 257 }, { hash := PySem.PyData.keyHash P (PySem.Str.ofString "__init__"), key := PySem.Value.str (PySem.Str.ofString "__init__") 268, val := PySem.Value.ref 62 }, { hash := PySem.PyData.keyHash P (PySem.Str.ofString "set_token"), key := PySem.Value.str (PySem.Str.ofString "set_token") 276, val := PySem.Value.ref 69 }, { hash := PySem.PyData.keyHash P (PySem.Str.ofString "check_new"), key := PySem.Value.str (PySem.Str.ofString "check_new") 287, val := PySem.Value.ref 76 }, { hash := PySem.PyData.keyHash P (PySem.Str.ofString "on_new"), key := PySem.Value.str (PySem.Str.ofString "on_new") 298, val := PySem.Value.ref 83 }, { hash := PySem.PyData.keyHash P (PySem.Str.ofString "retire_below"), key := PySem.Value.str (PySem.Str.ofString "retire_below") 307, val := PySem.Value.ref 90 }, { hash := PySem.PyData.keyHash P (PySem.Str.ofString "retire"), key := PySem.Value.str (PySem.Str.ofString "retire") 315, val := PySem.Value.ref 97 }, { hash := PySem.PyData.keyHash P (PySem.Str.ofString "use"), key := PySem.Value.str (PySem.Str.ofString "use") 323, val := PySem.Value.ref 104 }, { hash := PySem.PyData.keyHash P (PySem.Str.ofString "present"), key := PySem.Value.str (PySem.Str.ofString "present") 330, val := PySem.Value.ref 111 }, { hash := PySem.PyData.keyHash P (PySem.Str.ofString "fresh"), key := PySem.Value.str (PySem.Str.ofString "fresh") 336, val := PySem.Value.ref 116 }, { hash := PySem.PyData.keyHash P (PySem.Str.ofString "change"), key := PySem.Value.str (PySem.Str.ofString "change") 343, val := PySem.Value.ref 123 }, { hash := PySem.PyData.keyHash P (PySem.Str.ofString "frames"), key := PySem.Value.str (PySem.Str.ofString "frames") 350, val := PySem.Value.ref 130 }, { hash := PySem.PyData.keyHash P (PySem.Str.ofString "is_reset"), key := PySem.Value.str (PySem.Str.ofString "is_reset") 358, val := PySem.Value.ref 137 }, { hash := PySem.PyData.keyHash P (PySem.Str.ofString "__static_attributes__"), key := PySem.Value.str (PySem.Str.ofString "__static_attributes__") 367, val := PySem.Value.ref 138 }, { hash := PySem.PyData.keyHash P (PySem.Str.ofString "__dict__"), key := PySem.Value.str (PySem.Str.ofString "__dict__") 369, val := PySem.Value.ref 141 }, { hash := PySem.PyData.keyHash P (PySem.Str.ofString "__weakref__"), key := PySem.Value.str (PySem.Str.ofString "__weakref__") 371, val := PySem.Value.ref 142 }, { hash := PySem.PyData.keyHash P (PySem.Str.ofString "__doc__"), key := PySem.Value.str (PySem.Str.ofString "__doc__") 372, val := PySem.Value.none }] 4 }
noncomputable def om140 (P : Params) : Obj := { cls := PySem.Value.type "type", data := PySem.Data.cls { name := PySem.Str.ofString "RemoteIds", bases := [PySem.Value.type "object"], mro := [PySem.Value.ref 140, PySem.Value.type "object"], ns := 139, qualname := PySem.Str.ofString "RemoteIds" }, slots := #[Option.none, Option.none, Option.some (PySem.Value.str (PySem.Str.ofString "RemoteIds") 247), Option.some (PySem.Value.str (PySem.Str.ofString "RemoteIds") 255), Option.some (PySem.Value.builtin "object.__new__"), Option.some (PySem.Value.bool Bool.true)] }
noncomputable def om141 (P : Params) : Obj := { cls := PySem.Value.type "getset_descriptor", data := PySem.Data.fields #[PySem.Value.str (PySem.Str.ofString "__dict__") 368, PySem.Value.ref 140, PySem.Value.builtin "function.__dict__", PySem.Value.builtin "function.__dict__#set"] }
noncomputable def om142 (P : Params) : Obj := { cls := PySem.Value.type "getset_descriptor", data := PySem.Data.fields #[PySem.Value.str (PySem.Str.ofString "__weakref__") 370, PySem.Value.ref 140, PySem.Value.builtin "ExceptionGroup.__weakref__", PySem.Value.none] }
noncomputable def om143 (P : Params) : Obj := { cls := PySem.Value.type "super", data := PySem.Data.fields #[PySem.Value.ref 140, PySem.Value.ref 140, PySem.Value.ref 140] }
noncomputable def om144 (P : Params) : Obj := { cls := PySem.Value.type "builtin_function_or_method", data := PySem.Data.fields #[PySem.Value.builtin "object.__init_subclass__", PySem.Value.ref 140] }
noncomputable def om145 (P : Params) : Obj := { cls := PySem.Value.type "tuple", data := PySem.Data.seq #[] }
noncomputable def om146 (P : Params) : Obj := { cls := PySem.Value.type "builtin_function_or_method", data := PySem.Data.fields #[PySem.Value.builtin "type.__prepare__", PySem.Value.type "type"] }
noncomputable def om147 (P : Params) : Obj := { cls := PySem.Value.type "dict", data := PySem.Data.dict #[{ hash := PySem.PyData.keyHash P (PySem.Str.ofString "__module__"), key := PySem.Value.str (PySem.Str.ofString "__module__") 386, val := PySem.Value.str (PySem.Str.ofString "quic.longheads") 375 }, { hash := PySem.PyData.keyHash P (PySem.Str.ofString "__qualname__"), key := PySem.Value.str (PySem.Str.ofString "__qualname__") 388, val := PySem.Value.str (PySem.Str.ofString "RawPacket") 387 }, { hash := PySem.PyData.keyHash P (PySem.Str.ofString "__firstlineno__"), key := PySem.Value.str (PySem.Str.ofString "__firstlineno__") 390, val := PySem.Value.int 99 389 }, { hash := PySem.PyData.keyHash P (PySem.Str.ofString "__init__"), key := PySem.Value.str (PySem.Str.ofString "__init__") 401, val := PySem.Value.ref 158 }, { hash := PySem.PyData.keyHash P (PySem.Str.ofString "__static_attributes__"), key := PySem.Value.str (PySem.Str.ofString "__static_attributes__") 413, val := PySem.Value.ref 159 }] 5 }
noncomputable def om148 (P : Params) : Obj := { cls := PySem.Value.type "tuple", data := PySem.Data.seq #[] }
noncomputable def om149 (P : Params) : Obj := { cls := PySem.Value.none, data := PySem.Data.fields #[PySem.Value.int 101 0, PySem.Value.int 4 0, PySem.Value.ref 157] }
noncomputable def om150 (P : Params) : Obj := { cls := PySem.Value.type "code", data := PySem.Data.fields #[PySem.Value.str (PySem.Str.ofString "RawPacket") 381, PySem.Value.str (PySem.Str.ofString "RawPacket") 382, PySem.Value.str (PySem.Str.ofString "/claim/cut.py") 383, PySem.Value.int 99 0, PySem.Value.int 0 0, PySem.Value.int 0 0, PySem.Value.int 0 0, PySem.Value.int 0 0, PySem.Value.ref 148, PySem.Value.bool Bool.false, PySem.Value.int 181 0, PySem.Value.ref 149, PySem.Value.none, PySem.Value.none, PySem.Value.none, PySem.Value.none, PySem.Value.int 384 0, PySem.Value.int 99 0, PySem.Value.str (PySem.Str.ofString "/claim/cut.py") 385] }
noncomputable def om151 (P : Params) : Obj := { cls := PySem.Value.type "frame", slots := #[Option.some (PySem.Value.ref 150), Option.some (PySem.Value.ref 3), Option.some (PySem.Value.ref 147), Option.none, Option.some (PySem.Value.str (PySem.Str.ofString "quic.longheads") 375), Option.none, Option.some (PySem.Value.ref 0)] }
noncomputable def om152 (P : Params) : Obj := { cls := PySem.Value.type "tuple", data := PySem.Data.seq #[] }
noncomputable def om153 (P : Params) : Obj := { cls := PySem.Value.none, data := PySem.Data.fields #[] }
noncomputable def om154 (P : Params) : Obj := { cls := PySem.Value.type "tuple", data := PySem.Data.seq #[PySem.Value.str (PySem.Str.ofString "self") 394, PySem.Value.str (PySem.Str.ofString "kind") 395, PySem.Value.str (PySem.Str.ofString "first") 396, PySem.Value.str (PySem.Str.ofString "dcid") 397, PySem.Value.str (PySem.Str.ofString "start") 398] }
noncomputable def om155 (P : Params) : Obj := { cls := PySem.Value.type "tuple", data := PySem.Data.seq #[] }
noncomputable def om156 (P : Params) : Obj := { cls := PySem.Value.none, data := PySem.Data.func { name := PySem.Str.ofString "__init__", qualname := PySem.Str.ofString "RawPacket.__init__", params := lf12x0.1.1, body := PySem.FuncBody.stmts lf12x0.1.2.1, scope := lf12x0.1.2.2, globals := 0, closure := [], defaults := PySem.Value.none, kwdefaults := PySem.Value.none } }
noncomputable def om157 (P : Params) : Obj := { cls := PySem.Value.type "code", data := PySem.Data.fields #[PySem.Value.str (PySem.Str.ofString "__init__") 391, PySem.Value.str (PySem.Str.ofString "RawPacket.__init__") 392, PySem.Value.str (PySem.Str.ofString "/claim/cut.py") 393, PySem.Value.int 101 0, PySem.Value.int 5 0, PySem.Value.int 0 0, PySem.Value.int 0 0, PySem.Value.int 3 0, PySem.Value.ref 152, PySem.Value.bool Bool.true, PySem.Value.int 181 0, PySem.Value.ref 153, PySem.Value.none, PySem.Value.ref 154, PySem.Value.ref 155, PySem.Value.ref 156, PySem.Value.int 399 0, PySem.Value.int 101 0, PySem.Value.str (PySem.Str.ofString "/claim/cut.py") 400] }
noncomputable def om158 (P : Params) : Obj := { cls := PySem.Value.type "function", data := PySem.Data.func { name := PySem.Str.ofString "__init__", qualname := PySem.Str.ofString "RawPacket.__init__", params := lf12x0.1.1, body := PySem.FuncBody.stmts lf12x0.1.2.1, scope := lf12x0.1.2.2, globals := 3, closure := [], defaults := PySem.Value.none, kwdefaults := PySem.Value.none, pyModule := PySem.Value.str (PySem.Str.ofString "quic.longheads") 375, code := PySem.Value.ref 157 } }
noncomputable def om159 (P : Params) : Obj := { cls := PySem.Value.type "tuple", data := PySem.Data.seq #[PySem.Value.str (PySem.Str.ofString "dcid") 402, PySem.Value.str (PySem.Str.ofString "end") 403, PySem.Value.str (PySem.Str.ofString "first") 404, PySem.Value.str (PySem.Str.ofString "kind") 405, PySem.Value.str (PySem.Str.ofString "number_at") 406, PySem.Value.str (PySem.Str.ofString "scid") 407, PySem.Value.str (PySem.Str.ofString "start") 408, PySem.Value.str (PySem.Str.ofString "tag") 409, PySem.Value.str (PySem.Str.ofString "token") 410, PySem.Value.str (PySem.Str.ofString "version") 411, PySem.Value.str (PySem.Str.ofString "versions") 412] }
noncomputable def om160 (P : Params) : Obj := { cls := PySem.Value.type "dict", data := PySem.Data.dict #[{ hash := PySem.PyData.keyHash P (PySem.Str.ofString "__module__"), key := PySem.Value.str (PySem.Str.ofString "__module__") 386, val := PySem.Value.str (PySem.Str.ofString "quic.longheads") 375 }, { hash := PySem.PyData.keyHash P (PySem.Str.ofString "__firstlineno__"), key := PySem.Value.str (PySem.Str.ofString "__firstlineno__") 390, val := PySem.Value.int 99 389 }, { hash := PySem.PyData.keyHash P (PySem.Str.ofString "__init__"), key := PySem.Value.str (PySem.Str.ofString "__init__") 401, val := PySem.Value.ref 158 }, { hash := PySem.PyData.keyHash P (PySem.Str.ofString "__static_attributes__"), key := PySem.Value.str (PySem.Str.ofString "__static_attributes__") 413, val := PySem.Value.ref 159 }, { hash := PySem.PyData.keyHash P (PySem.Str.ofString "__dict__"), key := PySem.Value.str (PySem.Str.ofString "__dict__") 415, val := PySem.Value.ref 162 }, { hash := PySem.PyData.keyHash P (PySem.Str.ofString "__weakref__"), key := PySem.Value.str (PySem.Str.ofString "__weakref__") 417, val := PySem.Value.ref 163 }, { hash := PySem.PyData.keyHash P (PySem.Str.ofString "__doc__"), key := PySem.Value.str (PySem.Str.ofString "__doc__") 418, val := PySem.Value.none }] 4 }
noncomputable def om161 (P : Params) : Obj := { cls := PySem.Value.type "type", data := PySem.Data.cls { name := PySem.Str.ofString "RawPacket", bases := [PySem.Value.type "object"], mro := [PySem.Value.ref 161, PySem.Value.type "object"], ns := 160, qualname := PySem.Str.ofString "RawPacket" }, slots := #[Option.none, Option.none, Option.some (PySem.Value.str (PySem.Str.ofString "RawPacket") 379), Option.some (PySem.Value.str (PySem.Str.ofString "RawPacket") 387), Option.some (PySem.Value.builtin "object.__new__"), Option.some (PySem.Value.bool Bool.true)] }
noncomputable def om162 (P : Params) : Obj := { cls := PySem.Value.type "getset_descriptor", data := PySem.Data.fields #[PySem.Value.str (PySem.Str.ofString "__dict__") 414, PySem.Value.ref 161, PySem.Value.builtin "function.__dict__", PySem.Value.builtin "function.__dict__#set"] }
noncomputable def om163 (P : Params) : Obj := { cls := PySem.Value.type "getset_descriptor", data := PySem.Data.fields #[PySem.Value.str (PySem.Str.ofString "__weakref__") 416, PySem.Value.ref 161, PySem.Value.builtin "ExceptionGroup.__weakref__", PySem.Value.none] }
noncomputable def om164 (P : Params) : Obj := { cls := PySem.Value.type "super", data := PySem.Data.fields #[PySem.Value.ref 161, PySem.Value.ref 161, PySem.Value.ref 161] }
noncomputable def om165 (P : Params) : Obj := { cls := PySem.Value.type "builtin_function_or_method", data := PySem.Data.fields #[PySem.Value.builtin "object.__init_subclass__", PySem.Value.ref 161] }
noncomputable def om3v1 (P : Params) : Obj := { cls := PySem.Value.type "dict", data := PySem.Data.dict #[{ hash := PySem.PyData.keyHash P (PySem.Str.ofString "__name__"), key := PySem.Value.str (PySem.Str.ofString "__name__") 165, val := PySem.Value.str (PySem.Str.ofString "law_pf0269_01") 611 }, { hash := PySem.PyData.keyHash P (PySem.Str.ofString "__doc__"), key := PySem.Value.str (PySem.Str.ofString "__doc__") 166, val := PySem.Value.none }, { hash := PySem.PyData.keyHash P (PySem.Str.ofString "__package__"), key := PySem.Value.str (PySem.Str.ofString "__package__") 167, val := PySem.Value.none }, { hash := PySem.PyData.keyHash P (PySem.Str.ofString "__loader__"), key := PySem.Value.str (PySem.Str.ofString "__loader__") 168, val := PySem.Value.builtin "__main__.__loader__#opaque" }, { hash := PySem.PyData.keyHash P (PySem.Str.ofString "__spec__"), key := PySem.Value.str (PySem.Str.ofString "__spec__") 169, val := PySem.Value.none }, { hash := PySem.PyData.keyHash P (PySem.Str.ofString "__annotations__"), key := PySem.Value.str (PySem.Str.ofString "__annotations__") 170, val := PySem.Value.ref 6 }, { hash := PySem.PyData.keyHash P (PySem.Str.ofString "__builtins__"), key := PySem.Value.str (PySem.Str.ofString "__builtins__") 171, val := PySem.Value.ref 4 }, { hash := PySem.PyData.keyHash P (PySem.Str.ofString "__file__"), key := PySem.Value.str (PySem.Str.ofString "__file__") 173, val := PySem.Value.str (PySem.Str.ofString "/claim/cut.py") 172 }, { hash := PySem.PyData.keyHash P (PySem.Str.ofString "__cached__"), key := PySem.Value.str (PySem.Str.ofString "__cached__") 174, val := PySem.Value.none }, { hash := PySem.PyData.keyHash P (PySem.Str.ofString "_wall"), key := PySem.Value.str (PySem.Str.ofString "_wall") 193, val := PySem.Value.ref 21 }, { hash := PySem.PyData.keyHash P (PySem.Str.ofString "learn_peer"), key := PySem.Value.str (PySem.Str.ofString "learn_peer") 203, val := PySem.Value.ref 28 }, { hash := PySem.PyData.keyHash P (PySem.Str.ofString "CONNECTION_ID_LIMIT_ERROR"), key := PySem.Value.str (PySem.Str.ofString "CONNECTION_ID_LIMIT_ERROR") 207, val := PySem.Value.int 9 206 }, { hash := PySem.PyData.keyHash P (PySem.Str.ofString "PROTOCOL_VIOLATION"), key := PySem.Value.str (PySem.Str.ofString "PROTOCOL_VIOLATION") 209, val := PySem.Value.int 10 208 }, { hash := PySem.PyData.keyHash P (PySem.Str.ofString "QuicError"), key := PySem.Value.str (PySem.Str.ofString "QuicError") 242, val := PySem.Value.ref 45 }, { hash := PySem.PyData.keyHash P (PySem.Str.ofString "FRAME_NEW"), key := PySem.Value.str (PySem.Str.ofString "FRAME_NEW") 246, val := PySem.Value.int 24 245 }, { hash := PySem.PyData.keyHash P (PySem.Str.ofString "RemoteIds"), key := PySem.Value.str (PySem.Str.ofString "RemoteIds") 374, val := PySem.Value.ref 140 }, { hash := PySem.PyData.keyHash P (PySem.Str.ofString "VERSION_NONE"), key := PySem.Value.str (PySem.Str.ofString "VERSION_NONE") 378, val := PySem.Value.int 0 377 }, { hash := PySem.PyData.keyHash P (PySem.Str.ofString "RawPacket"), key := PySem.Value.str (PySem.Str.ofString "RawPacket") 420, val := PySem.Value.ref 161 }, { hash := PySem.PyData.keyHash P (PySem.Str.ofString "Space"), key := PySem.Value.str (PySem.Str.ofString "Space") 610, val := PySem.Value.ref 308 }, { hash := PySem.PyData.keyHash P (PySem.Str.ofString "_law_take"), key := PySem.Value.str (PySem.Str.ofString "_law_take") 620, val := PySem.Value.ref 319 }, { hash := PySem.PyData.keyHash P (PySem.Str.ofString "law"), key := PySem.Value.str (PySem.Str.ofString "law") 636, val := PySem.Value.ref 326 }] 21 }
noncomputable def om12v2 (P : Params) : Obj := { cls := PySem.Value.none, data := PySem.Data.fields #[PySem.Value.int 1 0, PySem.Value.int 0 0, PySem.Value.ref 20, PySem.Value.int 5 0, PySem.Value.int 0 0, PySem.Value.ref 27, PySem.Value.int 15 0, PySem.Value.int 0 0, PySem.Value.ref 34, PySem.Value.int 24 0, PySem.Value.int 0 0, PySem.Value.ref 54, PySem.Value.int 99 0, PySem.Value.int 0 0, PySem.Value.ref 150, PySem.Value.int 114 0, PySem.Value.int 0 0, PySem.Value.ref 171, PySem.Value.int 189 0, PySem.Value.int 0 0, PySem.Value.ref 318, PySem.Value.int 194 0, PySem.Value.int 0 0, PySem.Value.ref 325] }
noncomputable def om166 (P : Params) : Obj := { cls := PySem.Value.type "tuple", data := PySem.Data.seq #[] }
noncomputable def om167 (P : Params) : Obj := { cls := PySem.Value.type "builtin_function_or_method", data := PySem.Data.fields #[PySem.Value.builtin "type.__prepare__", PySem.Value.type "type"] }
noncomputable def om168 (P : Params) : Obj := { cls := PySem.Value.type "dict", data := PySem.Data.dict #[{ hash := PySem.PyData.keyHash P (PySem.Str.ofString "__module__"), key := PySem.Value.str (PySem.Str.ofString "__module__") 430, val := PySem.Value.str (PySem.Str.ofString "quic.spaces") 421 }, { hash := PySem.PyData.keyHash P (PySem.Str.ofString "__qualname__"), key := PySem.Value.str (PySem.Str.ofString "__qualname__") 432, val := PySem.Value.str (PySem.Str.ofString "Space") 431 }, { hash := PySem.PyData.keyHash P (PySem.Str.ofString "__firstlineno__"), key := PySem.Value.str (PySem.Str.ofString "__firstlineno__") 434, val := PySem.Value.int 114 433 }, { hash := PySem.PyData.keyHash P (PySem.Str.ofString "__init__"), key := PySem.Value.str (PySem.Str.ofString "__init__") 442, val := PySem.Value.ref 179 }, { hash := PySem.PyData.keyHash P (PySem.Str.ofString "is_known"), key := PySem.Value.str (PySem.Str.ofString "is_known") 450, val := PySem.Value.ref 186 }, { hash := PySem.PyData.keyHash P (PySem.Str.ofString "on_received"), key := PySem.Value.str (PySem.Str.ofString "on_received") 461, val := PySem.Value.ref 193 }, { hash := PySem.PyData.keyHash P (PySem.Str.ofString "ack_frame"), key := PySem.Value.str (PySem.Str.ofString "ack_frame") 470, val := PySem.Value.ref 200 }, { hash := PySem.PyData.keyHash P (PySem.Str.ofString "on_ack_sent"), key := PySem.Value.str (PySem.Str.ofString "on_ack_sent") 477, val := PySem.Value.ref 207 }, { hash := PySem.PyData.keyHash P (PySem.Str.ofString "owes_ack"), key := PySem.Value.str (PySem.Str.ofString "owes_ack") 484, val := PySem.Value.ref 214 }, { hash := PySem.PyData.keyHash P (PySem.Str.ofString "take_number"), key := PySem.Value.str (PySem.Str.ofString "take_number") 491, val := PySem.Value.ref 221 }, { hash := PySem.PyData.keyHash P (PySem.Str.ofString "on_sent"), key := PySem.Value.str (PySem.Str.ofString "on_sent") 502, val := PySem.Value.ref 228 }, { hash := PySem.PyData.keyHash P (PySem.Str.ofString "take"), key := PySem.Value.str (PySem.Str.ofString "take") 510, val := PySem.Value.ref 235 }, { hash := PySem.PyData.keyHash P (PySem.Str.ofString "acked_by"), key := PySem.Value.str (PySem.Str.ofString "acked_by") 518, val := PySem.Value.ref 242 }, { hash := PySem.PyData.keyHash P (PySem.Str.ofString "note_acked"), key := PySem.Value.str (PySem.Str.ofString "note_acked") 526, val := PySem.Value.ref 249 }, { hash := PySem.PyData.keyHash P (PySem.Str.ofString "note_ranges"), key := PySem.Value.str (PySem.Str.ofString "note_ranges") 534, val := PySem.Value.ref 256 }, { hash := PySem.PyData.keyHash P (PySem.Str.ofString "is_beyond"), key := PySem.Value.str (PySem.Str.ofString "is_beyond") 542, val := PySem.Value.ref 263 }, { hash := PySem.PyData.keyHash P (PySem.Str.ofString "note_largest"), key := PySem.Value.str (PySem.Str.ofString "note_largest") 550, val := PySem.Value.ref 270 }, { hash := PySem.PyData.keyHash P (PySem.Str.ofString "eliciting_left"), key := PySem.Value.str (PySem.Str.ofString "eliciting_left") 557, val := PySem.Value.ref 277 }, { hash := PySem.PyData.keyHash P (PySem.Str.ofString "bare_numbers"), key := PySem.Value.str (PySem.Str.ofString "bare_numbers") 564, val := PySem.Value.ref 284 }, { hash := PySem.PyData.keyHash P (PySem.Str.ofString "octets_out"), key := PySem.Value.str (PySem.Str.ofString "octets_out") 571, val := PySem.Value.ref 291 }, { hash := PySem.PyData.keyHash P (PySem.Str.ofString "sent_rows"), key := PySem.Value.str (PySem.Str.ofString "sent_rows") 578, val := PySem.Value.ref 298 }, { hash := PySem.PyData.keyHash P (PySem.Str.ofString "forget"), key := PySem.Value.str (PySem.Str.ofString "forget") 585, val := PySem.Value.ref 305 }, { hash := PySem.PyData.keyHash P (PySem.Str.ofString "__static_attributes__"), key := PySem.Value.str (PySem.Str.ofString "__static_attributes__") 603, val := PySem.Value.ref 306 }] 23 }
noncomputable def om169 (P : Params) : Obj := { cls := PySem.Value.type "tuple", data := PySem.Data.seq #[] }
noncomputable def om170 (P : Params) : Obj := { cls := PySem.Value.none, data := PySem.Data.fields #[PySem.Value.int 116 0, PySem.Value.int 4 0, PySem.Value.ref 178, PySem.Value.int 135 0, PySem.Value.int 4 0, PySem.Value.ref 185, PySem.Value.int 138 0, PySem.Value.int 4 0, PySem.Value.ref 192, PySem.Value.int 141 0, PySem.Value.int 4 0, PySem.Value.ref 199, PySem.Value.int 144 0, PySem.Value.int 4 0, PySem.Value.ref 206, PySem.Value.int 147 0, PySem.Value.int 4 0, PySem.Value.ref 213, PySem.Value.int 150 0, PySem.Value.int 4 0, PySem.Value.ref 220, PySem.Value.int 153 0, PySem.Value.int 4 0, PySem.Value.ref 227, PySem.Value.int 156 0, PySem.Value.int 4 0, PySem.Value.ref 234, PySem.Value.int 159 0, PySem.Value.int 4 0, PySem.Value.ref 241, PySem.Value.int 162 0, PySem.Value.int 4 0, PySem.Value.ref 248, PySem.Value.int 165 0, PySem.Value.int 4 0, PySem.Value.ref 255, PySem.Value.int 168 0, PySem.Value.int 4 0, PySem.Value.ref 262, PySem.Value.int 171 0, PySem.Value.int 4 0, PySem.Value.ref 269, PySem.Value.int 174 0, PySem.Value.int 4 0, PySem.Value.ref 276, PySem.Value.int 177 0, PySem.Value.int 4 0, PySem.Value.ref 283, PySem.Value.int 180 0, PySem.Value.int 4 0, PySem.Value.ref 290, PySem.Value.int 183 0, PySem.Value.int 4 0, PySem.Value.ref 297, PySem.Value.int 186 0, PySem.Value.int 4 0, PySem.Value.ref 304] }
noncomputable def om171 (P : Params) : Obj := { cls := PySem.Value.type "code", data := PySem.Data.fields #[PySem.Value.str (PySem.Str.ofString "Space") 425, PySem.Value.str (PySem.Str.ofString "Space") 426, PySem.Value.str (PySem.Str.ofString "/claim/cut.py") 427, PySem.Value.int 114 0, PySem.Value.int 0 0, PySem.Value.int 0 0, PySem.Value.int 0 0, PySem.Value.int 0 0, PySem.Value.ref 169, PySem.Value.bool Bool.false, PySem.Value.int 181 0, PySem.Value.ref 170, PySem.Value.none, PySem.Value.none, PySem.Value.none, PySem.Value.none, PySem.Value.int 428 0, PySem.Value.int 114 0, PySem.Value.str (PySem.Str.ofString "/claim/cut.py") 429] }
noncomputable def om172 (P : Params) : Obj := { cls := PySem.Value.type "frame", slots := #[Option.some (PySem.Value.ref 171), Option.some (PySem.Value.ref 3), Option.some (PySem.Value.ref 168), Option.none, Option.some (PySem.Value.str (PySem.Str.ofString "quic.spaces") 421), Option.none, Option.some (PySem.Value.ref 0)] }
noncomputable def om173 (P : Params) : Obj := { cls := PySem.Value.type "tuple", data := PySem.Data.seq #[] }
noncomputable def om174 (P : Params) : Obj := { cls := PySem.Value.none, data := PySem.Data.fields #[] }
noncomputable def om175 (P : Params) : Obj := { cls := PySem.Value.type "tuple", data := PySem.Data.seq #[PySem.Value.str (PySem.Str.ofString "self") 438, PySem.Value.str (PySem.Str.ofString "name") 439] }
noncomputable def om176 (P : Params) : Obj := { cls := PySem.Value.type "tuple", data := PySem.Data.seq #[] }
noncomputable def om177 (P : Params) : Obj := { cls := PySem.Value.none, data := PySem.Data.func { name := PySem.Str.ofString "__init__", qualname := PySem.Str.ofString "Space.__init__", params := lf14x0.1.1, body := PySem.FuncBody.stmts lf14x0.1.2.1, scope := lf14x0.1.2.2, globals := 0, closure := [], defaults := PySem.Value.none, kwdefaults := PySem.Value.none } }
noncomputable def om178 (P : Params) : Obj := { cls := PySem.Value.type "code", data := PySem.Data.fields #[PySem.Value.str (PySem.Str.ofString "__init__") 435, PySem.Value.str (PySem.Str.ofString "Space.__init__") 436, PySem.Value.str (PySem.Str.ofString "/claim/cut.py") 437, PySem.Value.int 116 0, PySem.Value.int 2 0, PySem.Value.int 0 0, PySem.Value.int 0 0, PySem.Value.int 3 0, PySem.Value.ref 173, PySem.Value.bool Bool.true, PySem.Value.int 181 0, PySem.Value.ref 174, PySem.Value.none, PySem.Value.ref 175, PySem.Value.ref 176, PySem.Value.ref 177, PySem.Value.int 440 0, PySem.Value.int 116 0, PySem.Value.str (PySem.Str.ofString "/claim/cut.py") 441] }
noncomputable def om179 (P : Params) : Obj := { cls := PySem.Value.type "function", data := PySem.Data.func { name := PySem.Str.ofString "__init__", qualname := PySem.Str.ofString "Space.__init__", params := lf14x0.1.1, body := PySem.FuncBody.stmts lf14x0.1.2.1, scope := lf14x0.1.2.2, globals := 3, closure := [], defaults := PySem.Value.none, kwdefaults := PySem.Value.none, pyModule := PySem.Value.str (PySem.Str.ofString "quic.spaces") 421, code := PySem.Value.ref 178 } }
noncomputable def om180 (P : Params) : Obj := { cls := PySem.Value.type "tuple", data := PySem.Data.seq #[] }
noncomputable def om181 (P : Params) : Obj := { cls := PySem.Value.none, data := PySem.Data.fields #[] }
noncomputable def om182 (P : Params) : Obj := { cls := PySem.Value.type "tuple", data := PySem.Data.seq #[PySem.Value.str (PySem.Str.ofString "self") 446, PySem.Value.str (PySem.Str.ofString "number") 447] }
noncomputable def om183 (P : Params) : Obj := { cls := PySem.Value.type "tuple", data := PySem.Data.seq #[] }
noncomputable def om184 (P : Params) : Obj := { cls := PySem.Value.none, data := PySem.Data.func { name := PySem.Str.ofString "is_known", qualname := PySem.Str.ofString "Space.is_known", params := lf14x1.1.1, body := PySem.FuncBody.stmts lf14x1.1.2.1, scope := lf14x1.1.2.2, globals := 0, closure := [], defaults := PySem.Value.none, kwdefaults := PySem.Value.none } }
noncomputable def om185 (P : Params) : Obj := { cls := PySem.Value.type "code", data := PySem.Data.fields #[PySem.Value.str (PySem.Str.ofString "is_known") 443, PySem.Value.str (PySem.Str.ofString "Space.is_known") 444, PySem.Value.str (PySem.Str.ofString "/claim/cut.py") 445, PySem.Value.int 135 0, PySem.Value.int 2 0, PySem.Value.int 0 0, PySem.Value.int 0 0, PySem.Value.int 3 0, PySem.Value.ref 180, PySem.Value.bool Bool.true, PySem.Value.int 181 0, PySem.Value.ref 181, PySem.Value.none, PySem.Value.ref 182, PySem.Value.ref 183, PySem.Value.ref 184, PySem.Value.int 448 0, PySem.Value.int 135 0, PySem.Value.str (PySem.Str.ofString "/claim/cut.py") 449] }
noncomputable def om186 (P : Params) : Obj := { cls := PySem.Value.type "function", data := PySem.Data.func { name := PySem.Str.ofString "is_known", qualname := PySem.Str.ofString "Space.is_known", params := lf14x1.1.1, body := PySem.FuncBody.stmts lf14x1.1.2.1, scope := lf14x1.1.2.2, globals := 3, closure := [], defaults := PySem.Value.none, kwdefaults := PySem.Value.none, pyModule := PySem.Value.str (PySem.Str.ofString "quic.spaces") 421, code := PySem.Value.ref 185 } }
noncomputable def om187 (P : Params) : Obj := { cls := PySem.Value.type "tuple", data := PySem.Data.seq #[] }
noncomputable def om188 (P : Params) : Obj := { cls := PySem.Value.none, data := PySem.Data.fields #[] }
noncomputable def om189 (P : Params) : Obj := { cls := PySem.Value.type "tuple", data := PySem.Data.seq #[PySem.Value.str (PySem.Str.ofString "self") 454, PySem.Value.str (PySem.Str.ofString "number") 455, PySem.Value.str (PySem.Str.ofString "now") 456, PySem.Value.str (PySem.Str.ofString "has_eliciting") 457, PySem.Value.str (PySem.Str.ofString "mark") 458] }
noncomputable def om190 (P : Params) : Obj := { cls := PySem.Value.type "tuple", data := PySem.Data.seq #[] }
noncomputable def om191 (P : Params) : Obj := { cls := PySem.Value.none, data := PySem.Data.func { name := PySem.Str.ofString "on_received", qualname := PySem.Str.ofString "Space.on_received", params := lf14x2.1.1, body := PySem.FuncBody.stmts lf14x2.1.2.1, scope := lf14x2.1.2.2, globals := 0, closure := [], defaults := PySem.Value.none, kwdefaults := PySem.Value.none } }
noncomputable def om192 (P : Params) : Obj := { cls := PySem.Value.type "code", data := PySem.Data.fields #[PySem.Value.str (PySem.Str.ofString "on_received") 451, PySem.Value.str (PySem.Str.ofString "Space.on_received") 452, PySem.Value.str (PySem.Str.ofString "/claim/cut.py") 453, PySem.Value.int 138 0, PySem.Value.int 5 0, PySem.Value.int 0 0, PySem.Value.int 0 0, PySem.Value.int 3 0, PySem.Value.ref 187, PySem.Value.bool Bool.true, PySem.Value.int 181 0, PySem.Value.ref 188, PySem.Value.none, PySem.Value.ref 189, PySem.Value.ref 190, PySem.Value.ref 191, PySem.Value.int 459 0, PySem.Value.int 138 0, PySem.Value.str (PySem.Str.ofString "/claim/cut.py") 460] }
noncomputable def om193 (P : Params) : Obj := { cls := PySem.Value.type "function", data := PySem.Data.func { name := PySem.Str.ofString "on_received", qualname := PySem.Str.ofString "Space.on_received", params := lf14x2.1.1, body := PySem.FuncBody.stmts lf14x2.1.2.1, scope := lf14x2.1.2.2, globals := 3, closure := [], defaults := PySem.Value.none, kwdefaults := PySem.Value.none, pyModule := PySem.Value.str (PySem.Str.ofString "quic.spaces") 421, code := PySem.Value.ref 192 } }
noncomputable def om194 (P : Params) : Obj := { cls := PySem.Value.type "tuple", data := PySem.Data.seq #[] }
noncomputable def om195 (P : Params) : Obj := { cls := PySem.Value.none, data := PySem.Data.fields #[] }
noncomputable def om196 (P : Params) : Obj := { cls := PySem.Value.type "tuple", data := PySem.Data.seq #[PySem.Value.str (PySem.Str.ofString "self") 465, PySem.Value.str (PySem.Str.ofString "now") 466, PySem.Value.str (PySem.Str.ofString "exponent") 467] }
noncomputable def om197 (P : Params) : Obj := { cls := PySem.Value.type "tuple", data := PySem.Data.seq #[] }
noncomputable def om198 (P : Params) : Obj := { cls := PySem.Value.none, data := PySem.Data.func { name := PySem.Str.ofString "ack_frame", qualname := PySem.Str.ofString "Space.ack_frame", params := lf14x3.1.1, body := PySem.FuncBody.stmts lf14x3.1.2.1, scope := lf14x3.1.2.2, globals := 0, closure := [], defaults := PySem.Value.none, kwdefaults := PySem.Value.none } }
noncomputable def om199 (P : Params) : Obj := { cls := PySem.Value.type "code", data := PySem.Data.fields #[PySem.Value.str (PySem.Str.ofString "ack_frame") 462, PySem.Value.str (PySem.Str.ofString "Space.ack_frame") 463, PySem.Value.str (PySem.Str.ofString "/claim/cut.py") 464, PySem.Value.int 141 0, PySem.Value.int 3 0, PySem.Value.int 0 0, PySem.Value.int 0 0, PySem.Value.int 3 0, PySem.Value.ref 194, PySem.Value.bool Bool.true, PySem.Value.int 181 0, PySem.Value.ref 195, PySem.Value.none, PySem.Value.ref 196, PySem.Value.ref 197, PySem.Value.ref 198, PySem.Value.int 468 0, PySem.Value.int 141 0, PySem.Value.str (PySem.Str.ofString "/claim/cut.py") 469] }
noncomputable def om200 (P : Params) : Obj := { cls := PySem.Value.type "function", data := PySem.Data.func { name := PySem.Str.ofString "ack_frame", qualname := PySem.Str.ofString "Space.ack_frame", params := lf14x3.1.1, body := PySem.FuncBody.stmts lf14x3.1.2.1, scope := lf14x3.1.2.2, globals := 3, closure := [], defaults := PySem.Value.none, kwdefaults := PySem.Value.none, pyModule := PySem.Value.str (PySem.Str.ofString "quic.spaces") 421, code := PySem.Value.ref 199 } }
noncomputable def om201 (P : Params) : Obj := { cls := PySem.Value.type "tuple", data := PySem.Data.seq #[] }
noncomputable def om202 (P : Params) : Obj := { cls := PySem.Value.none, data := PySem.Data.fields #[] }
noncomputable def om203 (P : Params) : Obj := { cls := PySem.Value.type "tuple", data := PySem.Data.seq #[PySem.Value.str (PySem.Str.ofString "self") 474] }
noncomputable def om204 (P : Params) : Obj := { cls := PySem.Value.type "tuple", data := PySem.Data.seq #[] }
noncomputable def om205 (P : Params) : Obj := { cls := PySem.Value.none, data := PySem.Data.func { name := PySem.Str.ofString "on_ack_sent", qualname := PySem.Str.ofString "Space.on_ack_sent", params := lf14x4.1.1, body := PySem.FuncBody.stmts lf14x4.1.2.1, scope := lf14x4.1.2.2, globals := 0, closure := [], defaults := PySem.Value.none, kwdefaults := PySem.Value.none } }
noncomputable def om206 (P : Params) : Obj := { cls := PySem.Value.type "code", data := PySem.Data.fields #[PySem.Value.str (PySem.Str.ofString "on_ack_sent") 471, PySem.Value.str (PySem.Str.ofString "Space.on_ack_sent") 472, PySem.Value.str (PySem.Str.ofString "/claim/cut.py") 473, PySem.Value.int 144 0, PySem.Value.int 1 0, PySem.Value.int 0 0, PySem.Value.int 0 0, PySem.Value.int 3 0, PySem.Value.ref 201, PySem.Value.bool Bool.true, PySem.Value.int 181 0, PySem.Value.ref 202, PySem.Value.none, PySem.Value.ref 203, PySem.Value.ref 204, PySem.Value.ref 205, PySem.Value.int 475 0, PySem.Value.int 144 0, PySem.Value.str (PySem.Str.ofString "/claim/cut.py") 476] }
noncomputable def om207 (P : Params) : Obj := { cls := PySem.Value.type "function", data := PySem.Data.func { name := PySem.Str.ofString "on_ack_sent", qualname := PySem.Str.ofString "Space.on_ack_sent", params := lf14x4.1.1, body := PySem.FuncBody.stmts lf14x4.1.2.1, scope := lf14x4.1.2.2, globals := 3, closure := [], defaults := PySem.Value.none, kwdefaults := PySem.Value.none, pyModule := PySem.Value.str (PySem.Str.ofString "quic.spaces") 421, code := PySem.Value.ref 206 } }
noncomputable def om208 (P : Params) : Obj := { cls := PySem.Value.type "tuple", data := PySem.Data.seq #[] }
noncomputable def om209 (P : Params) : Obj := { cls := PySem.Value.none, data := PySem.Data.fields #[] }
noncomputable def om210 (P : Params) : Obj := { cls := PySem.Value.type "tuple", data := PySem.Data.seq #[PySem.Value.str (PySem.Str.ofString "self") 481] }
noncomputable def om211 (P : Params) : Obj := { cls := PySem.Value.type "tuple", data := PySem.Data.seq #[] }
noncomputable def om212 (P : Params) : Obj := { cls := PySem.Value.none, data := PySem.Data.func { name := PySem.Str.ofString "owes_ack", qualname := PySem.Str.ofString "Space.owes_ack", params := lf14x5.1.1, body := PySem.FuncBody.stmts lf14x5.1.2.1, scope := lf14x5.1.2.2, globals := 0, closure := [], defaults := PySem.Value.none, kwdefaults := PySem.Value.none } }
noncomputable def om213 (P : Params) : Obj := { cls := PySem.Value.type "code", data := PySem.Data.fields #[PySem.Value.str (PySem.Str.ofString "owes_ack") 478, PySem.Value.str (PySem.Str.ofString "Space.owes_ack") 479, PySem.Value.str (PySem.Str.ofString "/claim/cut.py") 480, PySem.Value.int 147 0, PySem.Value.int 1 0, PySem.Value.int 0 0, PySem.Value.int 0 0, PySem.Value.int 3 0, PySem.Value.ref 208, PySem.Value.bool Bool.true, PySem.Value.int 181 0, PySem.Value.ref 209, PySem.Value.none, PySem.Value.ref 210, PySem.Value.ref 211, PySem.Value.ref 212, PySem.Value.int 482 0, PySem.Value.int 147 0, PySem.Value.str (PySem.Str.ofString "/claim/cut.py") 483] }
noncomputable def om214 (P : Params) : Obj := { cls := PySem.Value.type "function", data := PySem.Data.func { name := PySem.Str.ofString "owes_ack", qualname := PySem.Str.ofString "Space.owes_ack", params := lf14x5.1.1, body := PySem.FuncBody.stmts lf14x5.1.2.1, scope := lf14x5.1.2.2, globals := 3, closure := [], defaults := PySem.Value.none, kwdefaults := PySem.Value.none, pyModule := PySem.Value.str (PySem.Str.ofString "quic.spaces") 421, code := PySem.Value.ref 213 } }
noncomputable def om215 (P : Params) : Obj := { cls := PySem.Value.type "tuple", data := PySem.Data.seq #[] }
noncomputable def om216 (P : Params) : Obj := { cls := PySem.Value.none, data := PySem.Data.fields #[] }
noncomputable def om217 (P : Params) : Obj := { cls := PySem.Value.type "tuple", data := PySem.Data.seq #[PySem.Value.str (PySem.Str.ofString "self") 488] }
noncomputable def om218 (P : Params) : Obj := { cls := PySem.Value.type "tuple", data := PySem.Data.seq #[] }
noncomputable def om219 (P : Params) : Obj := { cls := PySem.Value.none, data := PySem.Data.func { name := PySem.Str.ofString "take_number", qualname := PySem.Str.ofString "Space.take_number", params := lf14x6.1.1, body := PySem.FuncBody.stmts lf14x6.1.2.1, scope := lf14x6.1.2.2, globals := 0, closure := [], defaults := PySem.Value.none, kwdefaults := PySem.Value.none } }
noncomputable def om220 (P : Params) : Obj := { cls := PySem.Value.type "code", data := PySem.Data.fields #[PySem.Value.str (PySem.Str.ofString "take_number") 485, PySem.Value.str (PySem.Str.ofString "Space.take_number") 486, PySem.Value.str (PySem.Str.ofString "/claim/cut.py") 487, PySem.Value.int 150 0, PySem.Value.int 1 0, PySem.Value.int 0 0, PySem.Value.int 0 0, PySem.Value.int 3 0, PySem.Value.ref 215, PySem.Value.bool Bool.true, PySem.Value.int 181 0, PySem.Value.ref 216, PySem.Value.none, PySem.Value.ref 217, PySem.Value.ref 218, PySem.Value.ref 219, PySem.Value.int 489 0, PySem.Value.int 150 0, PySem.Value.str (PySem.Str.ofString "/claim/cut.py") 490] }
noncomputable def om221 (P : Params) : Obj := { cls := PySem.Value.type "function", data := PySem.Data.func { name := PySem.Str.ofString "take_number", qualname := PySem.Str.ofString "Space.take_number", params := lf14x6.1.1, body := PySem.FuncBody.stmts lf14x6.1.2.1, scope := lf14x6.1.2.2, globals := 3, closure := [], defaults := PySem.Value.none, kwdefaults := PySem.Value.none, pyModule := PySem.Value.str (PySem.Str.ofString "quic.spaces") 421, code := PySem.Value.ref 220 } }
noncomputable def om222 (P : Params) : Obj := { cls := PySem.Value.type "tuple", data := PySem.Data.seq #[] }
noncomputable def om223 (P : Params) : Obj := { cls := PySem.Value.none, data := PySem.Data.fields #[] }
noncomputable def om224 (P : Params) : Obj := { cls := PySem.Value.type "tuple", data := PySem.Data.seq #[PySem.Value.str (PySem.Str.ofString "self") 495, PySem.Value.str (PySem.Str.ofString "number") 496, PySem.Value.str (PySem.Str.ofString "now") 497, PySem.Value.str (PySem.Str.ofString "size") 498, PySem.Value.str (PySem.Str.ofString "frames") 499] }
noncomputable def om225 (P : Params) : Obj := { cls := PySem.Value.type "tuple", data := PySem.Data.seq #[] }
noncomputable def om226 (P : Params) : Obj := { cls := PySem.Value.none, data := PySem.Data.func { name := PySem.Str.ofString "on_sent", qualname := PySem.Str.ofString "Space.on_sent", params := lf14x7.1.1, body := PySem.FuncBody.stmts lf14x7.1.2.1, scope := lf14x7.1.2.2, globals := 0, closure := [], defaults := PySem.Value.none, kwdefaults := PySem.Value.none } }
noncomputable def om227 (P : Params) : Obj := { cls := PySem.Value.type "code", data := PySem.Data.fields #[PySem.Value.str (PySem.Str.ofString "on_sent") 492, PySem.Value.str (PySem.Str.ofString "Space.on_sent") 493, PySem.Value.str (PySem.Str.ofString "/claim/cut.py") 494, PySem.Value.int 153 0, PySem.Value.int 5 0, PySem.Value.int 0 0, PySem.Value.int 0 0, PySem.Value.int 3 0, PySem.Value.ref 222, PySem.Value.bool Bool.true, PySem.Value.int 181 0, PySem.Value.ref 223, PySem.Value.none, PySem.Value.ref 224, PySem.Value.ref 225, PySem.Value.ref 226, PySem.Value.int 500 0, PySem.Value.int 153 0, PySem.Value.str (PySem.Str.ofString "/claim/cut.py") 501] }
noncomputable def om228 (P : Params) : Obj := { cls := PySem.Value.type "function", data := PySem.Data.func { name := PySem.Str.ofString "on_sent", qualname := PySem.Str.ofString "Space.on_sent", params := lf14x7.1.1, body := PySem.FuncBody.stmts lf14x7.1.2.1, scope := lf14x7.1.2.2, globals := 3, closure := [], defaults := PySem.Value.none, kwdefaults := PySem.Value.none, pyModule := PySem.Value.str (PySem.Str.ofString "quic.spaces") 421, code := PySem.Value.ref 227 } }
noncomputable def om229 (P : Params) : Obj := { cls := PySem.Value.type "tuple", data := PySem.Data.seq #[] }
noncomputable def om230 (P : Params) : Obj := { cls := PySem.Value.none, data := PySem.Data.fields #[] }
noncomputable def om231 (P : Params) : Obj := { cls := PySem.Value.type "tuple", data := PySem.Data.seq #[PySem.Value.str (PySem.Str.ofString "self") 506, PySem.Value.str (PySem.Str.ofString "numbers") 507] }
noncomputable def om232 (P : Params) : Obj := { cls := PySem.Value.type "tuple", data := PySem.Data.seq #[] }
noncomputable def om233 (P : Params) : Obj := { cls := PySem.Value.none, data := PySem.Data.func { name := PySem.Str.ofString "take", qualname := PySem.Str.ofString "Space.take", params := lf14x8.1.1, body := PySem.FuncBody.stmts lf14x8.1.2.1, scope := lf14x8.1.2.2, globals := 0, closure := [], defaults := PySem.Value.none, kwdefaults := PySem.Value.none } }
noncomputable def om234 (P : Params) : Obj := { cls := PySem.Value.type "code", data := PySem.Data.fields #[PySem.Value.str (PySem.Str.ofString "take") 503, PySem.Value.str (PySem.Str.ofString "Space.take") 504, PySem.Value.str (PySem.Str.ofString "/claim/cut.py") 505, PySem.Value.int 156 0, PySem.Value.int 2 0, PySem.Value.int 0 0, PySem.Value.int 0 0, PySem.Value.int 3 0, PySem.Value.ref 229, PySem.Value.bool Bool.true, PySem.Value.int 181 0, PySem.Value.ref 230, PySem.Value.none, PySem.Value.ref 231, PySem.Value.ref 232, PySem.Value.ref 233, PySem.Value.int 508 0, PySem.Value.int 156 0, PySem.Value.str (PySem.Str.ofString "/claim/cut.py") 509] }
noncomputable def om235 (P : Params) : Obj := { cls := PySem.Value.type "function", data := PySem.Data.func { name := PySem.Str.ofString "take", qualname := PySem.Str.ofString "Space.take", params := lf14x8.1.1, body := PySem.FuncBody.stmts lf14x8.1.2.1, scope := lf14x8.1.2.2, globals := 3, closure := [], defaults := PySem.Value.none, kwdefaults := PySem.Value.none, pyModule := PySem.Value.str (PySem.Str.ofString "quic.spaces") 421, code := PySem.Value.ref 234 } }
noncomputable def om236 (P : Params) : Obj := { cls := PySem.Value.type "tuple", data := PySem.Data.seq #[] }
noncomputable def om237 (P : Params) : Obj := { cls := PySem.Value.none, data := PySem.Data.fields #[] }
noncomputable def om238 (P : Params) : Obj := { cls := PySem.Value.type "tuple", data := PySem.Data.seq #[PySem.Value.str (PySem.Str.ofString "self") 514, PySem.Value.str (PySem.Str.ofString "ranges") 515] }
noncomputable def om239 (P : Params) : Obj := { cls := PySem.Value.type "tuple", data := PySem.Data.seq #[] }
noncomputable def om240 (P : Params) : Obj := { cls := PySem.Value.none, data := PySem.Data.func { name := PySem.Str.ofString "acked_by", qualname := PySem.Str.ofString "Space.acked_by", params := lf14x9.1.1, body := PySem.FuncBody.stmts lf14x9.1.2.1, scope := lf14x9.1.2.2, globals := 0, closure := [], defaults := PySem.Value.none, kwdefaults := PySem.Value.none } }
noncomputable def om241 (P : Params) : Obj := { cls := PySem.Value.type "code", data := PySem.Data.fields #[PySem.Value.str (PySem.Str.ofString "acked_by") 511, PySem.Value.str (PySem.Str.ofString "Space.acked_by") 512, PySem.Value.str (PySem.Str.ofString "/claim/cut.py") 513, PySem.Value.int 159 0, PySem.Value.int 2 0, PySem.Value.int 0 0, PySem.Value.int 0 0, PySem.Value.int 3 0, PySem.Value.ref 236, PySem.Value.bool Bool.true, PySem.Value.int 181 0, PySem.Value.ref 237, PySem.Value.none, PySem.Value.ref 238, PySem.Value.ref 239, PySem.Value.ref 240, PySem.Value.int 516 0, PySem.Value.int 159 0, PySem.Value.str (PySem.Str.ofString "/claim/cut.py") 517] }
noncomputable def om242 (P : Params) : Obj := { cls := PySem.Value.type "function", data := PySem.Data.func { name := PySem.Str.ofString "acked_by", qualname := PySem.Str.ofString "Space.acked_by", params := lf14x9.1.1, body := PySem.FuncBody.stmts lf14x9.1.2.1, scope := lf14x9.1.2.2, globals := 3, closure := [], defaults := PySem.Value.none, kwdefaults := PySem.Value.none, pyModule := PySem.Value.str (PySem.Str.ofString "quic.spaces") 421, code := PySem.Value.ref 241 } }
noncomputable def om243 (P : Params) : Obj := { cls := PySem.Value.type "tuple", data := PySem.Data.seq #[] }
noncomputable def om244 (P : Params) : Obj := { cls := PySem.Value.none, data := PySem.Data.fields #[] }
noncomputable def om245 (P : Params) : Obj := { cls := PySem.Value.type "tuple", data := PySem.Data.seq #[PySem.Value.str (PySem.Str.ofString "self") 522, PySem.Value.str (PySem.Str.ofString "numbers") 523] }
noncomputable def om246 (P : Params) : Obj := { cls := PySem.Value.type "tuple", data := PySem.Data.seq #[] }
noncomputable def om247 (P : Params) : Obj := { cls := PySem.Value.none, data := PySem.Data.func { name := PySem.Str.ofString "note_acked", qualname := PySem.Str.ofString "Space.note_acked", params := lf14x10.1.1, body := PySem.FuncBody.stmts lf14x10.1.2.1, scope := lf14x10.1.2.2, globals := 0, closure := [], defaults := PySem.Value.none, kwdefaults := PySem.Value.none } }
noncomputable def om248 (P : Params) : Obj := { cls := PySem.Value.type "code", data := PySem.Data.fields #[PySem.Value.str (PySem.Str.ofString "note_acked") 519, PySem.Value.str (PySem.Str.ofString "Space.note_acked") 520, PySem.Value.str (PySem.Str.ofString "/claim/cut.py") 521, PySem.Value.int 162 0, PySem.Value.int 2 0, PySem.Value.int 0 0, PySem.Value.int 0 0, PySem.Value.int 3 0, PySem.Value.ref 243, PySem.Value.bool Bool.true, PySem.Value.int 181 0, PySem.Value.ref 244, PySem.Value.none, PySem.Value.ref 245, PySem.Value.ref 246, PySem.Value.ref 247, PySem.Value.int 524 0, PySem.Value.int 162 0, PySem.Value.str (PySem.Str.ofString "/claim/cut.py") 525] }
noncomputable def om249 (P : Params) : Obj := { cls := PySem.Value.type "function", data := PySem.Data.func { name := PySem.Str.ofString "note_acked", qualname := PySem.Str.ofString "Space.note_acked", params := lf14x10.1.1, body := PySem.FuncBody.stmts lf14x10.1.2.1, scope := lf14x10.1.2.2, globals := 3, closure := [], defaults := PySem.Value.none, kwdefaults := PySem.Value.none, pyModule := PySem.Value.str (PySem.Str.ofString "quic.spaces") 421, code := PySem.Value.ref 248 } }
noncomputable def om250 (P : Params) : Obj := { cls := PySem.Value.type "tuple", data := PySem.Data.seq #[] }
noncomputable def om251 (P : Params) : Obj := { cls := PySem.Value.none, data := PySem.Data.fields #[] }
noncomputable def om252 (P : Params) : Obj := { cls := PySem.Value.type "tuple", data := PySem.Data.seq #[PySem.Value.str (PySem.Str.ofString "self") 530, PySem.Value.str (PySem.Str.ofString "ranges") 531] }
noncomputable def om253 (P : Params) : Obj := { cls := PySem.Value.type "tuple", data := PySem.Data.seq #[] }
noncomputable def om254 (P : Params) : Obj := { cls := PySem.Value.none, data := PySem.Data.func { name := PySem.Str.ofString "note_ranges", qualname := PySem.Str.ofString "Space.note_ranges", params := lf14x11.1.1, body := PySem.FuncBody.stmts lf14x11.1.2.1, scope := lf14x11.1.2.2, globals := 0, closure := [], defaults := PySem.Value.none, kwdefaults := PySem.Value.none } }
noncomputable def om255 (P : Params) : Obj := { cls := PySem.Value.type "code", data := PySem.Data.fields #[PySem.Value.str (PySem.Str.ofString "note_ranges") 527, PySem.Value.str (PySem.Str.ofString "Space.note_ranges") 528, PySem.Value.str (PySem.Str.ofString "/claim/cut.py") 529, PySem.Value.int 165 0, PySem.Value.int 2 0, PySem.Value.int 0 0, PySem.Value.int 0 0, PySem.Value.int 3 0, PySem.Value.ref 250, PySem.Value.bool Bool.true, PySem.Value.int 181 0, PySem.Value.ref 251, PySem.Value.none, PySem.Value.ref 252, PySem.Value.ref 253, PySem.Value.ref 254, PySem.Value.int 532 0, PySem.Value.int 165 0, PySem.Value.str (PySem.Str.ofString "/claim/cut.py") 533] }
noncomputable def om256 (P : Params) : Obj := { cls := PySem.Value.type "function", data := PySem.Data.func { name := PySem.Str.ofString "note_ranges", qualname := PySem.Str.ofString "Space.note_ranges", params := lf14x11.1.1, body := PySem.FuncBody.stmts lf14x11.1.2.1, scope := lf14x11.1.2.2, globals := 3, closure := [], defaults := PySem.Value.none, kwdefaults := PySem.Value.none, pyModule := PySem.Value.str (PySem.Str.ofString "quic.spaces") 421, code := PySem.Value.ref 255 } }
noncomputable def om257 (P : Params) : Obj := { cls := PySem.Value.type "tuple", data := PySem.Data.seq #[] }
noncomputable def om258 (P : Params) : Obj := { cls := PySem.Value.none, data := PySem.Data.fields #[] }
noncomputable def om259 (P : Params) : Obj := { cls := PySem.Value.type "tuple", data := PySem.Data.seq #[PySem.Value.str (PySem.Str.ofString "self") 538, PySem.Value.str (PySem.Str.ofString "ranges") 539] }
noncomputable def om260 (P : Params) : Obj := { cls := PySem.Value.type "tuple", data := PySem.Data.seq #[] }
noncomputable def om261 (P : Params) : Obj := { cls := PySem.Value.none, data := PySem.Data.func { name := PySem.Str.ofString "is_beyond", qualname := PySem.Str.ofString "Space.is_beyond", params := lf14x12.1.1, body := PySem.FuncBody.stmts lf14x12.1.2.1, scope := lf14x12.1.2.2, globals := 0, closure := [], defaults := PySem.Value.none, kwdefaults := PySem.Value.none } }
noncomputable def om262 (P : Params) : Obj := { cls := PySem.Value.type "code", data := PySem.Data.fields #[PySem.Value.str (PySem.Str.ofString "is_beyond") 535, PySem.Value.str (PySem.Str.ofString "Space.is_beyond") 536, PySem.Value.str (PySem.Str.ofString "/claim/cut.py") 537, PySem.Value.int 168 0, PySem.Value.int 2 0, PySem.Value.int 0 0, PySem.Value.int 0 0, PySem.Value.int 3 0, PySem.Value.ref 257, PySem.Value.bool Bool.true, PySem.Value.int 181 0, PySem.Value.ref 258, PySem.Value.none, PySem.Value.ref 259, PySem.Value.ref 260, PySem.Value.ref 261, PySem.Value.int 540 0, PySem.Value.int 168 0, PySem.Value.str (PySem.Str.ofString "/claim/cut.py") 541] }
noncomputable def om263 (P : Params) : Obj := { cls := PySem.Value.type "function", data := PySem.Data.func { name := PySem.Str.ofString "is_beyond", qualname := PySem.Str.ofString "Space.is_beyond", params := lf14x12.1.1, body := PySem.FuncBody.stmts lf14x12.1.2.1, scope := lf14x12.1.2.2, globals := 3, closure := [], defaults := PySem.Value.none, kwdefaults := PySem.Value.none, pyModule := PySem.Value.str (PySem.Str.ofString "quic.spaces") 421, code := PySem.Value.ref 262 } }
noncomputable def om264 (P : Params) : Obj := { cls := PySem.Value.type "tuple", data := PySem.Data.seq #[] }
noncomputable def om265 (P : Params) : Obj := { cls := PySem.Value.none, data := PySem.Data.fields #[] }
noncomputable def om266 (P : Params) : Obj := { cls := PySem.Value.type "tuple", data := PySem.Data.seq #[PySem.Value.str (PySem.Str.ofString "self") 546, PySem.Value.str (PySem.Str.ofString "number") 547] }
noncomputable def om267 (P : Params) : Obj := { cls := PySem.Value.type "tuple", data := PySem.Data.seq #[] }
noncomputable def om268 (P : Params) : Obj := { cls := PySem.Value.none, data := PySem.Data.func { name := PySem.Str.ofString "note_largest", qualname := PySem.Str.ofString "Space.note_largest", params := lf14x13.1.1, body := PySem.FuncBody.stmts lf14x13.1.2.1, scope := lf14x13.1.2.2, globals := 0, closure := [], defaults := PySem.Value.none, kwdefaults := PySem.Value.none } }
noncomputable def om269 (P : Params) : Obj := { cls := PySem.Value.type "code", data := PySem.Data.fields #[PySem.Value.str (PySem.Str.ofString "note_largest") 543, PySem.Value.str (PySem.Str.ofString "Space.note_largest") 544, PySem.Value.str (PySem.Str.ofString "/claim/cut.py") 545, PySem.Value.int 171 0, PySem.Value.int 2 0, PySem.Value.int 0 0, PySem.Value.int 0 0, PySem.Value.int 3 0, PySem.Value.ref 264, PySem.Value.bool Bool.true, PySem.Value.int 181 0, PySem.Value.ref 265, PySem.Value.none, PySem.Value.ref 266, PySem.Value.ref 267, PySem.Value.ref 268, PySem.Value.int 548 0, PySem.Value.int 171 0, PySem.Value.str (PySem.Str.ofString "/claim/cut.py") 549] }
noncomputable def om270 (P : Params) : Obj := { cls := PySem.Value.type "function", data := PySem.Data.func { name := PySem.Str.ofString "note_largest", qualname := PySem.Str.ofString "Space.note_largest", params := lf14x13.1.1, body := PySem.FuncBody.stmts lf14x13.1.2.1, scope := lf14x13.1.2.2, globals := 3, closure := [], defaults := PySem.Value.none, kwdefaults := PySem.Value.none, pyModule := PySem.Value.str (PySem.Str.ofString "quic.spaces") 421, code := PySem.Value.ref 269 } }
noncomputable def om271 (P : Params) : Obj := { cls := PySem.Value.type "tuple", data := PySem.Data.seq #[] }
noncomputable def om272 (P : Params) : Obj := { cls := PySem.Value.none, data := PySem.Data.fields #[] }
noncomputable def om273 (P : Params) : Obj := { cls := PySem.Value.type "tuple", data := PySem.Data.seq #[PySem.Value.str (PySem.Str.ofString "self") 554] }
noncomputable def om274 (P : Params) : Obj := { cls := PySem.Value.type "tuple", data := PySem.Data.seq #[] }
noncomputable def om275 (P : Params) : Obj := { cls := PySem.Value.none, data := PySem.Data.func { name := PySem.Str.ofString "eliciting_left", qualname := PySem.Str.ofString "Space.eliciting_left", params := lf14x14.1.1, body := PySem.FuncBody.stmts lf14x14.1.2.1, scope := lf14x14.1.2.2, globals := 0, closure := [], defaults := PySem.Value.none, kwdefaults := PySem.Value.none } }
noncomputable def om276 (P : Params) : Obj := { cls := PySem.Value.type "code", data := PySem.Data.fields #[PySem.Value.str (PySem.Str.ofString "eliciting_left") 551, PySem.Value.str (PySem.Str.ofString "Space.eliciting_left") 552, PySem.Value.str (PySem.Str.ofString "/claim/cut.py") 553, PySem.Value.int 174 0, PySem.Value.int 1 0, PySem.Value.int 0 0, PySem.Value.int 0 0, PySem.Value.int 3 0, PySem.Value.ref 271, PySem.Value.bool Bool.true, PySem.Value.int 181 0, PySem.Value.ref 272, PySem.Value.none, PySem.Value.ref 273, PySem.Value.ref 274, PySem.Value.ref 275, PySem.Value.int 555 0, PySem.Value.int 174 0, PySem.Value.str (PySem.Str.ofString "/claim/cut.py") 556] }
noncomputable def om277 (P : Params) : Obj := { cls := PySem.Value.type "function", data := PySem.Data.func { name := PySem.Str.ofString "eliciting_left", qualname := PySem.Str.ofString "Space.eliciting_left", params := lf14x14.1.1, body := PySem.FuncBody.stmts lf14x14.1.2.1, scope := lf14x14.1.2.2, globals := 3, closure := [], defaults := PySem.Value.none, kwdefaults := PySem.Value.none, pyModule := PySem.Value.str (PySem.Str.ofString "quic.spaces") 421, code := PySem.Value.ref 276 } }
noncomputable def om278 (P : Params) : Obj := { cls := PySem.Value.type "tuple", data := PySem.Data.seq #[] }
noncomputable def om279 (P : Params) : Obj := { cls := PySem.Value.none, data := PySem.Data.fields #[] }
noncomputable def om280 (P : Params) : Obj := { cls := PySem.Value.type "tuple", data := PySem.Data.seq #[PySem.Value.str (PySem.Str.ofString "self") 561] }
noncomputable def om281 (P : Params) : Obj := { cls := PySem.Value.type "tuple", data := PySem.Data.seq #[] }
noncomputable def om282 (P : Params) : Obj := { cls := PySem.Value.none, data := PySem.Data.func { name := PySem.Str.ofString "bare_numbers", qualname := PySem.Str.ofString "Space.bare_numbers", params := lf14x15.1.1, body := PySem.FuncBody.stmts lf14x15.1.2.1, scope := lf14x15.1.2.2, globals := 0, closure := [], defaults := PySem.Value.none, kwdefaults := PySem.Value.none } }
noncomputable def om283 (P : Params) : Obj := { cls := PySem.Value.type "code", data := PySem.Data.fields #[PySem.Value.str (PySem.Str.ofString "bare_numbers") 558, PySem.Value.str (PySem.Str.ofString "Space.bare_numbers") 559, PySem.Value.str (PySem.Str.ofString "/claim/cut.py") 560, PySem.Value.int 177 0, PySem.Value.int 1 0, PySem.Value.int 0 0, PySem.Value.int 0 0, PySem.Value.int 3 0, PySem.Value.ref 278, PySem.Value.bool Bool.true, PySem.Value.int 181 0, PySem.Value.ref 279, PySem.Value.none, PySem.Value.ref 280, PySem.Value.ref 281, PySem.Value.ref 282, PySem.Value.int 562 0, PySem.Value.int 177 0, PySem.Value.str (PySem.Str.ofString "/claim/cut.py") 563] }
noncomputable def om284 (P : Params) : Obj := { cls := PySem.Value.type "function", data := PySem.Data.func { name := PySem.Str.ofString "bare_numbers", qualname := PySem.Str.ofString "Space.bare_numbers", params := lf14x15.1.1, body := PySem.FuncBody.stmts lf14x15.1.2.1, scope := lf14x15.1.2.2, globals := 3, closure := [], defaults := PySem.Value.none, kwdefaults := PySem.Value.none, pyModule := PySem.Value.str (PySem.Str.ofString "quic.spaces") 421, code := PySem.Value.ref 283 } }
noncomputable def om285 (P : Params) : Obj := { cls := PySem.Value.type "tuple", data := PySem.Data.seq #[] }
noncomputable def om286 (P : Params) : Obj := { cls := PySem.Value.none, data := PySem.Data.fields #[] }
noncomputable def om287 (P : Params) : Obj := { cls := PySem.Value.type "tuple", data := PySem.Data.seq #[PySem.Value.str (PySem.Str.ofString "self") 568] }
noncomputable def om288 (P : Params) : Obj := { cls := PySem.Value.type "tuple", data := PySem.Data.seq #[] }
noncomputable def om289 (P : Params) : Obj := { cls := PySem.Value.none, data := PySem.Data.func { name := PySem.Str.ofString "octets_out", qualname := PySem.Str.ofString "Space.octets_out", params := lf14x16.1.1, body := PySem.FuncBody.stmts lf14x16.1.2.1, scope := lf14x16.1.2.2, globals := 0, closure := [], defaults := PySem.Value.none, kwdefaults := PySem.Value.none } }
noncomputable def om290 (P : Params) : Obj := { cls := PySem.Value.type "code", data := PySem.Data.fields #[PySem.Value.str (PySem.Str.ofString "octets_out") 565, PySem.Value.str (PySem.Str.ofString "Space.octets_out") 566, PySem.Value.str (PySem.Str.ofString "/claim/cut.py") 567, PySem.Value.int 180 0, PySem.Value.int 1 0, PySem.Value.int 0 0, PySem.Value.int 0 0, PySem.Value.int 3 0, PySem.Value.ref 285, PySem.Value.bool Bool.true, PySem.Value.int 181 0, PySem.Value.ref 286, PySem.Value.none, PySem.Value.ref 287, PySem.Value.ref 288, PySem.Value.ref 289, PySem.Value.int 569 0, PySem.Value.int 180 0, PySem.Value.str (PySem.Str.ofString "/claim/cut.py") 570] }
noncomputable def om291 (P : Params) : Obj := { cls := PySem.Value.type "function", data := PySem.Data.func { name := PySem.Str.ofString "octets_out", qualname := PySem.Str.ofString "Space.octets_out", params := lf14x16.1.1, body := PySem.FuncBody.stmts lf14x16.1.2.1, scope := lf14x16.1.2.2, globals := 3, closure := [], defaults := PySem.Value.none, kwdefaults := PySem.Value.none, pyModule := PySem.Value.str (PySem.Str.ofString "quic.spaces") 421, code := PySem.Value.ref 290 } }
noncomputable def om292 (P : Params) : Obj := { cls := PySem.Value.type "tuple", data := PySem.Data.seq #[] }
noncomputable def om293 (P : Params) : Obj := { cls := PySem.Value.none, data := PySem.Data.fields #[] }
noncomputable def om294 (P : Params) : Obj := { cls := PySem.Value.type "tuple", data := PySem.Data.seq #[PySem.Value.str (PySem.Str.ofString "self") 575] }
noncomputable def om295 (P : Params) : Obj := { cls := PySem.Value.type "tuple", data := PySem.Data.seq #[] }
noncomputable def om296 (P : Params) : Obj := { cls := PySem.Value.none, data := PySem.Data.func { name := PySem.Str.ofString "sent_rows", qualname := PySem.Str.ofString "Space.sent_rows", params := lf14x17.1.1, body := PySem.FuncBody.stmts lf14x17.1.2.1, scope := lf14x17.1.2.2, globals := 0, closure := [], defaults := PySem.Value.none, kwdefaults := PySem.Value.none } }
noncomputable def om297 (P : Params) : Obj := { cls := PySem.Value.type "code", data := PySem.Data.fields #[PySem.Value.str (PySem.Str.ofString "sent_rows") 572, PySem.Value.str (PySem.Str.ofString "Space.sent_rows") 573, PySem.Value.str (PySem.Str.ofString "/claim/cut.py") 574, PySem.Value.int 183 0, PySem.Value.int 1 0, PySem.Value.int 0 0, PySem.Value.int 0 0, PySem.Value.int 3 0, PySem.Value.ref 292, PySem.Value.bool Bool.true, PySem.Value.int 181 0, PySem.Value.ref 293, PySem.Value.none, PySem.Value.ref 294, PySem.Value.ref 295, PySem.Value.ref 296, PySem.Value.int 576 0, PySem.Value.int 183 0, PySem.Value.str (PySem.Str.ofString "/claim/cut.py") 577] }
noncomputable def om298 (P : Params) : Obj := { cls := PySem.Value.type "function", data := PySem.Data.func { name := PySem.Str.ofString "sent_rows", qualname := PySem.Str.ofString "Space.sent_rows", params := lf14x17.1.1, body := PySem.FuncBody.stmts lf14x17.1.2.1, scope := lf14x17.1.2.2, globals := 3, closure := [], defaults := PySem.Value.none, kwdefaults := PySem.Value.none, pyModule := PySem.Value.str (PySem.Str.ofString "quic.spaces") 421, code := PySem.Value.ref 297 } }
noncomputable def om299 (P : Params) : Obj := { cls := PySem.Value.type "tuple", data := PySem.Data.seq #[] }
noncomputable def om300 (P : Params) : Obj := { cls := PySem.Value.none, data := PySem.Data.fields #[] }
noncomputable def om301 (P : Params) : Obj := { cls := PySem.Value.type "tuple", data := PySem.Data.seq #[PySem.Value.str (PySem.Str.ofString "self") 582] }
noncomputable def om302 (P : Params) : Obj := { cls := PySem.Value.type "tuple", data := PySem.Data.seq #[] }
noncomputable def om303 (P : Params) : Obj := { cls := PySem.Value.none, data := PySem.Data.func { name := PySem.Str.ofString "forget", qualname := PySem.Str.ofString "Space.forget", params := lf14x18.1.1, body := PySem.FuncBody.stmts lf14x18.1.2.1, scope := lf14x18.1.2.2, globals := 0, closure := [], defaults := PySem.Value.none, kwdefaults := PySem.Value.none } }
noncomputable def om304 (P : Params) : Obj := { cls := PySem.Value.type "code", data := PySem.Data.fields #[PySem.Value.str (PySem.Str.ofString "forget") 579, PySem.Value.str (PySem.Str.ofString "Space.forget") 580, PySem.Value.str (PySem.Str.ofString "/claim/cut.py") 581, PySem.Value.int 186 0, PySem.Value.int 1 0, PySem.Value.int 0 0, PySem.Value.int 0 0, PySem.Value.int 3 0, PySem.Value.ref 299, PySem.Value.bool Bool.true, PySem.Value.int 181 0, PySem.Value.ref 300, PySem.Value.none, PySem.Value.ref 301, PySem.Value.ref 302, PySem.Value.ref 303, PySem.Value.int 583 0, PySem.Value.int 186 0, PySem.Value.str (PySem.Str.ofString "/claim/cut.py") 584] }
noncomputable def om305 (P : Params) : Obj := { cls := PySem.Value.type "function", data := PySem.Data.func { name := PySem.Str.ofString "forget", qualname := PySem.Str.ofString "Space.forget", params := lf14x18.1.1, body := PySem.FuncBody.stmts lf14x18.1.2.1, scope := lf14x18.1.2.2, globals := 3, closure := [], defaults := PySem.Value.none, kwdefaults := PySem.Value.none, pyModule := PySem.Value.str (PySem.Str.ofString "quic.spaces") 421, code := PySem.Value.ref 304 } }
noncomputable def om306 (P : Params) : Obj := { cls := PySem.Value.type "tuple", data := PySem.Data.seq #[PySem.Value.str (PySem.Str.ofString "acked") 586, PySem.Value.str (PySem.Str.ofString "ecn") 587, PySem.Value.str (PySem.Str.ofString "first_unacked") 588, PySem.Value.str (PySem.Str.ofString "floor") 589, PySem.Value.str (PySem.Str.ofString "has_new") 590, PySem.Value.str (PySem.Str.ofString "is_gone") 591, PySem.Value.str (PySem.Str.ofString "largest_acked") 592, PySem.Value.str (PySem.Str.ofString "largest_seen") 593, PySem.Value.str (PySem.Str.ofString "largest_time") 594, PySem.Value.str (PySem.Str.ofString "last_eliciting_time") 595, PySem.Value.str (PySem.Str.ofString "loss_time") 596, PySem.Value.str (PySem.Str.ofString "name") 597, PySem.Value.str (PySem.Str.ofString "next_number") 598, PySem.Value.str (PySem.Str.ofString "received") 599, PySem.Value.str (PySem.Str.ofString "sent") 600, PySem.Value.str (PySem.Str.ofString "unacked") 601, PySem.Value.str (PySem.Str.ofString "wants_now") 602] }
noncomputable def om307 (P : Params) : Obj := { cls := PySem.Value.type "dict", data := PySem.Data.dict #[{ hash := PySem.PyData.keyHash P (PySem.Str.ofString "__module__"), key := PySem.Value.str (PySem.Str.ofString "__module__") 430, val := PySem.Value.str (PySem.Str.ofString "quic.spaces") 421 }, { hash := PySem.PyData.keyHash P (PySem.Str.ofString "__firstlineno__"), key := PySem.Value.str (PySem.Str.ofString "__firstlineno__") 434, val := PySem.Value.int 114 433 }, { hash := PySem.PyData.keyHash P (PySem.Str.ofString "__init__"), key := PySem.Value.str (PySem.Str.ofString "__init__") 442, val := PySem.Value.ref 179 }, { hash := PySem.PyData.keyHash P (PySem.Str.ofString "is_known"), key := PySem.Value.str (PySem.Str.ofString "is_known") 450, val := PySem.Value.ref 186 }, { hash := PySem.PyData.keyHash P (PySem.Str.ofString "on_received"), key := PySem.Value.str (PySem.Str.ofString "on_received") 461, val := PySem.Value.ref 193 }, { hash := PySem.PyData.keyHash P (PySem.Str.ofString "ack_frame"), key := PySem.Value.str (PySem.Str.ofString "ack_frame") 470, val := PySem.Value.ref 200 }, { hash := PySem.PyData.keyHash P (PySem.Str.ofString "on_ack_sent"), key := PySem.Value.str (PySem.Str.ofString "on_ack_sent") 477, val := PySem.Value.ref 207 }, { hash := PySem.PyData.keyHash P (PySem.Str.ofString "owes_ack"), key := PySem.Value.str (PySem.Str.ofString "owes_ack") 484, val := PySem.Value.ref 214 }, { hash := PySem.PyData.keyHash P (PySem.Str.ofString "take_number"), key := PySem.Value.str (PySem.Str.ofString "take_number") 491, val := PySem.Value.ref 221 }, { hash := PySem.PyData.keyHash P (PySem.Str.ofString "on_sent"), key := PySem.Value.str (PySem.Str.ofString "on_sent") 502, val := PySem.Value.ref 228 }, { hash := PySem.PyData.keyHash P (PySem.Str.ofString "take"), key := PySem.Value.str (PySem.Str.ofString "take") 510, val := PySem.Value.ref 235 }, { hash := PySem.PyData.keyHash P (PySem.Str.ofString "acked_by"), key := PySem.Value.str (PySem.Str.ofString "acked_by") 518, val := PySem.Value.ref 242 }, { hash := PySem.PyData.keyHash P (PySem.Str.ofString "note_acked"), key := PySem.Value.str (PySem.Str.ofString "note_acked") 526, val := PySem.Value.ref 249 }, { hash := PySem.PyData.keyHash P (PySem.Str.ofString "note_ranges"), key := PySem.Value.str (PySem.Str.ofString "note_ranges") 534, val := PySem.Value.ref 256 }, { hash := PySem.PyData.keyHash P (PySem.Str.ofString "is_beyond"), key := PySem.Value.str (PySem.Str.ofString "is_beyond") 542, val := PySem.Value.ref 263 }, { hash := PySem.PyData.keyHash P (PySem.Str.ofString "note_largest"), key := PySem.Value.str (PySem.Str.ofString "note_largest") 550, val := PySem.Value.ref 270 }, { hash := PySem.PyData.keyHash P (PySem.Str.ofString "eliciting_left"), key := PySem.Value.str (PySem.Str.ofString "eliciting_left") 557, val := PySem.Value.ref 277 }, { hash := PySem.PyData.keyHash P (PySem.Str.ofString "bare_numbers"), key := PySem.Value.str (PySem.Str.ofString "bare_numbers") 564, val := PySem.Value.ref 284 }, { hash := PySem.PyData.keyHash P (PySem.Str.ofString "octets_out"), key := PySem.Value.str (PySem.Str.ofString "octets_out") 571, val := PySem.Value.ref 291 }, { hash := PySem.PyData.keyHash P (PySem.Str.ofString "sent_rows"), key := PySem.Value.str (PySem.Str.ofString "sent_rows") 578, val := PySem.Value.ref 298 }, { hash := PySem.PyData.keyHash P (PySem.Str.ofString "forget"), key := PySem.Value.str (PySem.Str.ofString "forget") 585, val := PySem.Value.ref 305 }, { hash := PySem.PyData.keyHash P (PySem.Str.ofString "__static_attributes__"), key := PySem.Value.str (PySem.Str.ofString "__static_attributes__") 603, val := PySem.Value.ref 306 }, { hash := PySem.PyData.keyHash P (PySem.Str.ofString "__dict__"), key := PySem.Value.str (PySem.Str.ofString "__dict__") 605, val := PySem.Value.ref 309 }, { hash := PySem.PyData.keyHash P (PySem.Str.ofString "__weakref__"), key := PySem.Value.str (PySem.Str.ofString "__weakref__") 607, val := PySem.Value.ref 310 }, { hash := PySem.PyData.keyHash P (PySem.Str.ofString "__doc__"), key := PySem.Value.str (PySem.Str.ofString "__doc__") 608, val := PySem.Value.none }] 4 }
noncomputable def om308 (P : Params) : Obj := { cls := PySem.Value.type "type", data := PySem.Data.cls { name := PySem.Str.ofString "Space", bases := [PySem.Value.type "object"], mro := [PySem.Value.ref 308, PySem.Value.type "object"], ns := 307, qualname := PySem.Str.ofString "Space" }, slots := #[Option.none, Option.none, Option.some (PySem.Value.str (PySem.Str.ofString "Space") 423), Option.some (PySem.Value.str (PySem.Str.ofString "Space") 431), Option.some (PySem.Value.builtin "object.__new__"), Option.some (PySem.Value.bool Bool.true)] }
noncomputable def om309 (P : Params) : Obj := { cls := PySem.Value.type "getset_descriptor", data := PySem.Data.fields #[PySem.Value.str (PySem.Str.ofString "__dict__") 604, PySem.Value.ref 308, PySem.Value.builtin "function.__dict__", PySem.Value.builtin "function.__dict__#set"] }
noncomputable def om310 (P : Params) : Obj := { cls := PySem.Value.type "getset_descriptor", data := PySem.Data.fields #[PySem.Value.str (PySem.Str.ofString "__weakref__") 606, PySem.Value.ref 308, PySem.Value.builtin "ExceptionGroup.__weakref__", PySem.Value.none] }
noncomputable def om311 (P : Params) : Obj := { cls := PySem.Value.type "super", data := PySem.Data.fields #[PySem.Value.ref 308, PySem.Value.ref 308, PySem.Value.ref 308] }
noncomputable def om312 (P : Params) : Obj := { cls := PySem.Value.type "builtin_function_or_method", data := PySem.Data.fields #[PySem.Value.builtin "object.__init_subclass__", PySem.Value.ref 308] }
noncomputable def om313 (P : Params) : Obj := { cls := PySem.Value.type "tuple", data := PySem.Data.seq #[] }
noncomputable def om314 (P : Params) : Obj := { cls := PySem.Value.none, data := PySem.Data.fields #[] }
noncomputable def om315 (P : Params) : Obj := { cls := PySem.Value.type "tuple", data := PySem.Data.seq #[PySem.Value.str (PySem.Str.ofString "box") 616, PySem.Value.str (PySem.Str.ofString "many") 617] }
noncomputable def om316 (P : Params) : Obj := { cls := PySem.Value.type "tuple", data := PySem.Data.seq #[] }
noncomputable def om317 (P : Params) : Obj := { cls := PySem.Value.none, data := PySem.Data.func { name := PySem.Str.ofString "_law_take", qualname := PySem.Str.ofString "_law_take", params := lf16.1.1, body := PySem.FuncBody.stmts lf16.1.2.1, scope := lf16.1.2.2, globals := 0, closure := [], defaults := PySem.Value.none, kwdefaults := PySem.Value.none } }
noncomputable def om318 (P : Params) : Obj := { cls := PySem.Value.type "code", data := PySem.Data.fields #[PySem.Value.str (PySem.Str.ofString "_law_take") 613, PySem.Value.str (PySem.Str.ofString "_law_take") 614, PySem.Value.str (PySem.Str.ofString "/claim/cut.py") 615, PySem.Value.int 189 0, PySem.Value.int 2 0, PySem.Value.int 0 0, PySem.Value.int 0 0, PySem.Value.int 3 0, PySem.Value.ref 313, PySem.Value.bool Bool.true, PySem.Value.int 181 0, PySem.Value.ref 314, PySem.Value.none, PySem.Value.ref 315, PySem.Value.ref 316, PySem.Value.ref 317, PySem.Value.int 618 0, PySem.Value.int 189 0, PySem.Value.str (PySem.Str.ofString "/claim/cut.py") 619] }
noncomputable def om319 (P : Params) : Obj := { cls := PySem.Value.type "function", data := PySem.Data.func { name := PySem.Str.ofString "_law_take", qualname := PySem.Str.ofString "_law_take", params := lf16.1.1, body := PySem.FuncBody.stmts lf16.1.2.1, scope := lf16.1.2.2, globals := 3, closure := [], defaults := PySem.Value.none, kwdefaults := PySem.Value.none, pyModule := PySem.Value.str (PySem.Str.ofString "law_pf0269_01") 611, code := PySem.Value.ref 318 } }
noncomputable def om320 (P : Params) : Obj := { cls := PySem.Value.type "tuple", data := PySem.Data.seq #[] }
noncomputable def om321 (P : Params) : Obj := { cls := PySem.Value.none, data := PySem.Data.fields #[] }
noncomputable def om322 (P : Params) : Obj := { cls := PySem.Value.type "tuple", data := PySem.Data.seq #[PySem.Value.str (PySem.Str.ofString "script") 624, PySem.Value.str (PySem.Str.ofString "box") 625, PySem.Value.str (PySem.Str.ofString "conn") 626, PySem.Value.str (PySem.Str.ofString "due") 627, PySem.Value.str (PySem.Str.ofString "turn") 628, PySem.Value.str (PySem.Str.ofString "raw") 629, PySem.Value.str (PySem.Str.ofString "wrong") 630, PySem.Value.str (PySem.Str.ofString "token") 631, PySem.Value.str (PySem.Str.ofString "found") 632] }
noncomputable def om323 (P : Params) : Obj := { cls := PySem.Value.type "tuple", data := PySem.Data.seq #[PySem.Value.str (PySem.Str.ofString "is_client") 633] }
noncomputable def om324 (P : Params) : Obj := { cls := PySem.Value.none, data := PySem.Data.func { name := PySem.Str.ofString "law", qualname := PySem.Str.ofString "law", params := lf17.1.1, body := PySem.FuncBody.stmts lf17.1.2.1, scope := lf17.1.2.2, globals := 0, closure := [], defaults := PySem.Value.none, kwdefaults := PySem.Value.none } }
noncomputable def om325 (P : Params) : Obj := { cls := PySem.Value.type "code", data := PySem.Data.fields #[PySem.Value.str (PySem.Str.ofString "law") 621, PySem.Value.str (PySem.Str.ofString "law") 622, PySem.Value.str (PySem.Str.ofString "/claim/cut.py") 623, PySem.Value.int 194 0, PySem.Value.int 1 0, PySem.Value.int 0 0, PySem.Value.int 0 0, PySem.Value.int 3 0, PySem.Value.ref 320, PySem.Value.bool Bool.true, PySem.Value.int 181 0, PySem.Value.ref 321, PySem.Value.none, PySem.Value.ref 322, PySem.Value.ref 323, PySem.Value.ref 324, PySem.Value.int 634 0, PySem.Value.int 194 0, PySem.Value.str (PySem.Str.ofString "/claim/cut.py") 635] }
noncomputable def om326 (P : Params) : Obj := { cls := PySem.Value.type "function", data := PySem.Data.func { name := PySem.Str.ofString "law", qualname := PySem.Str.ofString "law", params := lf17.1.1, body := PySem.FuncBody.stmts lf17.1.2.1, scope := lf17.1.2.2, globals := 3, closure := [], defaults := PySem.Value.none, kwdefaults := PySem.Value.none, pyModule := PySem.Value.str (PySem.Str.ofString "law_pf0269_01") 611, code := PySem.Value.ref 325 } }
noncomputable def tree_pre (P : Params) : BT := (.node (boot_o_0 P) (.node (boot_o_1 P) (.node (boot_o_3 P) (.node (boot_o_7 P) .nil .nil) (.node (om11 P) .nil .nil)) (.node (boot_o_5 P) (.node (boot_o_9 P) .nil .nil) (.node (om13 P) .nil .nil))) (.node (boot_o_2 P) (.node (boot_o_4 P) (.node (boot_o_8 P) .nil .nil) (.node (om12 P) .nil .nil)) (.node (boot_o_6 P) (.node (boot_o_10 P) .nil .nil) (.node (om14 P) .nil .nil))))
noncomputable def tree_m13 (P : Params) : BT := (.node (boot_o_0 P) (.node (boot_o_1 P) (.node (om3 P) (.node (boot_o_7 P) (.node (om15 P) (.node (om31 P) (.node (om63 P) (.node (om127 P) .nil .nil) .nil) (.node (om95 P) (.node (om159 P) .nil .nil) .nil)) (.node (om47 P) (.node (om79 P) (.node (om143 P) .nil .nil) .nil) (.node (om111 P) .nil .nil))) (.node (om23 P) (.node (om39 P) (.node (om71 P) (.node (om135 P) .nil .nil) .nil) (.node (om103 P) .nil .nil)) (.node (om55 P) (.node (om87 P) (.node (om151 P) .nil .nil) .nil) (.node (om119 P) .nil .nil)))) (.node (om11 P) (.node (om19 P) (.node (om35 P) (.node (om67 P) (.node (om131 P) .nil .nil) .nil) (.node (om99 P) (.node (om163 P) .nil .nil) .nil)) (.node (om51 P) (.node (om83 P) (.node (om147 P) .nil .nil) .nil) (.node (om115 P) .nil .nil))) (.node (om27 P) (.node (om43 P) (.node (om75 P) (.node (om139 P) .nil .nil) .nil) (.node (om107 P) .nil .nil)) (.node (om59 P) (.node (om91 P) (.node (om155 P) .nil .nil) .nil) (.node (om123 P) .nil .nil))))) (.node (boot_o_5 P) (.node (boot_o_9 P) (.node (om17 P) (.node (om33 P) (.node (om65 P) (.node (om129 P) .nil .nil) .nil) (.node (om97 P) (.node (om161 P) .nil .nil) .nil)) (.node (om49 P) (.node (om81 P) (.node (om145 P) .nil .nil) .nil) (.node (om113 P) .nil .nil))) (.node (om25 P) (.node (om41 P) (.node (om73 P) (.node (om137 P) .nil .nil) .nil) (.node (om105 P) .nil .nil)) (.node (om57 P) (.node (om89 P) (.node (om153 P) .nil .nil) .nil) (.node (om121 P) .nil .nil)))) (.node (om13 P) (.node (om21 P) (.node (om37 P) (.node (om69 P) (.node (om133 P) .nil .nil) .nil) (.node (om101 P) (.node (om165 P) .nil .nil) .nil)) (.node (om53 P) (.node (om85 P) (.node (om149 P) .nil .nil) .nil) (.node (om117 P) .nil .nil))) (.node (om29 P) (.node (om45 P) (.node (om77 P) (.node (om141 P) .nil .nil) .nil) (.node (om109 P) .nil .nil)) (.node (om61 P) (.node (om93 P) (.node (om157 P) .nil .nil) .nil) (.node (om125 P) .nil .nil)))))) (.node (om2 P) (.node (boot_o_4 P) (.node (boot_o_8 P) (.node (om16 P) (.node (om32 P) (.node (om64 P) (.node (om128 P) .nil .nil) .nil) (.node (om96 P) (.node (om160 P) .nil .nil) .nil)) (.node (om48 P) (.node (om80 P) (.node (om144 P) .nil .nil) .nil) (.node (om112 P) .nil .nil))) (.node (om24 P) (.node (om40 P) (.node (om72 P) (.node (om136 P) .nil .nil) .nil) (.node (om104 P) .nil .nil)) (.node (om56 P) (.node (om88 P) (.node (om152 P) .nil .nil) .nil) (.node (om120 P) .nil .nil)))) (.node (om12v1 P) (.node (om20 P) (.node (om36 P) (.node (om68 P) (.node (om132 P) .nil .nil) .nil) (.node (om100 P) (.node (om164 P) .nil .nil) .nil)) (.node (om52 P) (.node (om84 P) (.node (om148 P) .nil .nil) .nil) (.node (om116 P) .nil .nil))) (.node (om28 P) (.node (om44 P) (.node (om76 P) (.node (om140 P) .nil .nil) .nil) (.node (om108 P) .nil .nil)) (.node (om60 P) (.node (om92 P) (.node (om156 P) .nil .nil) .nil) (.node (om124 P) .nil .nil))))) (.node (boot_o_6 P) (.node (boot_o_10 P) (.node (om18 P) (.node (om34 P) (.node (om66 P) (.node (om130 P) .nil .nil) .nil) (.node (om98 P) (.node (om162 P) .nil .nil) .nil)) (.node (om50 P) (.node (om82 P) (.node (om146 P) .nil .nil) .nil) (.node (om114 P) .nil .nil))) (.node (om26 P) (.node (om42 P) (.node (om74 P) (.node (om138 P) .nil .nil) .nil) (.node (om106 P) .nil .nil)) (.node (om58 P) (.node (om90 P) (.node (om154 P) .nil .nil) .nil) (.node (om122 P) .nil .nil)))) (.node (om14 P) (.node (om22 P) (.node (om38 P) (.node (om70 P) (.node (om134 P) .nil .nil) .nil) (.node (om102 P) .nil .nil)) (.node (om54 P) (.node (om86 P) (.node (om150 P) .nil .nil) .nil) (.node (om118 P) .nil .nil))) (.node (om30 P) (.node (om46 P) (.node (om78 P) (.node (om142 P) .nil .nil) .nil) (.node (om110 P) .nil .nil)) (.node (om62 P) (.node (om94 P) (.node (om158 P) .nil .nil) .nil) (.node (om126 P) .nil .nil)))))))
noncomputable def tree_fin (P : Params) : BT := (.node (boot_o_0 P) (.node (boot_o_1 P) (.node (om3v1 P) (.node (boot_o_7 P) (.node (om15 P) (.node (om31 P) (.node (om63 P) (.node (om127 P) (.node (om255 P) .nil .nil) .nil) (.node (om191 P) (.node (om319 P) .nil .nil) .nil)) (.node (om95 P) (.node (om159 P) (.node (om287 P) .nil .nil) .nil) (.node (om223 P) .nil .nil))) (.node (om47 P) (.node (om79 P) (.node (om143 P) (.node (om271 P) .nil .nil) .nil) (.node (om207 P) .nil .nil)) (.node (om111 P) (.node (om175 P) (.node (om303 P) .nil .nil) .nil) (.node (om239 P) .nil .nil)))) (.node (om23 P) (.node (om39 P) (.node (om71 P) (.node (om135 P) (.node (om263 P) .nil .nil) .nil) (.node (om199 P) .nil .nil)) (.node (om103 P) (.node (om167 P) (.node (om295 P) .nil .nil) .nil) (.node (om231 P) .nil .nil))) (.node (om55 P) (.node (om87 P) (.node (om151 P) (.node (om279 P) .nil .nil) .nil) (.node (om215 P) .nil .nil)) (.node (om119 P) (.node (om183 P) (.node (om311 P) .nil .nil) .nil) (.node (om247 P) .nil .nil))))) (.node (om11 P) (.node (om19 P) (.node (om35 P) (.node (om67 P) (.node (om131 P) (.node (om259 P) .nil .nil) .nil) (.node (om195 P) (.node (om323 P) .nil .nil) .nil)) (.node (om99 P) (.node (om163 P) (.node (om291 P) .nil .nil) .nil) (.node (om227 P) .nil .nil))) (.node (om51 P) (.node (om83 P) (.node (om147 P) (.node (om275 P) .nil .nil) .nil) (.node (om211 P) .nil .nil)) (.node (om115 P) (.node (om179 P) (.node (om307 P) .nil .nil) .nil) (.node (om243 P) .nil .nil)))) (.node (om27 P) (.node (om43 P) (.node (om75 P) (.node (om139 P) (.node (om267 P) .nil .nil) .nil) (.node (om203 P) .nil .nil)) (.node (om107 P) (.node (om171 P) (.node (om299 P) .nil .nil) .nil) (.node (om235 P) .nil .nil))) (.node (om59 P) (.node (om91 P) (.node (om155 P) (.node (om283 P) .nil .nil) .nil) (.node (om219 P) .nil .nil)) (.node (om123 P) (.node (om187 P) (.node (om315 P) .nil .nil) .nil) (.node (om251 P) .nil .nil)))))) (.node (boot_o_5 P) (.node (boot_o_9 P) (.node (om17 P) (.node (om33 P) (.node (om65 P) (.node (om129 P) (.node (om257 P) .nil .nil) .nil) (.node (om193 P) (.node (om321 P) .nil .nil) .nil)) (.node (om97 P) (.node (om161 P) (.node (om289 P) .nil .nil) .nil) (.node (om225 P) .nil .nil))) (.node (om49 P) (.node (om81 P) (.node (om145 P) (.node (om273 P) .nil .nil) .nil) (.node (om209 P) .nil .nil)) (.node (om113 P) (.node (om177 P) (.node (om305 P) .nil .nil) .nil) (.node (om241 P) .nil .nil)))) (.node (om25 P) (.node (om41 P) (.node (om73 P) (.node (om137 P) (.node (om265 P) .nil .nil) .nil) (.node (om201 P) .nil .nil)) (.node (om105 P) (.node (om169 P) (.node (om297 P) .nil .nil) .nil) (.node (om233 P) .nil .nil))) (.node (om57 P) (.node (om89 P) (.node (om153 P) (.node (om281 P) .nil .nil) .nil) (.node (om217 P) .nil .nil)) (.node (om121 P) (.node (om185 P) (.node (om313 P) .nil .nil) .nil) (.node (om249 P) .nil .nil))))) (.node (om13 P) (.node (om21 P) (.node (om37 P) (.node (om69 P) (.node (om133 P) (.node (om261 P) .nil .nil) .nil) (.node (om197 P) (.node (om325 P) .nil .nil) .nil)) (.node (om101 P) (.node (om165 P) (.node (om293 P) .nil .nil) .nil) (.node (om229 P) .nil .nil))) (.node (om53 P) (.node (om85 P) (.node (om149 P) (.node (om277 P) .nil .nil) .nil) (.node (om213 P) .nil .nil)) (.node (om117 P) (.node (om181 P) (.node (om309 P) .nil .nil) .nil) (.node (om245 P) .nil .nil)))) (.node (om29 P) (.node (om45 P) (.node (om77 P) (.node (om141 P) (.node (om269 P) .nil .nil) .nil) (.node (om205 P) .nil .nil)) (.node (om109 P) (.node (om173 P) (.node (om301 P) .nil .nil) .nil) (.node (om237 P) .nil .nil))) (.node (om61 P) (.node (om93 P) (.node (om157 P) (.node (om285 P) .nil .nil) .nil) (.node (om221 P) .nil .nil)) (.node (om125 P) (.node (om189 P) (.node (om317 P) .nil .nil) .nil) (.node (om253 P) .nil .nil))))))) (.node (om2 P) (.node (boot_o_4 P) (.node (boot_o_8 P) (.node (om16 P) (.node (om32 P) (.node (om64 P) (.node (om128 P) (.node (om256 P) .nil .nil) .nil) (.node (om192 P) (.node (om320 P) .nil .nil) .nil)) (.node (om96 P) (.node (om160 P) (.node (om288 P) .nil .nil) .nil) (.node (om224 P) .nil .nil))) (.node (om48 P) (.node (om80 P) (.node (om144 P) (.node (om272 P) .nil .nil) .nil) (.node (om208 P) .nil .nil)) (.node (om112 P) (.node (om176 P) (.node (om304 P) .nil .nil) .nil) (.node (om240 P) .nil .nil)))) (.node (om24 P) (.node (om40 P) (.node (om72 P) (.node (om136 P) (.node (om264 P) .nil .nil) .nil) (.node (om200 P) .nil .nil)) (.node (om104 P) (.node (om168 P) (.node (om296 P) .nil .nil) .nil) (.node (om232 P) .nil .nil))) (.node (om56 P) (.node (om88 P) (.node (om152 P) (.node (om280 P) .nil .nil) .nil) (.node (om216 P) .nil .nil)) (.node (om120 P) (.node (om184 P) (.node (om312 P) .nil .nil) .nil) (.node (om248 P) .nil .nil))))) (.node (om12v2 P) (.node (om20 P) (.node (om36 P) (.node (om68 P) (.node (om132 P) (.node (om260 P) .nil .nil) .nil) (.node (om196 P) (.node (om324 P) .nil .nil) .nil)) (.node (om100 P) (.node (om164 P) (.node (om292 P) .nil .nil) .nil) (.node (om228 P) .nil .nil))) (.node (om52 P) (.node (om84 P) (.node (om148 P) (.node (om276 P) .nil .nil) .nil) (.node (om212 P) .nil .nil)) (.node (om116 P) (.node (om180 P) (.node (om308 P) .nil .nil) .nil) (.node (om244 P) .nil .nil)))) (.node (om28 P) (.node (om44 P) (.node (om76 P) (.node (om140 P) (.node (om268 P) .nil .nil) .nil) (.node (om204 P) .nil .nil)) (.node (om108 P) (.node (om172 P) (.node (om300 P) .nil .nil) .nil) (.node (om236 P) .nil .nil))) (.node (om60 P) (.node (om92 P) (.node (om156 P) (.node (om284 P) .nil .nil) .nil) (.node (om220 P) .nil .nil)) (.node (om124 P) (.node (om188 P) (.node (om316 P) .nil .nil) .nil) (.node (om252 P) .nil .nil)))))) (.node (boot_o_6 P) (.node (boot_o_10 P) (.node (om18 P) (.node (om34 P) (.node (om66 P) (.node (om130 P) (.node (om258 P) .nil .nil) .nil) (.node (om194 P) (.node (om322 P) .nil .nil) .nil)) (.node (om98 P) (.node (om162 P) (.node (om290 P) .nil .nil) .nil) (.node (om226 P) .nil .nil))) (.node (om50 P) (.node (om82 P) (.node (om146 P) (.node (om274 P) .nil .nil) .nil) (.node (om210 P) .nil .nil)) (.node (om114 P) (.node (om178 P) (.node (om306 P) .nil .nil) .nil) (.node (om242 P) .nil .nil)))) (.node (om26 P) (.node (om42 P) (.node (om74 P) (.node (om138 P) (.node (om266 P) .nil .nil) .nil) (.node (om202 P) .nil .nil)) (.node (om106 P) (.node (om170 P) (.node (om298 P) .nil .nil) .nil) (.node (om234 P) .nil .nil))) (.node (om58 P) (.node (om90 P) (.node (om154 P) (.node (om282 P) .nil .nil) .nil) (.node (om218 P) .nil .nil)) (.node (om122 P) (.node (om186 P) (.node (om314 P) .nil .nil) .nil) (.node (om250 P) .nil .nil))))) (.node (om14 P) (.node (om22 P) (.node (om38 P) (.node (om70 P) (.node (om134 P) (.node (om262 P) .nil .nil) .nil) (.node (om198 P) (.node (om326 P) .nil .nil) .nil)) (.node (om102 P) (.node (om166 P) (.node (om294 P) .nil .nil) .nil) (.node (om230 P) .nil .nil))) (.node (om54 P) (.node (om86 P) (.node (om150 P) (.node (om278 P) .nil .nil) .nil) (.node (om214 P) .nil .nil)) (.node (om118 P) (.node (om182 P) (.node (om310 P) .nil .nil) .nil) (.node (om246 P) .nil .nil)))) (.node (om30 P) (.node (om46 P) (.node (om78 P) (.node (om142 P) (.node (om270 P) .nil .nil) .nil) (.node (om206 P) .nil .nil)) (.node (om110 P) (.node (om174 P) (.node (om302 P) .nil .nil) .nil) (.node (om238 P) .nil .nil))) (.node (om62 P) (.node (om94 P) (.node (om158 P) (.node (om286 P) .nil .nil) .nil) (.node (om222 P) .nil .nil)) (.node (om126 P) (.node (om190 P) (.node (om318 P) .nil .nil) .nil) (.node (om254 P) .nil .nil))))))))
/-- the top's frame -/
noncomputable def tEnv : Env := { scope := PySem.Challenge.rw_pf0269_01.row.prog.main.scope, locals := mainNs, globals := mainNs, cells := [], code := .ref 13, frame := some 14 }
noncomputable abbrev tB : List Stmt := behindTheImports PySem.Challenge.rw_pf0269_01.row.prog
noncomputable abbrev tC : Code := .body tB tEnv
noncomputable def part0 : List Stmt := tB.take 14
noncomputable def part1 : List Stmt := tB.drop 14
theorem parts : tB = part0 ++ (part1 ++ []) := by kernel_rfl
abbrev tF : List Frame := [topFrame ⟨0, 0, 0, 0⟩]
theorem run_pre (w : World) (os : OsState) : topGo treeTable PySem.Challenge.rw_pf0269_01.row.prog w 11 (some (.ref 6)) 12 ⟨boot_heap w.params, Array.mk [], boot_drawn, boot_toks, os⟩ (topStub PySem.Challenge.rw_pf0269_01.row.prog) = some ((⟨tree_pre w.params, 15, {}, Array.mk [], boot_drawn, 187, os⟩ : SharedT).abs, ⟨denote treeTable tC, tC, ⟨0, 0, 0, 0⟩, tF⟩) := by kernel_rfl
theorem run_block (w : World) (os : OsState) : segRun treeTable PySem.Challenge.rw_pf0269_01.row.prog w 11 (some (.ref 6)) 1 1 (⟨tree_pre w.params, 15, {}, Array.mk [], boot_drawn, 187, os⟩ : SharedT).abs (blockOf tB tEnv tC ⟨0, 0, 0, 0⟩ tF) = some (.next, (⟨tree_pre w.params, 15, {}, Array.mk [], boot_drawn, 187, os⟩ : SharedT).abs, tC, ⟨0, 0, 0, 0⟩) := by kernel_rfl
theorem run_0 (w : World) (os : OsState) : segRunT treeTable PySem.Challenge.rw_pf0269_01.row.prog w 11 (some (.ref 6)) 1 1300 (⟨tree_pre w.params, 15, {}, Array.mk [], boot_drawn, 187, os⟩ : SharedT) (piecesOf part0 tEnv tC ⟨0, 0, 0, 0⟩ tF) = some (.next, (⟨tree_m13 w.params, 166, {}, Array.mk [], boot_drawn, 423, os⟩ : SharedT), tC, ⟨113, 0, 113, 8⟩) := by kernel_rfl
theorem run_1 (w : World) (os : OsState) : segRunT treeTable PySem.Challenge.rw_pf0269_01.row.prog w 11 (some (.ref 6)) 1 950 (⟨tree_m13 w.params, 166, {}, Array.mk [], boot_drawn, 423, os⟩ : SharedT) (piecesOf part1 tEnv tC ⟨113, 0, 113, 8⟩ tF) = some (.next, (⟨tree_fin w.params, 327, {}, Array.mk [], boot_drawn, 637, os⟩ : SharedT), tC, ⟨194, 0, 217, 102⟩) := by kernel_rfl
theorem run_fin (w : World) (os : OsState) : topRun treeTable PySem.Challenge.rw_pf0269_01.row.prog w 11 (some (.ref 6)) 2 (⟨tree_fin w.params, 327, {}, Array.mk [], boot_drawn, 637, os⟩ : SharedT).abs ⟨doneF .next, tC, ⟨194, 0, 217, 102⟩, tF⟩ = some (⟨tree_fin w.params, 327, {}, Array.mk [], boot_drawn, 637, os⟩ : SharedT).abs := by kernel_rfl
theorem run_all (w : World) (os : OsState) : topRun treeTable PySem.Challenge.rw_pf0269_01.row.prog w 11 (some (.ref 6)) (12 + (1 + (1300 + (950 + 2)))) ⟨boot_heap w.params, Array.mk [], boot_drawn, boot_toks, os⟩ (topStub PySem.Challenge.rw_pf0269_01.row.prog) = some (⟨tree_fin w.params, 327, {}, Array.mk [], boot_drawn, 637, os⟩ : SharedT).abs := by
  refine go_top (run_pre w os) (piece_block (run_block w os) ?_)
  rw [parts]
  exact piece_app (segRun_of (run_0 w os)) (piece_app (segRun_of (run_1 w os)) (piece_nil (run_fin w os)))
noncomputable abbrev seenX : Shared → Bool := fun s => xlAt viewQ [] s && recOk (RowW.records PySem.Challenge.rw_pf0269_01.row.toRowW) s
theorem look_top (w : World) (os : OsState) : (staticsOk (importedModules PySem.Challenge.rw_pf0269_01.row.prog.main.body) (boot_heap w.params) (⟨tree_fin w.params, 327, {}, Array.mk [], boot_drawn, 637, os⟩ : SharedT).abs.heap && namesBound PySem.Challenge.rw_pf0269_01.row.prog (⟨tree_fin w.params, 327, {}, Array.mk [], boot_drawn, 637, os⟩ : SharedT).abs.heap && gensDone (⟨tree_fin w.params, 327, {}, Array.mk [], boot_drawn, 637, os⟩ : SharedT).abs && laidKept (boot_heap w.params) (⟨tree_fin w.params, 327, {}, Array.mk [], boot_drawn, 637, os⟩ : SharedT).abs.heap) = true := by kernel_rfl
theorem look_seen (w : World) (os : OsState) : openSeen viewQ [] (importedModules PySem.Challenge.rw_pf0269_01.row.prog.main.body) seenX true (⟨tree_fin w.params, 327, {}, Array.mk [], boot_drawn, 637, os⟩ : SharedT).abs = openGood viewQ [] := by kernel_rfl
theorem look_hook (w : World) (os : OsState) : Hook.obs hook (⟨tree_fin w.params, 327, {}, Array.mk [], boot_drawn, 637, os⟩ : SharedT).abs = Hook.val hook w := by kernel_rfl
theorem left : LeftO PySem.Challenge.rw_pf0269_01.row.prog viewQ [] seenX (Hook.obs hook) (Hook.val hook) 4286 :=
  LeftO.of_pieces (H₀ := boot_heap) (H₁ := fun P => absHeap (tree_fin P) 327 {}) (gs₀ := Array.mk []) (gs₁ := Array.mk []) (d₀ := boot_drawn) (d₁ := boot_drawn) (k₀ := boot_toks) (k₁ := 637) (m₀ := 11) (ann := (some (.ref 6))) (M := 12 + (1 + (1300 + (950 + 2))))
    (boot_open (by kernel_rfl!) (by decide +kernel) (fun _ => by kernel_rfl!)) (fun _ => by kernel_rfl) run_all (by decide +kernel)
    (fun w => funext fun os => looks_pair (look_top w os) (looks_pair (look_seen w os) (look_hook w os)))

abbrev ent (w : World) (n : String) (t : Tok) (v : Value) : DictEntry := { hash := PyData.keyHash w.params (PySem.Str.ofString n), key := .str (PySem.Str.ofString n) t, val := v }
abbrev tup2 (a b : Value) : Obj := { cls := .type "tuple", data := .seq #[a, b] }
theorem fm_lo {x y : Int} (h : 0 < y) : 0 ≤ x.fmod y := Int.fmod_nonneg_of_pos x h
theorem fm_hi {x y : Int} (h : 0 < y) : x.fmod y < y := Int.fmod_lt_of_pos x h
/-- the caller's frames: the law's own over the claim's caller -/
abbrev atLaw (cn : Str) (cs : Scope) (L a : Addr) (ccd : Value) (cl : List (Str × Addr)) : Around := callerA.deeper (envX cn cs L a ccd cl)
/-- a call without arguments that hands back a bool and leaves all as it was -/
def CallsB (w : World) (p : Program) (loose : List Str) (mean : ExcName → Option Value) (mg mb : Str → Option Value) (f : Addr) (need : List (Addr × Obj)) (b : Bool) : Prop :=
  ∀ (A : Around) (env : Env) (outer : List Env) (A₀ : Around) (base h₀ : Heap) (L : Addr) (m : Str → Option Value) (news : List (Addr × Obj)) (s : Shared) (Q E : Value → Shared → Prop),
    Below A₀ base outer h₀ → Fr h₀ L s.heap m → (heapK w.params).In h₀ → News h₀ L s.heap news → Top p loose mean mg mb h₀ → A.frames = some (env :: outer) → env.frame = some L → env.scope.kind = .function → A.depth < recursionLimit →
    (∀ q ∈ need, q ∈ news) → (∀ h' tk', Fr h₀ L h' m → News h₀ L h' news → Q (.bool b) { s with heap := h', toks := tk' }) → ∀ (p1 p2 : Pos) (e2 : Env),
    wpAny (model PySem.Challenge.rw_pf0269_01.row.prog w) A (callWith p1 (.ref f) [] (backTo p2 (starEach [] e2)) []) Q E s
/-- what a fresh Space holds, in order: nothing here reads it -/
abbrev spEs (w : World) (t : Nat → Tok) (v : Nat → Value) : List DictEntry :=
  [ent w "name" (t 0) (v 0), ent w "next_number" (t 1) (v 1), ent w "sent" (t 2) (v 2), ent w "largest_acked" (t 3) (v 3), ent w "acked" (t 4) (v 4), ent w "last_eliciting_time" (t 5) (v 5), ent w "loss_time" (t 6) (v 6),
   ent w "received" (t 7) (v 7), ent w "largest_seen" (t 8) (v 8), ent w "largest_time" (t 9) (v 9), ent w "floor" (t 10) (v 10), ent w "first_unacked" (t 11) (v 11), ent w "unacked" (t 12) (v 12), ent w "wants_now" (t 13) (v 13),
   ent w "has_new" (t 14) (v 14), ent w "ecn" (t 15) (v 15), ent w "is_gone" (t 16) (v 16)]
abbrev cnEs (w : World) (t : Nat → Tok) (v : Nat → Value) (fl rm : Addr) (mv : Bool) (fp : Value) : List DictEntry :=
  spEs w t v ++ [ent w "is_client" (t 17) (.ref fl), ent w "has_peer_moved_cid" (t 18) (.bool mv), ent w "first_peer_cid" (t 19) fp, ent w "remote" (t 20) (.ref rm)]
abbrev rmEs (w : World) (t : Nat → Tok) (u : Nat → Tok) (kn us td tr : Addr) (emp : Bool) : List DictEntry :=
  [ent w "limit" (t 0) (.int 4 (u 0)), ent w "known" (t 1) (.ref kn), ent w "current" (t 2) (.int 0 (u 2)), ent w "used" (t 3) (.ref us), ent w "retire_prior" (t 4) (.int 0 (u 4)), ent w "told" (t 5) (.ref td), ent w "to_retire" (t 6) (.ref tr), ent w "is_empty" (t 7) (.bool emp)]
abbrev rwEs (w : World) (t : Nat → Tok) (v : Nat → Value) (kd : Str) (tk : Tok) (sc : Value) : List DictEntry :=
  [ent w "kind" (t 0) (.str kd tk), ent w "first" (t 1) (v 1), ent w "version" (t 2) (v 2), ent w "dcid" (t 3) (v 3), ent w "scid" (t 4) sc, ent w "token" (t 5) (v 5), ent w "tag" (t 6) (v 6), ent w "versions" (t 7) (v 7), ent w "start" (t 8) (v 8), ent w "number_at" (t 9) (v 9), ent w "end" (t 10) (v 10)]

/-- addresses, all different -/
def Apart (l : List Nat) : Prop := l.Pairwise fun a b => a ≠ b

theorem allLt_to {d : Addr} : ∀ {l : List (Addr × Obj)}, AllLt d l → ∀ p ∈ l, p.1 < d
  | [], _, _, h => nomatch h
  | p :: r, h, q, hq => by
    rcases List.mem_cons.mp hq with rfl | h'
    · exact h.1
    · exact allLt_to h.2 q h'
/-- newer than all of these -/
structure Over (d : Nat) (l : List Nat) (rest : List (Addr × Obj)) : Prop where
  core : ∀ x ∈ l, x < d
  rest : ∀ q ∈ rest, @LT.lt Nat _ q.1 d
theorem allLt_ne {d : Addr} {l : List (Addr × Obj)} (h : AllLt d l) : ∀ p ∈ l, p.1 ≠ d := fun p hp => Nat.ne_of_lt (allLt_to h p hp)
theorem allLt_lt {d e : Addr} {l : List (Addr × Obj)} (h : AllLt d l) (he : @LT.lt Nat _ d e) : AllLt e l := allLt_of fun p hp => Nat.lt_trans (allLt_to h p hp) he
/-- the i-th of these -/
abbrev nth {α : Type} (l : List α) (d : α) (i : Nat) : α := l.getD i d

section
variable {prog : Program} {w : World} {A : Around} {E : Value → Shared → Prop} {s : Shared} {env : Env} {h₀ : Heap} {x : Str} {body : List Stmt} {Q : Flow → Shared → Prop}
/-- what a turn must leave: the iterator as it was, the invariant of the rest -/
def TurnEnd (h₀ : Heap) (L I : Addr) (oI : Obj) (J : (Str → Option Value) → List (Addr × Obj) → Prop) (s₁ s₂ : Shared) : Prop :=
  ∃ h' tk m' nx, s₂ = { s₁ with heap := h', toks := tk } ∧ Fr h₀ L h' m' ∧ News h₀ L h' ((I, oI) :: nx) ∧ (∀ p ∈ nx, p.1 ≠ I) ∧ J m' nx
def TurnPost (h₀ : Heap) (L I : Addr) (oI : Obj) (J : (Str → Option Value) → List (Addr × Obj) → Prop) (s₁ : Shared) (Q : Flow → Shared → Prop) (f : Flow) (s₂ : Shared) : Prop :=
  match f with
  | .ret v => Q (.ret v) s₂
  | .brk => Q .next s₂
  | _ => TurnEnd h₀ L I oI J s₁ s₂
theorem range_inv {r : Addr} {a₀ b₀ : Int} {t₀ u₀ v₀ : Tok} {n : Nat} {m₀ : Str → Option Value} {news : List (Addr × Obj)} (J : Nat → (Str → Option Value) → List (Addr × Obj) → Prop)
    (hh : A.handled = none) (hr : IsRange s.heap r a₀ b₀ 1 t₀ u₀ v₀) (hsmall : Builtin.Range.small a₀ b₀ 1 = true) (hn : Builtin.Range.rangeSize a₀ b₀ 1 = (n : Int)) (F : Fr h₀ env.locals s.heap m₀) (N : News h₀ env.locals s.heap news) (hj : J 0 m₀ news)
    (turn : ∀ I oI i k t m₁ nx h tk, i < n → (∀ p ∈ news, @LT.lt Nat _ p.1 I) → (∀ p ∈ nx, p.1 ≠ I) → J i m₁ nx → Fr h₀ env.locals h (fun y => if y = x then some (.int k t) else m₁ y) → News h₀ env.locals h ((I, oI) :: nx) →
      wpAny (model prog w) A (execs body env) (TurnPost h₀ env.locals I oI (J (i + 1)) { s with heap := h, toks := tk } Q) E { s with heap := h, toks := tk })
    (done : ∀ m₁ nx h tk, J n m₁ nx → Fr h₀ env.locals h m₁ → News h₀ env.locals h nx → Q .next { s with heap := h, toks := tk }) :
    wpAny (model prog w) A (pyIter (.ref r)) (fun it s₂ => LoopAtV prog w A h₀ env x body Q E it s₂) E s := by
  refine wpAny_pyIter_range hr hsmall ?_
  have W : Walks prog w A s.heap.objs.size [s.heap.objs.size] [s.heap.objs.size] n (fun i v => i < n ∧ ∃ t, v = .int (a₀ + i * 1) t)
      (fun i h => IsRangeIter h s.heap.objs.size (a₀ + (i : Nat) * 1) ((n : Int) - (i : Nat)) 1) := (Walks.range hh _ a₀ 1 n).bound
  refine ⟨_, _, _, n, _, _, m₀, news, J, rfl, W, ?_, ?_, ?_, (by show IsRangeIter _ _ _ _ _; rw [hn]; simpa using Heap.get?_push_size _ rfl), F.push _, (fun p hp => ⟨Heap.get?_push_of_some _ (N p hp).1, (N p hp).2⟩), hj, ?_, ?_⟩
  · intro hm
    exact absurd F.ns.lt ((List.mem_singleton.mp hm) ▸ Nat.lt_irrefl _)
  · intro b hb
    rw [List.mem_singleton.mp hb]
    exact next_is_new F
  · intro p hp hI
    exact absurd (Heap.lt_size (N p hp).1) ((List.mem_singleton.mp hI) ▸ Nat.lt_irrefl _)
  · rintro i v m₁ nx s₁ own ⟨hh', tk', rfl⟩ hi ⟨_, t, rfl⟩ hJ hoff hown hget hfp hst F₁ N₁
    have hI0 : h₀.get? s.heap.objs.size = none := next_is_new F
    have hI : ∃ oI, hh'.get? s.heap.objs.size = some oI := by
      have h1 : IsRangeIter hh' s.heap.objs.size _ _ _ := hst
      exact ⟨_, h1⟩
    obtain ⟨oI, hoI⟩ := hI
    have hIown : (s.heap.objs.size, oI) ∈ own := hfp _ (List.mem_cons.mpr (.inl rfl)) hI0 _ hoI
    have hall : ∀ p ∈ own, p = (s.heap.objs.size, oI) := fun p hp => by
      have h1 : p.1 = s.heap.objs.size := List.mem_singleton.mp (hown p hp)
      have h2 := hget p hp
      rw [h1] at h2
      have h3 : p.2 = oI := Option.some.inj (h2.symm.trans hoI)
      exact Prod.ext h1 h3
    have hne : ∀ p ∈ nx, p.1 ≠ s.heap.objs.size := fun p hp e => hoff p hp (List.mem_singleton.mpr e)
    have N₂ : News h₀ env.locals hh' ((s.heap.objs.size, oI) :: nx) := fun p hp => by
      rcases List.mem_cons.mp hp with rfl | h
      · exact N₁ _ (List.mem_append.mpr (.inl hIown))
      · exact N₁ _ (List.mem_append.mpr (.inr h))
    refine wpAny_mono (turn _ oI i _ t m₁ nx hh' tk' hi (fun p hp => Heap.lt_size (N p hp).1) hne hJ F₁ N₂) (fun f s₂ p => ?_) fun _ _ e => e
    have fin : TurnEnd h₀ env.locals s.heap.objs.size oI (J (i + 1)) { s with heap := hh', toks := tk' } s₂ → LoopStepU h₀ env.locals [s.heap.objs.size] own (J (i + 1)) { s with heap := hh', toks := tk' } .next s₂ := by
      rintro ⟨h', tk, m', nx', e, F', N', hne', hm⟩
      refine ⟨rfl, h', tk, m', nx', e, F', fun p hp => ?_, fun p hp hq => hne' p hp (List.mem_singleton.mp hq), hm⟩
      rcases List.mem_append.mp hp with h | h
      · rw [hall p h]; exact N' _ (.head _)
      · exact N' _ (.tail _ h)
    cases f with
    | ret v => exact .ret p
    | brk => exact .brk p
    | next => exact .next (fin p)
    | cont => exact .cont (fin p)
  · rintro h' tk m' news' F' N' _ hJ
    exact done m' news' h' tk hJ F' N'
end

/-- a def of the text, by its place -/
noncomputable def fnAtD (i : Nat) : Option (Arguments × List Stmt × Scope) := match PySem.Challenge.pw_pf0269_01.main.body[i]? with
  | some (.FunctionDef _ a b _ _ _ sc _ _ _) => some (a, b, sc)
  | _ => none
noncomputable def lawFn : {x : Arguments × List Stmt × Scope // fnAtD 17 = some x} := ⟨(_, _, _), rfl⟩
/-- the body of the law's loop -/
noncomputable def turnBody : {b : List Stmt // (match (lawFn.1.2.1[5]? : Option Stmt) with | some (Stmt.For _ _ b _ _) => some b | _ => none) = some b} := ⟨_, rfl⟩
/-- what stands behind the loop -/
noncomputable def lastBody : {b : List Stmt // lawFn.1.2.1.drop 6 = b} := ⟨_, rfl⟩
noncomputable abbrev lawEnv (L fa : Addr) : Env := envOfC (PySem.Str.ofString "law") lawFn.1.2.2 L fa (.ref 325)
/-- the law's names ahead of a turn -/
abbrev mapT (u : Str → Option Value) (dv : Value) (c box : Addr) (mr : Str → Option Value) : Str → Option Value := fun y =>
  if y = PySem.Str.ofString "due" then some dv else if y = PySem.Str.ofString "turn" then u y else if y = PySem.Str.ofString "raw" then u y else
  if y = PySem.Str.ofString "conn" then some (.ref c) else if y = PySem.Str.ofString "box" then some (.ref box) else mr y
theorem mapT_of {m mr : Str → Option Value} {dv : Value} {c box : Addr} (h1 : m (PySem.Str.ofString "due") = some dv) (h2 : m (PySem.Str.ofString "conn") = some (.ref c)) (h3 : m (PySem.Str.ofString "box") = some (.ref box))
    (h4 : ∀ z, z ≠ PySem.Str.ofString "due" → z ≠ PySem.Str.ofString "turn" → z ≠ PySem.Str.ofString "raw" → z ≠ PySem.Str.ofString "conn" → z ≠ PySem.Str.ofString "box" → m z = mr z) : m = mapT m dv c box mr := by
  funext y
  unfold mapT
  split
  · next h => rw [h, h1]
  · next a1 =>
    split
    · rfl
    · next a2 =>
      split
      · rfl
      · next a3 =>
        split
        · next h => rw [h, h2]
        · next a4 =>
          split
          · next h => rw [h, h3]
          · next a5 => exact h4 y a1 a2 a3 a4 a5
/-- the fixed addresses, in the order in which they were made -/
structure Chain (tb ce l box cd c co fl rd rm kn us td I : Nat) : Prop where
  h1 : tb < ce
  h2 : ce < l
  h3 : l < box
  h4 : box < cd
  h5 : cd < c
  h6 : c < co
  h7 : co < fl
  h8 : fl < rd
  h9 : rd < rm
  h10 : rm < kn
  h11 : kn < us
  h12 : us < td
  h13 : td < I
/-- the two pairs of the remote's dicts -/
structure Pairs (kn us td t1 t2 I : Nat) : Prop where
  h1 : kn < t1
  h2 : t1 < t2
  h3 : td < t2
  h4 : t1 ≠ us
  h5 : t1 ≠ td
  h6 : t1 ≠ I
  h7 : t2 ≠ I
theorem fr_mapT {h₀ h : Heap} {L : Addr} {m mr : Str → Option Value} {dv : Value} {c box : Addr} (F : Fr h₀ L h m) (h1 : m (PySem.Str.ofString "due") = some dv) (h2 : m (PySem.Str.ofString "conn") = some (.ref c)) (h3 : m (PySem.Str.ofString "box") = some (.ref box))
    (h4 : ∀ z, z ≠ PySem.Str.ofString "due" → z ≠ PySem.Str.ofString "turn" → z ≠ PySem.Str.ofString "raw" → z ≠ PySem.Str.ofString "conn" → z ≠ PySem.Str.ofString "box" → m z = mr z) : Fr h₀ L h (mapT m dv c box mr) := mapT_of h1 h2 h3 h4 ▸ F
theorem fr_due {h₀ h : Heap} {L : Addr} {m mr : Str → Option Value} {dv : Value} {c box : Addr} (F : Fr h₀ L h (fun z => if z = PySem.Str.ofString "due" then some dv else m z)) (h2 : m (PySem.Str.ofString "conn") = some (.ref c)) (h3 : m (PySem.Str.ofString "box") = some (.ref box))
    (h4 : ∀ z, z ≠ PySem.Str.ofString "due" → z ≠ PySem.Str.ofString "turn" → z ≠ PySem.Str.ofString "raw" → z ≠ PySem.Str.ofString "conn" → z ≠ PySem.Str.ofString "box" → m z = mr z) :
    Fr h₀ L h (mapT (fun z => if z = PySem.Str.ofString "due" then some dv else m z) dv c box mr) :=
  fr_mapT F (if_pos rfl) ((if_neg (by decide +kernel)).trans h2) ((if_neg (by decide +kernel)).trans h3) fun z z1 z2 z3 z4 z5 => (if_neg z1).trans (h4 z z1 z2 z3 z4 z5)

section
variable {prog : Program} {w : World} {A : Around} {E : Value → Shared → Prop} {s : Shared} {h₀ : Heap} {L : Addr} {m : Str → Option Value} {news : List (Addr × Obj)}
/-- one of three written texts -/
theorem menu3s {value slice : PySem.Expr} {lm : Addr} {a0 a1 a2 : Str} {t0 t1 t2 u : Tok} {k : Int} {n : Nat} {Q : Value → Shared → Prop}
    (N : News h₀ L s.heap ((lm, listOf #[.str a0 t0, .str a1 t1, .str a2 t2] n) :: news)) (h0 : 0 ≤ k) (h3 : k < 3)
    (h : ∀ kd tk, (kd = a0 ∨ kd = a1 ∨ kd = a2) → News h₀ L s.heap news → Q (.str kd tk) s)
    (hs : subscripted slice false (.ref lm) (.int k u) = operate [.ref lm, .int k u] (getItem (.ref lm) (.int k u)) := by with_unfolding_all rfl) :
    wpAny (model prog w) A (subscriptTail value slice (.ref lm) (.int k u)) Q E s := by
  have hl : s.heap.IsList lm #[.str a0 t0, .str a1 t1, .str a2 t2] := ⟨_, (N _ (.head _)).1, rfl, _, rfl⟩
  have N' : News h₀ L s.heap news := fun p hp => N p (.tail _ hp)
  have hk : k = 0 ∨ k = 1 ∨ k = 2 := by omega
  have hx : ∃ kd tk, #[Value.str a0 t0, .str a1 t1, .str a2 t2][k.toNat]? = some (.str kd tk) ∧ (kd = a0 ∨ kd = a1 ∨ kd = a2) := by
    rcases hk with rfl | rfl | rfl
    · exact ⟨a0, t0, rfl, .inl rfl⟩
    · exact ⟨a1, t1, rfl, .inr (.inl rfl)⟩
    · exact ⟨a2, t2, rfl, .inr (.inr rfl)⟩
  obtain ⟨kd, tk, hx, hm⟩ := hx
  exact tail_any hl.typeIs slot_list_getitem.lookup (wpAny_getItem_list hl h0 (by omega) hx (h kd tk hm N')) hs
/-- one of three written bytes -/
theorem menu3b {value slice : PySem.Expr} {lm : Addr} {a0 a1 a2 : Array UInt8} {t0 t1 t2 u : Tok} {k : Int} {n : Nat} {Q : Value → Shared → Prop}
    (N : News h₀ L s.heap ((lm, listOf #[.bytes a0 t0, .bytes a1 t1, .bytes a2 t2] n) :: news)) (h0 : 0 ≤ k) (h3 : k < 3)
    (h : ∀ kd tk, (kd = a0 ∨ kd = a1 ∨ kd = a2) → News h₀ L s.heap news → Q (.bytes kd tk) s)
    (hs : subscripted slice false (.ref lm) (.int k u) = operate [.ref lm, .int k u] (getItem (.ref lm) (.int k u)) := by with_unfolding_all rfl) :
    wpAny (model prog w) A (subscriptTail value slice (.ref lm) (.int k u)) Q E s := by
  have hl : s.heap.IsList lm #[.bytes a0 t0, .bytes a1 t1, .bytes a2 t2] := ⟨_, (N _ (.head _)).1, rfl, _, rfl⟩
  have N' : News h₀ L s.heap news := fun p hp => N p (.tail _ hp)
  have hk : k = 0 ∨ k = 1 ∨ k = 2 := by omega
  have hx : ∃ kd tk, #[Value.bytes a0 t0, .bytes a1 t1, .bytes a2 t2][k.toNat]? = some (.bytes kd tk) ∧ (kd = a0 ∨ kd = a1 ∨ kd = a2) := by
    rcases hk with rfl | rfl | rfl
    · exact ⟨a0, t0, rfl, .inl rfl⟩
    · exact ⟨a1, t1, rfl, .inr (.inl rfl)⟩
    · exact ⟨a2, t2, rfl, .inr (.inr rfl)⟩
  obtain ⟨kd, tk, hx, hm⟩ := hx
  exact tail_any hl.typeIs slot_list_getitem.lookup (wpAny_getItem_list hl h0 (by omega) hx (h kd tk hm N')) hs
end

section
open PySem.SeqAt
variable {prog : Program} {w : World} {A : Around} {E : Value → Shared → Prop} {s : Shared} {h₀ : Heap} {L : Addr} {news : List (Addr × Obj)} {Q : Value → Shared → Prop}
theorem eqAt_bytes (a b : Array UInt8) (t u : Tok) : EqAt A s (.bytes a t) (.bytes b u) (a.toList == b.toList) := fun prog w E Q hq => by
  unfold eqBool
  refine wpAny_holding ?_
  refine wpAny_ite_split (fun hab => ?_) (fun _ => ?_)
  · have h1 := eq_of_beq hab
    injection h1 with h2 h3
    subst h2
    rw [beq_self_eq_true] at hq
    exact wpAny_bind (wpAny_rule (wpAny_pure hq))
  · exact wpAny_bind (eq_bytes (wpAny_truthy_bool hq))
theorem eqAt_bytes' (a b : Array UInt8) (t u : Tok) {e : Bool} (he : (a.toList == b.toList) = e) : EqAt A s (.bytes a t) (.bytes b u) e := he ▸ eqAt_bytes a b t u
variable {a b : Addr} {x y x' y' : Value} {na nb : Nat} {e0 e1 : Bool}
def pick2 (e0 e1 : Bool) : Nat → Bool
  | 0 => e0
  | _ => e1
theorem all_two : ((List.range (min 2 2)).all (pick2 e0 e1) && ((2 : Nat) == 2)) = (e0 && e1) := by cases e0 <;> cases e1 <;> rfl
theorem at_two {x y x' y' : Value} (h0 : EqAt A s x x' e0) (h1 : EqAt A s y y' e1) : ∀ j (q1 : j < #[x, y].size) (q2 : j < #[x', y'].size), EqAt A s #[x, y][j] #[x', y'][j] (pick2 e0 e1 j)
  | 0, _, _ => h0
  | 1, _, _ => h1
  | n + 2, q, _ => absurd q (by simp)
theorem eq_two (N : News h₀ L s.heap news) (ma : (a, ({ cls := .type "tuple", data := .seq #[x, y] na } : Obj)) ∈ news) (mb : (b, ({ cls := .type "tuple", data := .seq #[x', y'] nb } : Obj)) ∈ news) (hu : A.units + 64 < cLine)
    (h0 : EqAt A.in1 s x x' e0) (h1 : EqAt A.in1 s y y' e1) (h : Q (.bool (e0 && e1)) s) : wpAny (model prog w) A (compareOp .Eq (.ref a) (.ref b)) Q E s :=
  eq_tupleAt (items := #[x, y]) (items2 := #[x', y']) ⟨_, (N _ ma).1, rfl, _, rfl⟩ ⟨_, (N _ mb).1, rfl, _, rfl⟩ (Nat.lt_of_le_of_lt (Nat.le_add_right _ _) hu) (at_two h0 h1) (show Q (.bool ((List.range (min 2 2)).all (pick2 e0 e1) && ((2 : Nat) == 2))) s from all_two.symm ▸ h)
theorem ne_two (N : News h₀ L s.heap news) (ma : (a, ({ cls := .type "tuple", data := .seq #[x, y] na } : Obj)) ∈ news) (mb : (b, ({ cls := .type "tuple", data := .seq #[x', y'] nb } : Obj)) ∈ news) (hu : A.units + 64 < cLine)
    (h0 : EqAt A.in1 s x x' e0) (h1 : EqAt A.in1 s y y' e1) (h : Q (.bool (!(e0 && e1))) s) : wpAny (model prog w) A (compareOp .NotEq (.ref a) (.ref b)) Q E s :=
  RcNeAt.tuples (items := #[x, y]) (items2 := #[x', y']) ⟨_, (N _ ma).1, rfl, _, rfl⟩ ⟨_, (N _ mb).1, rfl, _, rfl⟩ (Nat.lt_of_le_of_lt (Nat.le_add_right _ _) hu) (at_two h0 h1) prog w E _ (show Q (.bool (!((List.range (min 2 2)).all (pick2 e0 e1) && ((2 : Nat) == 2)))) s from all_two.symm ▸ h)
end
theorem ne_bytes_same {prog : Program} {w : World} {A : Around} {E : Value → Shared → Prop} {s : Shared} {Q : Value → Shared → Prop} {b : Array UInt8} {t u : Tok} (h : Q (.bool false) s) : wpAny (model prog w) A (compareOp .NotEq (.bytes b t) (.bytes b u)) Q E s :=
  ne_bytes (by rw [bne_self_eq_false]; exact h)
theorem eq_bytes_known {prog : Program} {w : World} {A : Around} {E : Value → Shared → Prop} {s : Shared} {Q : Value → Shared → Prop} {b c : Array UInt8} {t u : Tok} {e : Bool} (he : (b.toList == c.toList) = e) (h : Q (.bool e) s) : wpAny (model prog w) A (compareOp .Eq (.bytes b t) (.bytes c u)) Q E s :=
  eq_bytes (by rw [he]; exact h)

theorem flat_one (r : Nat) (d : Int) : (List.replicate r [d]).flatten = List.replicate r d := by
  induction r with
  | zero => rfl
  | succ r ih => rw [List.replicate_succ, List.flatten_cons, ih]; rfl
theorem bytes_rep {prog : Program} {w : World} {A : Around} {E : Value → Shared → Prop} {s : Shared} {Q : Value → Shared → Prop} {h₀ : Heap} {L D : Addr} {m : Str → Option Value} {news : List (Addr × Obj)} {vs : List Value} {d : Int} {r n : Nat}
    (F : Fr h₀ L s.heap m) (N : News h₀ L s.heap news) (hh : A.handled = none) (hm : (D, listOf vs.toArray n) ∈ news) (hi : IntsAre vs (List.replicate r [d]).flatten) (h0 : 0 ≤ d) (h1 : d < 256) (hr : r ≤ 16777216)
    (h : ∀ b h' t' k, Fr h₀ L h' m → News h₀ L h' news → Q (.bytes b t') { s with heap := h', toks := k }) : wpAny (model prog w) A (call (.type "bytes") [.ref D]) Q E s := by
  have e := flat_one r d
  refine KBa.make_K F N hh ⟨_, (N _ hm).1, rfl, _, rfl⟩ hi ?_ ?_ fun h' t' k F' N' _ => h _ h' t' k F' N'
  · intro x hx
    rw [e] at hx
    rw [List.eq_of_mem_replicate hx]
    exact ⟨h0, h1⟩
  · rw [e, List.length_replicate]; exact hr

section
variable {prog : Program} {w : World} {A : Around} {E : Value → Shared → Prop} {s : Shared} {env : Env} {h₀ : Heap} {x : Str} {body : List Stmt} {Q : Flow → Shared → Prop}
/-- a loop over a dict of one int key -/
theorem keys_once {d : Addr} {od : Obj} {k0 : Int} {x0 : Value} {m₀ : Str → Option Value} {news : List (Addr × Obj)}
    (hh : A.handled = none) (F : Fr h₀ env.locals s.heap m₀) (N : News h₀ env.locals s.heap news) (hm : (d, od) ∈ news) (hd : od.IsDictOf (intKind prog w) [(k0, x0)]) (lo : (d == sysModules) = false)
    (turn : ∀ I oI t h tk, (∀ p ∈ news, @LT.lt Nat _ p.1 I) → Fr h₀ env.locals h (fun y => if y = x then some (.int k0 t) else m₀ y) → News h₀ env.locals h ((I, oI) :: news) →
      wpAny (model prog w) A (execs body env) (TurnPost h₀ env.locals I oI (fun m' nx => (d, od) ∈ nx ∧ ∀ h tk, Fr h₀ env.locals h m' → News h₀ env.locals h nx → Q .next { s with heap := h, toks := tk }) { s with heap := h, toks := tk } Q) E { s with heap := h, toks := tk }) :
    wpAny (model prog w) A (pyIter (.ref d)) (fun it s₂ => LoopAtV prog w A h₀ env x body Q E it s₂) E s := by
  have hD : s.heap.DictOf (intKind prog w) d [(k0, x0)] := kda_dict N hm hd
  obtain ⟨ep, hat⟩ := hD.dictAt
  have hlt : d < s.heap.objs.size := Heap.lt_size (N _ hm).1
  have hne : d ≠ s.heap.objs.size := Nat.ne_of_lt hlt
  have hdL : d ≠ env.locals := (N _ hm).2.1
  refine wpAny_pyIter_dict lo hat ?_
  have W := Walks.dictKeys (prog := prog) (w := w) (knd := intKind prog w) hh s.heap.objs.size d hne [(k0, x0)] ep
  let J : Nat → (Str → Option Value) → List (Addr × Obj) → Prop := fun i m nx => match i with
    | 0 => m = m₀ ∧ nx = news
    | _ => (d, od) ∈ nx ∧ ∀ h tk, Fr h₀ env.locals h m → News h₀ env.locals h nx → Q .next { s with heap := h, toks := tk }
  have hI : ∃ o, (s.heap.push { cls := .type "dict_keyiterator", data := .fields #[.ref d, .int 0 0, .int ([(k0, x0)] : List (Int × Value)).length 0, .int ep 0] }).get? s.heap.objs.size = some o := ⟨_, Heap.get?_push_size _ rfl⟩
  refine ⟨_, _, _, 1, _, _, m₀, news, J, rfl, W, ?_, ?_, ?_, ⟨⟨_, Heap.get?_push_size _ rfl, rfl, rfl⟩, hat.at' fun o e => Heap.get?_push_of_some _ e⟩, F.push _, (fun p hp => ⟨Heap.get?_push_of_some _ (N p hp).1, (N p hp).2⟩), ⟨rfl, rfl⟩, ?_, ?_⟩
  · intro hm'
    rcases List.mem_cons.mp hm' with e | hm'
    · exact absurd F.ns.lt (e ▸ Nat.lt_irrefl _)
    · exact hdL (List.mem_singleton.mp hm').symm
  · intro b hb
    rw [List.mem_singleton.mp hb]
    exact next_is_new F
  · intro p hp hI'
    exact absurd (Heap.lt_size (N p hp).1) ((List.mem_singleton.mp hI') ▸ Nat.lt_irrefl _)
  · rintro i v m₁ nx s₁ own ⟨hh', tk', rfl⟩ hi ⟨k, y, hk, hv⟩ hJ hoff hown hget hfp hst F₁ N₁
    obtain rfl : i = 0 := by omega
    obtain ⟨rfl, rfl⟩ := hJ
    obtain ⟨rfl, rfl⟩ : k0 = k ∧ x0 = y := by simpa using hk
    obtain ⟨t, rfl⟩ := Value.isInt_shape hv
    have hI0 : h₀.get? s.heap.objs.size = none := next_is_new F
    have hd0 : h₀.get? d = none := (N _ hm).2.2
    have hdn : hh'.get? d = some od := (N₁ (d, od) (List.mem_append.mpr (.inr hm))).1
    obtain ⟨oI, hoI, _⟩ := id hst.1
    have hIown : (s.heap.objs.size, oI) ∈ own := hfp _ (List.mem_cons.mpr (.inl rfl)) hI0 _ hoI
    have hall : ∀ p ∈ own, p = (s.heap.objs.size, oI) ∨ p = (d, od) := fun p hp => by
      have h2 := hget p hp
      rcases List.mem_cons.mp (hown p hp) with h1 | h1
      · rw [h1] at h2
        exact .inl (Prod.ext h1 (Option.some.inj (h2.symm.trans hoI)))
      · have h1 := List.mem_singleton.mp h1
        rw [h1] at h2
        exact .inr (Prod.ext h1 (Option.some.inj (h2.symm.trans hdn)))
    have N₂ : News h₀ env.locals hh' ((s.heap.objs.size, oI) :: nx) := fun p hp => by
      rcases List.mem_cons.mp hp with rfl | h
      · exact N₁ _ (List.mem_append.mpr (.inl hIown))
      · exact N₁ _ (List.mem_append.mpr (.inr h))
    refine wpAny_mono (turn _ oI t hh' tk' (fun p hp => Heap.lt_size (N p hp).1) F₁ N₂) (fun f s₂ p => ?_) fun _ _ e => e
    have fin : TurnEnd h₀ env.locals s.heap.objs.size oI (J 1) { s with heap := hh', toks := tk' } s₂ → LoopStepU h₀ env.locals [s.heap.objs.size] own (J 1) { s with heap := hh', toks := tk' } .next s₂ := by
      rintro ⟨h', tk, m', nx', e, F', N', hne', hm'⟩
      refine ⟨rfl, h', tk, m', nx', e, F', fun p hp => ?_, fun p hp hq => hne' p hp (List.mem_singleton.mp hq), hm'⟩
      rcases List.mem_append.mp hp with h | h
      · rcases hall p h with rfl | rfl
        · exact N' _ (.head _)
        · exact N' _ (.tail _ hm'.1)
      · exact N' _ (.tail _ h)
    cases f with
    | ret v => exact .ret p
    | brk => exact .brk p
    | next => exact .next (fin p)
    | cont => exact .cont (fin p)
  · rintro h' tk m' news' F' N' _ hJ
    exact hJ.2 h' tk F' N'
end

section
variable {prog : Program} {w : World} {A : Around} {E : Value → Shared → Prop} {s : Shared} {h₀ : Heap} {L d : Addr} {m : Str → Option Value} {news : List (Addr × Obj)} {Q : Value → Shared → Prop}
/-- the int keys of a dict, sorted -/
theorem sortedI {o : Obj} {kvs : List (Int × Value)} (ks : List Int) (e : kvs.map (·.1) = ks) (hh : A.handled = none) (F : Fr h₀ L s.heap m) (N : News h₀ L s.heap news) (hm : (d, o) ∈ news) (hd : o.IsDictOf (intKind prog w) kvs) (lo : (d == sysModules) = false) (hn : ks.length ≤ 16777216)
    (h : ∀ (B : Addr) h' tk, KdlKeysI (ks.map fun k => (k, Value.none)) fun vs => Fr h₀ L h' m → News h₀ L h' ((B, listOf vs.toArray 0) :: news) → (∀ q ∈ news, q.1 < B) →
      wpAny (model prog w) A.in1 (call (.builtin "list.sort") [.ref B]) (fun _ s' => Q (.ref B) s') E { s with heap := h', toks := tk }) :
    wpAny (model prog w) A (call (.builtin "sorted") [.ref d]) Q E s := by
  subst e
  have hD := kda_dict N hm hd
  obtain ⟨ep, hat⟩ := hD.dictAt
  refine kdu_sorted (kdl_dict (knd := intKind prog w) (kvs := kvs) (ep := ep) lo) hh F N hat (kdl_size (by simpa using hn)) fun B h' tk vs F' N' l1 hl hv => ?_
  refine kdl_openI (h B h' tk) vs (by rw [hl]; simp) (fun j u hu => ?_) F' N' l1
  obtain ⟨k, x, hx, hk⟩ := hv j u hu
  obtain ⟨t, rfl⟩ := Value.isInt_shape hk
  exact ⟨k, .none, by simp [hx], t, rfl⟩
end
theorem len_two {prog : Program} {w : World} {A : Around} {E : Value → Shared → Prop} {s : Shared} {h₀ : Heap} {L d : Addr} {news : List (Addr × Obj)} {Q : Value → Shared → Prop} {o : Obj} {kvs : List (Int × Value)} (N : News h₀ L s.heap news) (hp : (d, o) ∈ news) (hd : o.IsDictOf (intKind prog w) kvs) (lo : (d == sysModules) = false)
    (e : kvs.length = 2) (h : Q (.int 2 (s.toks + 1)) { s with toks := s.toks + 1 + 1 }) : wpAny (model prog w) A (call (.builtin "len") [.ref d]) Q E s :=
  kda_len N hp hd lo (by omega) (by rw [e]; exact h)

section
open PySem.AutoSeq1 in
theorem none_eq_bytes (a : Array UInt8) (t : Tok) : Gives (Builtin.«NoneType.__eq__» ⟨[.none, .bytes a t], []⟩) (.val (Value.notImplemented)) :=
  .of_wp fun M A E s Q h => by obtain ⟨hp, g, d, tk, os⟩ := s; wp_walk; exact ⟨_, rfl, h⟩
theorem sub_NoneType_bytes : isSubtype (.type "NoneType") (.type "bytes") = pure false := by rw [isSubtype_type]; kernel_rfl
theorem sub_bytes_NoneType : isSubtype (.type "bytes") (.type "NoneType") = pure false := by rw [isSubtype_type]; kernel_rfl
theorem bytes_eq_none (a : Array UInt8) (t : Tok) : Gives (Builtin.«bytes.__eq__» ⟨[.bytes a t, .none], []⟩) (.val (Value.notImplemented)) := by
  refine .of_wp fun M A E s Q hq => ?_
  obtain ⟨hp, g, d, tk, os⟩ := s
  wp_walk
  refine wpAny_of_eq sub_NoneType_bytes ?_
  wp_walk
  exact ⟨_, rfl, hq⟩
theorem cmp_none_bytes {prog : Program} {w : World} {A : Around} {E : Value → Shared → Prop} {s : Shared} {Q : Value → Shared → Prop} {a : Array UInt8} {t : Tok} (h : Q (.bool false) s) : wpAny (model prog w) A (compareOp .Eq .none (.bytes a t)) Q E s := by
  show wpAny _ A (richCompare .Eq _ _) Q E s
  exact PySem.EqNone.wpAny_richCompare_eq_decline (k := false) (fun _ => rfl) (fun s' => typeIs_bytes s' a t) (by decide) sub_bytes_NoneType PySem.F.slot_NoneType_eq (show Slot "bytes" (cmpInfo .Eq).2.2 "bytes.__eq__" from FB.slot_bytes_eq) rfl
    (call_gives PySem.F.slot_NoneType_eq rfl PySem.F.entry_NoneType_eq (PySem.F.args_NoneType_eq_2 _ _) (none_eq_bytes a t)
      ⟨rfl, call_gives FB.slot_bytes_eq (typeIs_bytes s a t) FB.entry_bytes_eq (FB.args_bytes_eq_2 _ _) (bytes_eq_none a t) ⟨rfl, h⟩⟩)
end

theorem lam_calls {w : World} {p : Program} {loose : List Str} {mean : ExcName → Option Value} {mg mb : Str → Option Value} {nm qual : Str} {fl co ce tb : Addr} {oco oce otb : Obj} {pmv ctv : Value} {vs' : Array Value} {t' : Tok} {b : Bool} {ps : Pos}
    (d1 : oco.data = .fields vs') (d2 : vs'[1]? = some (.str qual t')) (hce : oce.data = .cell (some (.bool b))) :
    CallsB w p loose mean mg mb fl [(fl, kla_obj nm qual { posonlyargs := [], args := [], vararg := none, kwonlyargs := [], kw_defaults := [], kwarg := none, defaults := [] } (PySem.Expr.Name (PySem.Str.ofString "is_client") ps)
      { kind := .function, names := [(PySem.Str.ofString "is_client", .free)], isGenerator := false, isCoroutine := false } [(PySem.Str.ofString "is_client", ce)] pmv co ctv), (co, oco), (ce, oce), (tb, otb)] b := by
  intro A env outer A₀ base h₀ L m news s Q E B F X N T hA hf hke hd need ret p1 p2 e2
  have n1 := need _ (.head _)
  have n2 := need _ (.tail _ (.head _))
  have n3 := need _ (.tail _ (.tail _ (.head _)))
  refine callWith_F0 (env := e2) (FnAt.of N n1) ?_
  refine wpAny_call ?_
  refine kla_code (binds := []) B F X N T hA hf hke n1 (codeRec_news N n2 d1 d2) hd rfl (fun _ h => nomatch h) ?_ rfl rfl rfl (by decide)
  intro g L' h₁ FG F' N' B' X' T'
  refine nameX_F (x := PySem.Str.ofString "is_client") N' rfl n3 hce ?_ rfl rfl
  refine leaveK_ F' N' ?_
  intro kF kN
  exact ret _ _ kF kN
theorem lo_of {a : Addr} (h : @LT.lt Nat _ 321 a) : (a == sysModules) = false := by
  rw [beq_eq_false_iff_ne]
  intro e
  subst e
  exact absurd h (by decide)

/-- an exception on its way: what of it is known, and of the heap around it -/
structure ExAt (B : Heap) (l : List Env) (e : Addr) (c : Value) (dd : Option Addr) (fl : Option Value) (h : Heap) : Prop where
  stays : B.StaysIn h
  new : B.get? e = none
  frames : h.FunFrames B l
  there : ∃ oe vs, h.get? e = some oe ∧ oe.cls = c ∧ oe.dict = dd ∧ oe.data = .fields vs ∧
    (match fl with
     | none => vs[1]? = some .none
     | some f => ∃ T oT ts, vs[1]? = some (.ref T) ∧ B.get? T = none ∧ T ≠ e ∧ h.get? T = some oT ∧ oT.data = .fields ts ∧ ts[3]? = some f)
section
variable {M : Model} {A : Around} {E : Value → Shared → Prop} {s : Shared} {B : Heap} {l : List Env} {env : Env} {outer : List Env} {L e : Addr} {c : Value} {dd : Option Addr}
theorem dict_mapF (o : Obj) (f : Array Value → Array Value) : (o.mapFields f).dict = o.dict := by
  obtain ⟨_, _, d, _⟩ := o
  cases d <;> rfl
theorem upTo_other {h h' : Heap} {e : Addr} {oe : Obj} {vs : Array Value} (he : h.get? e = some oe) (hd : oe.data = .fields vs) (k : ∀ b o, b ≠ e → h.get? b = some o → h'.get? b = some o) : h.UpToSlots h' := fun b o hb nf =>
  ⟨o.slots, k b o (fun q => by subst q; rw [he] at hb; cases hb; exact nf vs hd) hb⟩
theorem entry_step {oe : Obj} {vs : Array Value} {head : Value} {b : Bool} {Q : Unit → Shared → Prop} (hfr : A.frames = some (env :: outer)) (hf : env.frame = some L)
    (st : B.StaysIn s.heap) (nw : B.get? e = none) (fr : s.heap.FunFrames B (env :: outer)) (he : s.heap.get? e = some oe) (hd : oe.data = .fields vs) (hz : 1 < vs.size)
    (hQ : ∀ h', ExAt B (env :: outer) e oe.cls oe.dict (some (rawInt L)) h' → s.heap.UpToSlots h' → Q () { s with heap := h' }) :
    wpAny M A (do let a ← frameOf env; let pl ← entryPlaceOf L b; let x ← EntryCells.newEntry head a .none (rawInt L) .none pl; setField (.ref e) 1 x) Q E s := by
  have notFrame : ∀ x ∈ (env :: outer).filterMap (·.frame), x ≠ e ∧ B.get? x = none := fun x hx => by
    obtain ⟨hn, o, ho, nf⟩ := fr.mem hx
    exact ⟨fun q => by subst q; rw [he] at ho; cases ho; exact nf vs hd, hn⟩
  refine wpAny_bind (wpAny_frameOf_fun hfr fr hf fun h₁ so => wpAny_bind (wpAny_entryPlaceOf fun pl hpl => ?_))
  have he₁ : h₁.get? e = some oe := (so.2.1 e fun hm => (notFrame e hm).1 rfl).trans he
  have st₁ : B.StaysIn h₁ := fun x o hx => (so.2.1 x fun hm => by rw [(notFrame x hm).2] at hx; cases hx).trans (st x o hx)
  have fr₁ : h₁.FunFrames B (env :: outer) := fr.of_keeps fun x o hx _ => by
    obtain ⟨sl, hs⟩ := so.2.2 x o hx
    exact ⟨_, hs, rfl⟩
  unfold EntryCells.newEntry newFields
  refine wpAny_bind (wpAny_newObj_type ?_ (hpl.sizeOk5 _ _ _ _ _))
  generalize hTo : ({ cls := .type "traceback", dict := none, data := .fields ([head, .ref L, .none, rawInt L, .none] ++ (if pl.isEmpty then List.replicate 6 Value.none else pl)).toArray } : Obj) = oT
  have hTd : oT.data = .fields ([head, .ref L, .none, rawInt L, .none] ++ (if pl.isEmpty then List.replicate 6 Value.none else pl)).toArray := by rw [← hTo]
  have he₂ : (h₁.push oT).get? e = some oe := Heap.get?_push_of_some oT he₁
  have hne : e ≠ h₁.objs.size := Nat.ne_of_lt (Heap.lt_size he₁)
  refine wpAny_setField he₂ hd hz (hQ _ ?_ ?_)
  · have keep : ∀ x o, x ≠ e → h₁.get? x = some o → ((h₁.push oT).update e (Obj.mapFields (·.setIfInBounds 1 (Value.ref h₁.objs.size)))).get? x = some o := fun x o hx ho =>
      (Heap.get?_update_other _ _ hx.symm).trans (Heap.get?_push_of_some oT ho)
    have hT : ((h₁.push oT).update e (Obj.mapFields (·.setIfInBounds 1 (Value.ref h₁.objs.size)))).get? h₁.objs.size = some oT :=
      (Heap.get?_update_other _ _ hne).trans (Heap.get?_push_size h₁ (Obj.isFreed_of_fields hTd))
    refine ⟨fun x o hx => keep x o (fun q => by rw [q, nw] at hx; cases hx) (st₁ x o hx), nw, fr₁.of_keeps fun x o hx nf => ⟨o, keep x o (fun q => by subst q; rw [he₁] at hx; cases hx; exact nf vs hd) hx, rfl⟩, _, _,
      Heap.get?_update_self _ he₂ (Obj.isFreed_of_fields (Obj.data_mapFields hd _)), Obj.cls_mapFields _ _, dict_mapF _ _, Obj.data_mapFields hd _, h₁.objs.size, oT, _, by simp [hz], st₁.fresh, hne.symm, hT, hTd, by simp⟩
  · refine Heap.UpToSlots.trans (h₂ := h₁) (fun x o hx nf => so.2.2 x o hx) (upTo_other he₁ hd fun x o hx ho => (Heap.get?_update_other _ _ hx.symm).trans (Heap.get?_push_of_some oT ho))
theorem note_step {fl : Option Value} {Q : Unit → Shared → Prop} (hfr : A.frames = some (env :: outer)) (hf : env.frame = some L) (X : ExAt B (env :: outer) e c dd fl s.heap) (hfl : fl = none ∨ fl = some .none)
    (hQ : ∀ h', ExAt B (env :: outer) e c dd (some (rawInt L)) h' → s.heap.UpToSlots h' → Q () { s with heap := h' }) : wpAny M A (noteFrame (.ref e) env) Q E s := by
  obtain ⟨st, nw, fr, oe, vs, he, rfl, rfl, hd, hh⟩ := X
  unfold noteFrame
  simp only [hf]
  rcases hfl with rfl | rfl
  · refine wpAny_bind (wpAny_field he hd hh ?_)
    rw [if_neg (by decide)]
    exact entry_step hfr hf st nw fr he hd (Array.getElem?_eq_some_iff.mp hh).1 hQ
  · obtain ⟨T, oT, ts, h1, nT, hTe, hT, hTd, h3⟩ := hh
    refine wpAny_bind (wpAny_field he hd h1 ?_)
    rw [if_pos (show (Value.ref T != Value.none) = true from by simp)]
    refine wpAny_bind (wpAny_field hT hTd h3 ?_)
    rw [if_neg (show ¬ ((Value.none == rawInt L) = true) from by simp [rawInt])]
    refine wpAny_bind (wpAny_setField hT hTd (Array.getElem?_eq_some_iff.mp h3).1 ?_)
    have keep : ∀ x o, x ≠ T → s.heap.get? x = some o → (s.heap.update T (Obj.mapFields (·.setIfInBounds 3 Value.none))).get? x = some o := fun x o hx ho => (Heap.get?_update_other _ _ hx.symm).trans ho
    refine entry_step (s := { s with heap := _ }) hfr hf (fun x o hx => keep x o (fun q => by rw [q, nT] at hx; cases hx) (st x o hx)) nw (fr.of_keeps fun x o hx nf => ⟨o, keep x o (fun q => by subst q; rw [hT] at hx; cases hx; exact nf ts hTd) hx, rfl⟩)
      (keep e oe hTe.symm he) hd (Array.getElem?_eq_some_iff.mp h1).1 fun h' X' U => hQ h' X' ((upTo_other hT hTd keep).trans U)
theorem land_step {f : Value} {Q : Unit → Shared → Prop} (X : ExAt B l e c dd (some f) s.heap)
    (hQ : ∀ h', ExAt B l e c dd (some .none) h' → s.heap.UpToSlots h' → Q () { s with heap := h' }) : wpAny M A (setFlight (.ref e) none) Q E s := by
  obtain ⟨st, nw, fr, oe, vs, he, hc, hdd, hd, T, oT, ts, h1, nT, hTe, hT, hTd, h3⟩ := X
  have hz : 3 < ts.size := (Array.getElem?_eq_some_iff.mp h3).1
  unfold setFlight
  refine wpAny_bind (wpAny_field he hd h1 ?_)
  rw [if_pos (show (Value.ref T != Value.none) = true from by simp)]
  have keep : ∀ x o, x ≠ T → s.heap.get? x = some o → (s.heap.update T (Obj.mapFields (·.setIfInBounds 3 ((none : Option Addr).elim Value.none fun f => rawInt f)))).get? x = some o := fun x o hx ho => (Heap.get?_update_other _ _ hx.symm).trans ho
  refine wpAny_setField hT hTd hz (hQ _ ⟨fun x o hx => keep x o (fun q => by rw [q, nT] at hx; cases hx) (st x o hx), nw, fr.of_keeps fun x o hx nf => ⟨o, keep x o (fun q => by subst q; rw [hT] at hx; cases hx; exact nf ts hTd) hx, rfl⟩, oe, vs, keep e oe hTe.symm he, hc, hdd, hd, T, _, _, h1, nT, hTe,
    Heap.get?_update_self _ hT (Obj.isFreed_of_fields (Obj.data_mapFields hTd _)), Obj.data_mapFields hTd _, by simp [hz]⟩ (upTo_other hT hTd keep))
theorem leave_step {fl : Option Value} {Q : Unit → Shared → Prop} (hfr : A.frames = some (env :: outer)) (hf : env.frame = some L) (X : ExAt B (env :: outer) e c dd fl s.heap) (hfl : fl = none ∨ fl = some .none)
    (hQ : ∀ h', ExAt B outer e c dd (some .none) h' → s.heap.UpToSlots h' → Q () { s with heap := h' }) : wpAny M A (leaving env (.ref e)) Q E s := by
  unfold leaving
  refine wpAny_bind (note_step hfr hf X hfl fun h₁ X₁ U₁ => land_step (s := { s with heap := h₁ }) X₁ fun h₂ X₂ U₂ => ?_)
  obtain ⟨st, nw, ⟨_, _, fr⟩, r⟩ := X₂
  exact hQ h₂ ⟨st, nw, fr, r⟩ (U₁.trans U₂)
end

section
variable {M : Model} {E₁ E₂ : Value → Shared → Prop} {s : Shared} {base h₀ g₁ g₂ : Heap} {L L₁ L₂ e : Addr} {m m₁ m₂ : Str → Option Value} {oe : Obj} {vs : Array Value} {rest : List (Addr × Obj)}
theorem own_home {A₁ : Around} {law : Env} {n1 n2 : Str} {sc1 sc2 : Scope} {a1 a2 : Addr} {c1 c2 : Value} {Q : Unit → Shared → Prop} (hlf : law.frame = some L) (K₁ : Below A₁ base (envOf n1 sc1 L₁ a1 c1 :: [law]) g₂) (k2 : sc2.kind = .function)
    (F₂ : Fr g₂ L₂ s.heap m₂) (F₁ : Fr g₁ L₁ g₂ m₁) (F₀ : Fr h₀ L g₁ m) (N : News g₂ L₂ s.heap ((e, oe) :: rest)) (hne : ∀ q ∈ rest, q.1 ≠ e) (hd : oe.data = .fields vs) (h1 : vs[1]? = some .none)
    (k : ∀ h' B, ExAt B [law] e oe.cls oe.dict (some .none) h' → h₀.get? e = none → (∀ h'', B.StaysIn h'' → h'.UpToSlots h'' → Fr h₀ L h'' m ∧ News h₀ L h'' rest) → Q () { s with heap := h' }) :
    wpAny M (A₁.deeper (envOf n2 sc2 L₂ a2 c2)) (leaving (envOf n2 sc2 L₂ a2 c2) (.ref e)) (fun _ s₁ => wpAny M A₁ (leaving (envOf n1 sc1 L₁ a1 c1) (.ref e)) (fun _ s₂ => Q () s₂) E₁ s₁) E₂ s := by
  have K₂ := pushX (env := envOf n2 sc2 L₂ a2 c2) K₁ F₂ rfl k2
  have hN := N _ (.head _)
  have e1 : g₁.get? e = none := kts_none F₁.keep hN.2.2
  have e0 : h₀.get? e = none := kts_none F₀.keep e1
  obtain ⟨oL, es, ep, hoL, rL⟩ := F₀.ns
  have hoL2 := F₁.keep _ _ hoL
  obtain ⟨oL1, es1, ep1, hoL1, _⟩ := F₁.ns
  have X : ExAt (hideAll s.heap (e :: [L₂, L₁, L])) (envOf n2 sc2 L₂ a2 c2 :: envOf n1 sc1 L₁ a1 c1 :: [law]) e oe.cls oe.dict none s.heap :=
    ⟨fun b o q => of_hideAll _ q, hideAll_none _ (.head _), funFrames_hide K₂.frames (fun env he b hb => by
      rcases List.mem_cons.mp he with rfl | he
      · cases hb; simp
      · rcases List.mem_cons.mp he with rfl | he
        · cases hb; simp
        · rcases List.mem_cons.mp he with rfl | he
          · rw [hlf] at hb; cases hb; simp
          · cases he), oe, vs, hN.1, rfl, rfl, hd, h1⟩
  refine leave_step K₂.stack rfl X (.inl rfl) fun h' X' U' => leave_step (s := { s with heap := h' }) K₁.stack rfl X' (.inr rfl) fun h'' X'' U'' => k h'' _ X'' e0 fun h3 st U3 => ?_
  have U := U'.trans (U''.trans U3)
  refine ⟨⟨U.ns ⟨oL, es, ep, F₂.keep _ _ hoL2, rL⟩, fun b o hb => st b o (hideAll_get _ (F₂.keep _ _ (F₁.keep _ _ (F₀.keep _ _ hb))) fun hm => ?_), F₀.above⟩, fun q hq => ?_⟩
  · rcases List.mem_cons.mp hm with rfl | hm
    · rw [e0] at hb; cases hb
    · rcases List.mem_cons.mp hm with rfl | hm
      · have := F₁.keep _ _ (F₀.keep _ _ hb); rw [kts_self F₂] at this; cases this
      · rcases List.mem_cons.mp hm with rfl | hm
        · have := F₀.keep _ _ hb; rw [kts_self F₁] at this; cases this
        · rcases List.mem_cons.mp hm with rfl | hm
          · rw [kts_self F₀] at hb; cases hb
          · cases hm
  · have hq' := N q (.tail _ hq)
    have nL : q.1 ≠ L := fun z => by have := hq'.2.2; rw [z, hoL2] at this; cases this
    refine ⟨st _ _ (hideAll_get _ hq'.1 fun hm => ?_), nL, kts_none F₀.keep (kts_none F₁.keep hq'.2.2)⟩
    rcases List.mem_cons.mp hm with z | hm
    · exact hne q hq z
    · rcases List.mem_cons.mp hm with z | hm
      · exact hq'.2.1 z
      · rcases List.mem_cons.mp hm with z | hm
        · have := hq'.2.2; rw [z, hoL1] at this; cases this
        · rcases List.mem_cons.mp hm with z | hm
          · exact nL z
          · cases hm
end
section
variable {prog : Program} {w : World} {A : Around} {E : Value → Shared → Prop} {s : Shared} {h₀ B : Heap} {L e a C : Addr} {m : Str → Option Value} {cn : Str} {cs : Scope} {ccd : Value} {cl : List (Str × Addr)} {dd : Option Addr} {rest : List (Addr × Obj)}
  {K : Frag} {p : Program} {loose : List Str} {mg mb : Str → Option Value} {x n : Str} {np pos : Pos} {b₀ : Stmt} {suite : List Stmt} {hs : List ExceptHandler} {Q : Flow → Shared → Prop}
theorem own_caught (hA : A.frames = some [envX cn cs L a ccd cl]) (X : ExAt B [envX cn cs L a ccd cl] e (.ref C) dd (some .none) s.heap) (XK : K.In h₀) (P : TopRead p loose mg mb h₀)
    (ex : nsIn K mainGlobals x = some (some (.ref C))) (q : ktsIn K C "BaseException" = true) (e0 : h₀.get? e = none) (back : ∀ h', B.StaysIn h' → s.heap.UpToSlots h' → Fr h₀ L h' m ∧ News h₀ L h' rest)
    (k : ∀ h' tk oe vs E', Fr h₀ L h' (fun y => if y = n then some (.ref e) else m y) → News h₀ L h' ((e, oe) :: rest) → oe.cls = .ref C → oe.dict = dd → oe.data = .fields vs →
      wpAny (model prog w) (A.mark (some (.ref e))) (execs (b₀ :: suite) (envX cn cs L a ccd cl))
        (fun f s₄ => wpAny (model prog w) A (do bindName (envX cn cs L a ccd cl) n .none; unbindBehindTheSuite (envX cn cs L a ccd cl) n pos) (fun _ s₅ => Q f s₅) E s₄) E' { s with heap := h', toks := tk })
    (hk : cs.kind = .function := by rfl) (hlo : (envX cn cs L a ccd cl).kindOf n = some .local := by rfl) (hx : (envX cn cs L a ccd cl).kindOf x = some .globalImplicit := by rfl) (hd : (x == ("__debug__" : Str)) = false := by decide) :
    wpAny (model prog w) A (noteFrame (.ref e) (envX cn cs L a ccd cl)) (fun _ s₂ => wpAny (model prog w) A (setFlight (.ref e) none) (fun _ s₃ =>
      wpAny (model prog w) A (handleBy (.ref e) (envX cn cs L a ccd cl) (.ExceptHandler (some (.Name x np)) (some n) (b₀ :: suite) pos :: hs)) Q E s₃) E s₂) E s := by
  refine note_step hA rfl X (.inr rfl) fun h₄ X₄ U₄ => land_step (s := { s with heap := h₄ }) X₄ fun h₅ X₅ U₅ => ?_
  obtain ⟨F₅, N₅⟩ := back h₅ X₅.stays (U₄.trans U₅)
  obtain ⟨nm, q', Nn, bs, bm, hdct, sn, sub, ab, col, dd', k0, k1, k2, k3, k5, newId, hC, hbase, _⟩ := kts_cls XK q
  have hC₅ := F₅.keep _ _ hC
  obtain ⟨oe, vs, he, hc, _⟩ := X₅.there
  refine wpAny_handleBy_cons (codeAny_handlers_test (nameX_K F₅ XK P ex ?_ hk hx hd)) (by intro q; cases q)
  refine wpAny_excMatches_sub_self hC₅ he hc hbase (codeAny_handlers_suite_as ?_)
  refine land_step (s := { s with heap := h₅ }) X₅ fun h₆ X₆ U₆ => ?_
  obtain ⟨F₆, N₆⟩ := back h₆ X₆.stays ((U₄.trans U₅).trans U₆)
  obtain ⟨oe', vs', he', hc', hdd', hd', _⟩ := X₆.there
  have neL : e ≠ L := fun z => by
    obtain ⟨o, es, ep, ho, hod, _⟩ := F₆.ns
    rw [← z, he'] at ho
    cases ho
    rw [hd'] at hod
    cases hod
  have N₇ : News h₀ L h₆ ((e, oe') :: rest) := fun z hz => by
    rcases List.mem_cons.mp hz with rfl | hz
    · exact ⟨he', neL, e0⟩
    · exact N₆ z hz
  refine storeX_L (s := { s with heap := h₆ }) F₆ N₇ (fun h₇ F₇ N₇' => ?_) hk hlo
  exact k h₇ _ oe' vs' _ F₇ N₇' hc' hdd' hd'
end

local macro_rules | `(tactic| k_all) => `(tactic| assumption)
local macro_rules | `(tactic| k_all) => `(tactic| exact OwnOff.ne (by assumption) (by k_memK))
local macro_rules | `(tactic| walk_at "newTuple") => `(tactic| (k_here; k_dflt (refine' kup_newTuple ?F ?N ?_ ?z; (case F => k_asm); (case N => k_asm); (case z => kmk_size)); intro D' h' F' N' l1; (have l0 := l1); (try k_lt l1); (try k_sweep)))
local macro_rules | `(tactic| walk_at "callWith ref") => `(tactic| (k_here; (with_reducible show wpAny _ _ (callWith _ (Value.ref _) [] (backTo _ (starEach [] _)) []) _ _ _); (rename CallsB _ _ _ _ _ _ _ _ _ => hCb); k_dflt (refine' hCb _ _ _ _ _ _ _ _ _ _ _ _ ?k1 ?k2 ?k3 ?k4 ?k5 ?k6 ?k7 ?k8 ?k9 ?kN ?_ _ _ _; (case k1 => k_asm); (case k2 => k_asm); (case k3 => k_asm); (case k4 => k_asm); (case k5 => k_asm); (case k6 => exact rfl); (case k7 => exact rfl); (case k8 => first | exact rfl | assumption); (case k9 => k_room); (case kN => walk_at "c_need")); intro h9 tk9 F9 N9; (try dsimp only); (try k_sweep)))

local macro_rules | `(tactic| k_ne) => `(tactic| (refine neN ?_; (try dsimp only); first | assumption | exact Ne.symm (by assumption)))
local macro_rules | `(tactic| walk_at "call builtin:len") => `(tactic| ((with_reducible show wpAny _ _ (call (Value.builtin "len") [Value.bytes _ _]) _ _ _); refine len_bytes (Nat.le_trans (by assumption) (by decide : 100 ≤ 1099511627776)) ?_))

local macro_rules | `(tactic| walk_at "c_need") => `(tactic| (intro q hq; (repeat (refine List.Mem.tail _ ?_)); exact (by assumption : ∀ q ∈ _, q ∈ _) q hq))
local macro_rules | `(tactic| walk_at "c_sub") => `(tactic| first | (refine' List.forall_mem_cons.mpr ⟨?a, ?b⟩; (case a => k_mem); (case b => walk_at "c_sub")) | (intro q hq; (repeat (first | exact hq | apply List.Mem.tail))))
local macro_rules | `(tactic| walk_at "c_over") => `(tactic| (refine Over.mk ?_ ?_; (simp only [List.forall_mem_cons, List.not_mem_nil, false_implies, implies_true, and_true]; omega); (intro q hq; exact allLt_to (by simp only [*] : AllLt _ _) q hq)))
local macro_rules | `(tactic| walk_at "c_led") => `(tactic| first | k_asm | (refine cb_drop (by assumption) ?_; walk_at "c_sub"))
local macro_rules | `(tactic| walk_at "getMethod ref") => `(tactic| (k_here; (with_reducible show wpAny _ _ (getMethod (Value.ref _) (PySem.Str.ofString "is_client") _) _ _ _); k_dflt (refine' kmu_own ?k1 ?k2 ?k3 ?k4 ?k5 ?_; (case k1 => k_asm); (case k2 => k_asm); (case k3 => k_inst); (case k4 => k_is); (case k5 => k_is); k_whole)))
local macro_rules | `(tactic| walk_at "c_need") => `(tactic| walk_at "c_sub")
local macro_rules | `(tactic| walk_at "c_sub") => `(tactic| exact List.forall_mem_nil _)

theorem take_cut : ∀ {w : World} {dp un : Nat} {gd : Option (List Code)} {cn : Str} {cs : Scope} {a : Addr} {ccd : Value} {cl : List (Str × Addr)} {outer : List Env} {A₀ : Around} {base h₀ : Heap} {L : Addr} {m : Str → Option Value} {s : Shared} {Q E : Value → Shared → Prop}
    {p : Program} {loose : List Str} {mean : ExcName → Option Value} {mg mb : Str → Option Value} {box l : Addr} {vs : List Value} {ns : List Int} {k many : Int} {t u : Tok} {n n2 : Nat} {rest : List (Addr × Obj)}
    (_ : Below A₀ base outer h₀) (_ : Fr h₀ L s.heap m) (_ : (heapK w.params).In h₀) (_ : News h₀ L s.heap ((box, listOf #[.ref l, .int k t] n) :: (l, listOf vs.toArray n2) :: rest)) (_ : Top p loose mean mg mb h₀) (_ : cs.kind = .function)
    (_ : dp + 1 < recursionLimit) (_ : un + 8 < cLine) (_ : IntsAre vs ns) (_ : ns.length ≤ 16) (_ : 0 ≤ k) (_ : k < 100) (_ : 0 < many) (_ : many < 1000) (_ : l ≠ box) (_ : ∀ p ∈ rest, p.1 ≠ box)
    (hret : ∀ d td t' h' tk', 0 ≤ d → d < many → Fr h₀ L h' m → News h₀ L h' ((box, listOf #[.ref l, .int (k + 1) t'] n) :: (l, listOf vs.toArray n2) :: rest) → Q (.int d td) { s with heap := h', toks := tk' }),
    wpAny (model PySem.Challenge.rw_pf0269_01.row.prog w) (ktrTop dp un gd cn cs L a ccd cl outer) (call (.ref 319) [.ref box, .int many u]) Q E s := by
  k_fill
  intros
  rename_i hret
  refine wpAny_call ?_
  k_dflt cell_enter
  k_steps
  all_goals exact hret _ _ _ _ _ (fm_lo (by assumption)) (fm_hi (by assumption)) (by k_asm) (by k_asm)

/-- the box's entry turned, wherever it stands in the ledger -/
theorem take_at {w : World} {dp un : Nat} {gd : Option (List Code)} {cn : Str} {cs : Scope} {a : Addr} {ccd : Value} {cl : List (Str × Addr)} {outer : List Env} {A₀ : Around} {base h₀ : Heap} {L : Addr} {m : Str → Option Value} {s : Shared} {Q E : Value → Shared → Prop}
    {p : Program} {loose : List Str} {mean : ExcName → Option Value} {mg mb : Str → Option Value} {box l : Addr} {vs : List Value} {ns : List Int} {k many : Int} {t u : Tok} {n n2 : Nat} {news : List (Addr × Obj)} {g : Obj → List (Addr × Obj)}
    (B : Below A₀ base outer h₀) (F : Fr h₀ L s.heap m) (X : (heapK w.params).In h₀) (N : News h₀ L s.heap news) (T : Top p loose mean mg mb h₀) (hk : cs.kind = .function)
    (hd : dp + 1 < recursionLimit) (hu : un + 8 < cLine) (hm : (l, listOf vs.toArray n2) ∈ news) (hi : IntsAre vs ns) (hlen : ns.length ≤ 16)
    (hup : UpdF box (listOf #[.ref l, .int k t] n) news g) (h0 : 0 ≤ k) (h1 : k < 100) (h2 : 0 < many) (h3 : many < 1000) (hne : l ≠ box)
    (hret : ∀ d td t' h' tk', 0 ≤ d → d < many → Fr h₀ L h' m → News h₀ L h' (g (listOf #[.ref l, .int (k + 1) t'] n)) → Q (.int d td) { s with heap := h', toks := tk' }) :
    wpAny (model PySem.Challenge.rw_pf0269_01.row.prog w) (ktrTop dp un gd cn cs L a ccd cl outer) (call (.ref 319) [.ref box, .int many u]) Q E s := by
  obtain ⟨pre, post, rfl, hg, hpre, hpost⟩ := hup.split
  have hml : (l, listOf vs.toArray n2) ∈ pre ++ post := by
    rcases List.mem_append.mp hm with h | h
    · exact List.mem_append.mpr (.inl h)
    · rcases List.mem_cons.mp h with h | h
      · exact absurd (Prod.mk.inj h).1 hne
      · exact List.mem_append.mpr (.inr h)
  refine take_cut (t := t) (n := n) (rest := pre ++ post) (n2 := n2) B F X (cb_drop N ?_) T hk hd hu hi hlen h0 h1 h2 h3 hne ?_ ?_
  · intro q hq
    rcases List.mem_cons.mp hq with rfl | hq
    · exact List.mem_append.mpr (.inr (.head _))
    · rcases List.mem_cons.mp hq with rfl | hq
      · exact hm
      · rcases List.mem_append.mp hq with h | h
        · exact List.mem_append.mpr (.inl h)
        · exact List.mem_append.mpr (.inr (.tail _ h))
  · intro q hq
    rcases List.mem_append.mp hq with h | h
    · exact hpre q h
    · exact hpost q h
  · intro d td t' h' tk' hd0 hd1 F' N'
    refine hret d td t' h' tk' hd0 hd1 F' ?_
    rw [hg]
    refine cb_drop N' ?_
    intro q hq
    rcases List.mem_append.mp hq with h | h
    · exact .tail _ (.tail _ (List.mem_append.mpr (.inl h)))
    · rcases List.mem_cons.mp h with rfl | h
      · exact .head _
      · exact .tail _ (.tail _ (List.mem_append.mpr (.inr h)))

section
local macro_rules | `(tactic| k_all) => `(tactic| exact allLt_ne (by assumption))
local macro_rules | `(tactic| walk_at "c_make") => `(tactic| (k_here; k_dflt (refine' call_cls ?k1 ?k2 ?k3 ?k4 ?k5 ?k6 ?_; (case k1 => k_asm); (case k2 => k_asm); (case k3 => k_asm); (case k4 => k_is); (case k5 => k_is); (case k6 => k_is); k_whole; intro x' d' h' F' N' l1 l2; (replace l1 := allLt_of l1); (replace l2 := ltN l2); (have l3 := allLt_lt l1 l2); cell_enter)))

section
variable {w : World} {cn : Str} {cs : Scope} {a : Addr} {ccd : Value} {cl : List (Str × Addr)} {A₀ : Around} {base h₀ : Heap} {L : Addr} {m : Str → Option Value} {s : Shared} {Q E : Value → Shared → Prop} {p : Program} {loose : List Str} {mean : ExcName → Option Value} {mg mb : Str → Option Value} {news : List (Addr × Obj)}
theorem raw_cut {kd : Str} {tkd u1 u2 u3 : Tok} (X : (heapK w.params).In h₀) (B : Below A₀ base [] h₀) (F : Fr h₀ L s.heap m) (N : News h₀ L s.heap news) (T : Top p loose mean mg mb h₀) (hk : cs.kind = .function)
    (hret : ∀ rw rwd trw vr tsc h' tk', AllLt rwd news → @LT.lt Nat _ rwd rw → AllLt rw news → Fr h₀ L h' m → News h₀ L h' ((rw, instObj 161 rwd) :: (rwd, dictOf (rwEs w trw vr kd tkd (.bytes #[] tsc)) 11) :: news) → Q (.ref rw) { s with heap := h', toks := tk' }) :
    wpAny (model PySem.Challenge.rw_pf0269_01.row.prog w) (atLaw cn cs L a ccd cl) (call (.ref 161) [.str kd tkd, .int 192 u1, .bytes #[111, 119, 110] u2, .int 0 u3]) Q E s := by
  revert X
  k_fill
  intro X
  walk_at "c_make"
  k_steps
  refine' hret _ _ (nth [_, _, _, _, _, _, _, _, _, _, _] 0) (nth [.none, _, _, _, .none, _, _, _, _, _, _] .none) _ _ _ ?l1 ?l2 ?l3 ?F ?N
  case F => k_asm
  case' N =>
    refine' cb_drop ?n1 (List.forall_mem_cons.mpr ⟨?a1, List.forall_mem_cons.mpr ⟨?a2, ?a3⟩⟩)
    case n1 => assumption
    case a1 => k_mem
    case a2 => k_mem
  case N => walk_at "c_sub"
  case l1 => assumption
  case l2 => assumption
  case l3 => assumption
end

section
variable {w : World} {cn : Str} {cs : Scope} {a : Addr} {ccd : Value} {cl : List (Str × Addr)} {A₀ : Around} {base h₀ : Heap} {L : Addr} {m : Str → Option Value} {s : Shared} {Q E : Value → Shared → Prop} {p : Program} {loose : List Str} {mean : ExcName → Option Value} {mg mb : Str → Option Value} {news : List (Addr × Obj)}
theorem space_cut {nm : Str} {u : Tok} (X : (heapK w.params).In h₀) (B : Below A₀ base [] h₀) (F : Fr h₀ L s.heap m) (N : News h₀ L s.heap news) (T : Top p loose mean mg mb h₀) (hk : cs.kind = .function)
    (hret : ∀ c cd t v h' tk', AllLt cd news → @LT.lt Nat _ cd c → AllLt c news → Fr h₀ L h' m → News h₀ L h' ((c, instObj 308 cd) :: (cd, dictOf (spEs w t v) 17) :: news) → Q (.ref c) { s with heap := h', toks := tk' }) :
    wpAny (model PySem.Challenge.rw_pf0269_01.row.prog w) (atLaw cn cs L a ccd cl) (call (.ref 308) [.str nm u]) Q E s := by
  revert X
  k_fill
  intro X
  walk_at "c_make"
  k_steps
  refine' hret _ _ (nth [_, _, _, _, _, _, _, _, _, _, _, _, _, _, _, _, _] 0) (nth [_, _, _, _, _, _, _, _, _, _, _, _, _, _, _, _, _] .none) _ _ ?l1 ?l2 ?l3 ?F ?N
  case F => k_asm
  case' N =>
    refine' cb_drop ?n1 (List.forall_mem_cons.mpr ⟨?a1, List.forall_mem_cons.mpr ⟨?a2, ?a3⟩⟩)
    case n1 => assumption
    case a1 => k_mem
    case a2 => k_mem
  case N => walk_at "c_sub"
  case l1 => assumption
  case l2 => assumption
  case l3 => assumption
end

local macro_rules | `(tactic| walk_at "eval Dict") => `(tactic| (k_here; k_dflt (refine' kdn_int ?q ?F ?N ?b ?a ?l ?e ?n ?_; (case q => rfl); (case F => k_asm); (case N => first | k_asm | exact News.nil); (case b => exact Top.nolimit (by k_asm)); (case a => rfl); (case l => rfl); (case e => exact List.cons_ne_nil _ _); (case n => exact Nat.le_of_ble_eq_true rfl)); intro d' h' o' F' N' l1 lo' hd'; (try k_lt l1)))
section
variable {w : World} {cn : Str} {cs : Scope} {a : Addr} {ccd : Value} {cl : List (Str × Addr)} {A₀ : Around} {base h₀ : Heap} {L : Addr} {m : Str → Option Value} {s : Shared} {Q E : Value → Shared → Prop} {p : Program} {loose : List Str} {mean : ExcName → Option Value} {mg mb : Str → Option Value} {news : List (Addr × Obj)}
theorem remote_cut {ch : Array UInt8} {tc u : Tok} (hch : ch.size ≤ 100) {emp : Bool} (hc0 : ((ch.size : Int) == 0) = emp) (X : (heapK w.params).In h₀) (B : Below A₀ base [] h₀) (F : Fr h₀ L s.heap m) (N : News h₀ L s.heap news) (T : Top p loose mean mg mb h₀) (hk : cs.kind = .function)
    (hret : ∀ rm rd kn us td tr t1 t2 t tu uu n okn otd h' tk', AllLt rd news → @LT.lt Nat _ rd rm → @LT.lt Nat _ rm kn → @LT.lt Nat _ kn t1 → @LT.lt Nat _ t1 us → @LT.lt Nat _ us td → @LT.lt Nat _ td t2 →
      okn.IsDictOf (intKind PySem.Challenge.rw_pf0269_01.row.prog w) [(0, .ref t1)] → otd.IsDictOf (intKind PySem.Challenge.rw_pf0269_01.row.prog w) [(0, .ref t2)] → Fr h₀ L h' m →
      News h₀ L h' ((rm, instObj 140 rd) :: (rd, dictOf (rmEs w t tu kn us td tr emp) 8) :: (kn, okn) :: (t1, tup2 (.bytes ch tc) .none) :: (us, listOf #[.int 0 uu] n) :: (td, otd) :: (t2, tup2 (.bytes ch tc) .none) :: news) → Q (.ref rm) { s with heap := h', toks := tk' }) :
    wpAny (model PySem.Challenge.rw_pf0269_01.row.prog w) (atLaw cn cs L a ccd cl) (call (.ref 140) [.bytes ch tc, .none, .int 4 u]) Q E s := by
  subst hc0
  revert X
  k_fill
  intro X
  walk_at "c_make"
  k_steps
  refine' hret _ _ _ _ _ _ _ _ (nth [_, _, _, _, _, _, _, _] 0) (nth [_, 0, _, 0, _] 0) _ _ _ _ _ _ ?l1 ?l2 ?l3 ?l4 ?l5 ?l6 ?l7 ?d1 ?d2 ?F ?N
  case F => k_asm
  case' N =>
    refine' cb_drop ?n1 (List.forall_mem_cons.mpr ⟨?a1, List.forall_mem_cons.mpr ⟨?a2, List.forall_mem_cons.mpr ⟨?a3, ?a4⟩⟩⟩)
    case n1 => assumption
    case a1 => k_mem
    case a2 => k_mem
    case a3 => k_mem
  case d1 => assumption
  case N => walk_at "c_sub"
  case l1 => assumption
  case d2 => assumption
  all_goals omega
end

end
local macro_rules | `(tactic| walk_at "c_eq") => `(tactic| first | exact PySem.SeqAt.EqAt.same _ | exact eqAt_bytes' _ _ _ _ (beq_self_eq_true _) | exact eqAt_bytes' _ _ _ _ (Eq.refl false) | exact eqAt_bytes' _ _ _ _ (Eq.refl true))
local macro_rules | `(tactic| walk_at "compareOp NotEq ref ref") => `(tactic| (k_here; (with_reducible show wpAny _ _ (compareOp CmpOp.NotEq (Value.ref _) (Value.ref _)) _ _ _); k_dflt (refine' ne_two ?N ?a ?b ?u ?x ?y ?_; (case N => k_asm); (case a => k_mem); (case b => k_mem); (case u => ke_room); (case x => walk_at "c_eq"); (case y => walk_at "c_eq")); (try simp only [Bool.and_true, Bool.true_and, Bool.and_self, Bool.not_true, Bool.not_false, Bool.and_false, Bool.false_and])))
local macro_rules | `(tactic| walk_at "compareOp Eq ref ref") => `(tactic| (k_here; (with_reducible show wpAny _ _ (compareOp CmpOp.Eq (Value.ref _) (Value.ref _)) _ _ _); k_dflt (refine' eq_two ?N ?a ?b ?u ?x ?y ?_; (case N => k_asm); (case a => k_mem); (case b => k_mem); (case u => ke_room); (case x => walk_at "c_eq"); (case y => walk_at "c_eq")); (try simp only [Bool.and_true, Bool.true_and, Bool.and_self, Bool.not_true, Bool.not_false, Bool.and_false, Bool.false_and])))
local macro_rules | `(tactic| walk_at "compareOp NotEq bytes bytes") => `(tactic| (k_here; refine ne_bytes_same ?_))
local macro_rules | `(tactic| walk_at "compareOp Eq bytes bytes") => `(tactic| (k_here; (first | refine eq_bytes_known (by assumption) ?_ | refine eq_bytes_known (Eq.refl false) ?_ | refine eq_bytes_known (Eq.refl true) ?_ | refine eq_bytes_known (beq_self_eq_true _) ?_)))

local macro_rules | `(tactic| walk_at "pyIter ref") => `(tactic| (k_here; (rename Fr _ _ _ _ => lF'); (rename News _ _ _ _ => lN'); (with_unfolding_all refine' keys_once (by rfl) lF' lN' ?m ?d ?lo ?_); (case m => k_mem); (case d => k_asm); (case lo => k_asm); clear lF' lN'; intro I9 oI9 t9 h9 tk9 l1 F9 N9; (try k_lt l1); (try dsimp only)))
local macro_rules | `(tactic| walk_at "TurnPost") => `(tactic| (k_here; dsimp only [TurnPost]; (refine' ⟨_, _, _, _, rfl, ?F, ?N, ?e, ?m, ?_⟩; (case F => k_asm); (case N => k_asm); (case e => k_all); (case m => k_mem)); intro h9 tk9 F9 N9; (try dsimp only)))

local macro_rules | `(tactic| walk_at "call builtin:sorted") => `(tactic| (k_here; (with_reducible show wpAny _ _ (call (Value.builtin "sorted") [Value.ref _]) _ _ _); k_dflt (first
  | (refine' sortedI [0] ?e ?h ?F ?N ?m ?d ?l ?n ?_; (case F => k_asm); (case N => k_asm); (case m => k_mem); (case d => k_asm); (case e => exact rfl); (case h => exact rfl); (case l => k_asm); (case n => exact Nat.le_of_ble_eq_true rfl))
  | (refine' sortedI [0, 1] ?e ?h ?F ?N ?m ?d ?l ?n ?_; (case F => k_asm); (case N => k_asm); (case m => k_mem); (case d => k_asm); (case e => exact rfl); (case h => exact rfl); (case l => k_asm); (case n => exact Nat.le_of_ble_eq_true rfl))); intro D' h' tk'; kdl_open))
local macro_rules | `(tactic| walk_at "call builtin:len") => `(tactic| (k_here; (with_reducible show wpAny _ _ (call (Value.builtin "len") [Value.ref _]) _ _ _); k_dflt (refine len_two (by k_asm) (by k_mem) (by k_asm) (by k_asm) (by rfl) ?_)))

local macro_rules | `(tactic| walk_at "compareOp Eq none bytes") => `(tactic| (k_here; refine cmp_none_bytes ?_))

section
variable {w : World} {cn : Str} {cs : Scope} {a : Addr} {ccd : Value} {cl : List (Str × Addr)} {A₀ : Around} {base h₀ : Heap} {L : Addr} {m : Str → Option Value} {s : Shared} {Q E : Value → Shared → Prop} {p : Program} {loose : List Str} {mean : ExcName → Option Value} {mg mb : Str → Option Value}
  {rm rd kn us td tr t1 t2 : Addr} {okn otd : Obj} {trm tu : Nat → Tok} {y tok : Array UInt8} {tk2 u1 u2 u3 u4 : Tok} {c cd : Addr} {ocd ous : Obj}
theorem onnew_cut (X : (heapK w.params).In h₀) (B : Below A₀ base [] h₀) (F : Fr h₀ L s.heap m)
    (N : News h₀ L s.heap ((rm, instObj 140 rd) :: (rd, dictOf (rmEs w trm tu kn us td tr false) 8) :: (kn, okn) :: (td, otd) :: (t2, tup2 (.bytes y tk2) .none) :: [(c, instObj 308 cd), (cd, ocd), (us, ous)]))
    (T : Top p loose mean mg mb h₀) (hk : cs.kind = .function) (dk : okn.IsDictOf (intKind PySem.Challenge.rw_pf0269_01.row.prog w) [(0, .ref t1)]) (dt : otd.IsDictOf (intKind PySem.Challenge.rw_pf0269_01.row.prog w) [(0, .ref t2)]) (lok : (kn == sysModules) = false) (lot : (td == sysModules) = false)
    (hy2 : (y.toList == (#[105, 115, 115, 117, 101, 100] : Array UInt8).toList) = false) 
    (o1 : @LT.lt Nat _ rd rm) (o2 : @LT.lt Nat _ rm kn) (o3 : @LT.lt Nat _ kn us) (o5 : @LT.lt Nat _ us td) (o6 : @LT.lt Nat _ c rd) (o7 : @LT.lt Nat _ cd rd) (o4 : @LT.lt Nat _ td t2)
    (hret : ∀ okn' t3 uk tu' h' tk', okn'.IsDictOf (intKind PySem.Challenge.rw_pf0269_01.row.prog w) [(0, .ref t1), (1, .ref t3)] → @LT.lt Nat _ t2 t3 → Fr h₀ L h' m →
      News h₀ L h' ((rm, instObj 140 rd) :: (rd, dictOf (rmEs w trm tu' kn us td tr false) 8) :: (kn, okn') :: (t3, tup2 (.bytes #[105, 115, 115, 117, 101, 100] uk) (.bytes tok u4)) :: [(c, instObj 308 cd), (cd, ocd), (us, ous)]) → Q .none { s with heap := h', toks := tk' }) :
    wpAny (model PySem.Challenge.rw_pf0269_01.row.prog w) (atLaw cn cs L a ccd cl) (call (.ref 83) [.ref rm, .int 1 u1, .int 0 u2, .bytes #[105, 115, 115, 117, 101, 100] u3, .bytes tok u4]) Q E s := by
  revert X
  k_fill
  intro X
  refine wpAny_call ?_
  k_dflt cell_enter
  k_steps
  refine' hret _ _ _ (nth [tu 0, 0, tu 2, 0, _] 0) _ _ ?d ?l ?F ?N
  case F => k_asm
  case' N =>
    refine' cb_drop ?n1 (List.forall_mem_cons.mpr ⟨?a1, List.forall_mem_cons.mpr ⟨?a2, List.forall_mem_cons.mpr ⟨?a3, ?a4⟩⟩⟩)
    case n1 => assumption
    case a1 => k_mem
    case a2 => k_mem
    case a3 => k_mem
  case d => assumption
  case N => walk_at "c_sub"
  case l => omega
end

local macro_rules | `(tactic| walk_at "c_enterC") => `(tactic| (refine' code_defC ?k1 ?k2 ?k3 ?k4 ?k5 ?kA ?kF ?kK ?k6 ?k7 ?k8 ?k9 ?kB ?kD ?_ ?c2 ?c3 ?c4; (case kA => exact rfl); (case kF => exact rfl); (case kK => assumption); (case k1 => k_asm); (case k2 => k_asm); (case k3 => k_asm); (case k4 => k_asm); (case k5 => k_asm); (case k6 => k_is); (case k7 => k_is); (case k8 => k_room); (case k9 => exact BindsTo.of_eq rfl); (case kB => exact rfl); (case kD => decide +kernel); (case c2 => exact rfl); (case c3 => exact rfl); (case c4 => exact rfl); k_whole; intro g' L' h' tk' cells' FG' F' N' Y' B' X' T' l1; (try k_lt l1); k_cells Y'; (try simp only [List.cons_append, List.nil_append] at N'); (try dsimp only); (try k_lift B'); (try k_fold)))

section
local macro_rules | `(tactic| k_ne) => `(tactic| (refine neN ?_; (try dsimp only); rename ((_ ≠ _ ∧ _) ∧ _) => ho9; first | (first | ((iterate 8 (try (first | (with_reducible exact ho9) | apply And.right))); done) | (apply And.left; (iterate 8 (try (first | (with_reducible exact ho9) | apply And.right))); done) | (apply And.left; apply And.left; (iterate 8 (try (first | (with_reducible exact ho9) | apply And.right))); done) | (apply And.left; apply And.right; apply And.left; (iterate 8 (try (first | (with_reducible exact ho9) | apply And.right))); done) | (apply And.right; apply And.right; apply And.left; (iterate 8 (try (first | (with_reducible exact ho9) | apply And.right))); done)) | (refine Ne.symm ?_; (first | ((iterate 8 (try (first | (with_reducible exact ho9) | apply And.right))); done) | (apply And.left; (iterate 8 (try (first | (with_reducible exact ho9) | apply And.right))); done) | (apply And.left; apply And.left; (iterate 8 (try (first | (with_reducible exact ho9) | apply And.right))); done) | (apply And.left; apply And.right; apply And.left; (iterate 8 (try (first | (with_reducible exact ho9) | apply And.right))); done) | (apply And.right; apply And.right; apply And.left; (iterate 8 (try (first | (with_reducible exact ho9) | apply And.right))); done)))))
variable {w : World} {cn : Str} {cs : Scope} {a : Addr} {ccd : Value} {cl : List (Str × Addr)} {A₀ : Around} {base h₀ : Heap} {L : Addr} {m : Str → Option Value} {s : Shared} {Q E : Value → Shared → Prop} {p : Program} {loose : List Str} {mean : ExcName → Option Value} {mg mb : Str → Option Value}
  {rm rd kn us td tr tb : Addr} {okn otb : Obj} {trm tu : Nat → Tok} {emp : Bool} {uu : Tok} {nu : Nat} {x0 x1 : Value}
theorem fresh_cut (X : (heapK w.params).In h₀) (B : Below A₀ base [] h₀) (F : Fr h₀ L s.heap m)
    (N : News h₀ L s.heap [(rm, instObj 140 rd), (rd, dictOf (rmEs w trm tu kn us td tr emp) 8), (kn, okn), (us, listOf #[.int 0 uu] nu), (tb, otb)])
    (T : Top p loose mean mg mb h₀) (hk : cs.kind = .function) (dk : okn.IsDictOf (intKind PySem.Challenge.rw_pf0269_01.row.prog w) [(0, x0), (1, x1)]) (lok : (kn == sysModules) = false)
    (o1 : @LT.lt Nat _ rd rm) (o2 : @LT.lt Nat _ rm kn) (o3 : @LT.lt Nat _ kn us) (c1 : @LT.lt Nat _ tb (L + 1)) (o4 : @LT.lt Nat _ (L + 1) rd)
    (hret : ∀ t h' tk' n', Fr h₀ L h' m → News h₀ L h' n' → (tb, otb) ∈ n' → Q (.int 1 t) { s with heap := h', toks := tk' }) :
    wpAny (model PySem.Challenge.rw_pf0269_01.row.prog w) (atLaw cn cs L a ccd cl) (call (.ref 116) [.ref rm]) Q E s := by
  have o5 : @LT.lt Nat _ tb rd := by omega
  clear c1 o4
  revert X
  k_fill
  intro X
  refine wpAny_call ?_
  k_dflt (walk_at "c_enterC")
  k_steps
  exact hret _ _ _ _ (by k_asm) (by k_asm) (by k_mem)
end

local macro_rules | `(tactic| walk_at "call ref") => `(tactic| (k_here; (with_reducible show wpAny _ _ (call (Value.ref _) [Value.ref _, Value.int _ _]) _ _ _); k_dflt (refine' take_at ?k1 ?k2 ?k3 ?k4 ?k5 ?kK ?kd ?ku ?m1 ?m2 ?m3 ?m4 ?m5 ?m6 ?m7 ?m8 ?m9 ?_; (case k1 => k_asm); (case k2 => k_asm); (case k3 => k_asm); (case k4 => k_asm); (case k5 => k_asm); (case kK => first | exact rfl | assumption); (case kd => ktr_room); (case ku => ktr_units); (case m4 => k_updF); (case m1 => k_mem); (case m2 => assumption); (case m3 => omega); (case m5 => omega); (case m6 => omega); (case m7 => omega); (case m8 => omega); (case m9 => k_ne)); intro d9 td9 t9 h9 tk9 lo9 hi9 F9 N9; (try dsimp only); (try k_sweep)))

local macro_rules | `(tactic| walk_at "call ref") => `(tactic| (k_here; (with_reducible show wpAny _ _ (call (Value.ref 308) [Value.str _ _]) _ _ _); k_dflt (refine' space_cut ?k1 ?k2 ?k3 ?k4 ?k5 ?kK ?_; (case k1 => k_asm); (case k2 => k_asm); (case k3 => k_asm); (case k4 => k_asm); (case k5 => k_asm); (case kK => exact rfl)); intro c9 d9 t9 v9 h9 tk9 l1 l2 l3 F9 N9; (try simp only [AllLt, and_true] at l1); (try simp only [AllLt, and_true] at l3); (try dsimp only); (try k_sweep)))
local macro_rules | `(tactic| walk_at "call ref") => `(tactic| (k_here; (with_reducible show wpAny _ _ (call (Value.ref 140) [Value.bytes _ _, Value.none, Value.int _ _]) _ _ _); k_dflt (refine' remote_cut (by decide) (Eq.refl false) ?k1 ?k2 ?k3 ?k4 ?k5 ?kK ?_; (case k1 => k_asm); (case k2 => k_asm); (case k3 => k_asm); (case k4 => k_asm); (case k5 => k_asm); (case kK => exact rfl)); intro rm9 rd9 kn9 us9 td9 tr9 p9 q9 t9 tu9 uu9 n9 ok9 ot9 h9 tk9 l1 l2 l3 l4 l5 l6 l7 d1 d2 F9 N9; (try simp only [AllLt, and_true] at l1); (try dsimp only); (try k_sweep)))
local macro_rules | `(tactic| walk_at "call ref") => `(tactic| (k_here; (with_reducible show wpAny _ _ (call (Value.ref 161) [Value.str _ _, Value.int _ _, Value.bytes _ _, Value.int _ _]) _ _ _); k_dflt (refine' raw_cut ?k1 ?k2 ?k3 ?k4 ?k5 ?kK ?_; (case k1 => k_asm); (case k2 => k_asm); (case k3 => k_asm); (case k4 => k_asm); (case k5 => k_asm); (case kK => exact rfl)); intro c9 d9 t9 v9 sc9 h9 tk9 l1 l2 l3 F9 N9; (try simp only [AllLt, and_true] at l1); (try simp only [AllLt, and_true] at l3); (try dsimp only); (try k_sweep)))

local macro_rules | `(tactic| walk_at "subscriptTail") => `(tactic| (k_here; (with_reducible show wpAny _ _ (subscriptTail (PySem.Expr.List _ _) _ (Value.ref _) (Value.int _ _)) _ _ _); (rename News _ _ _ _ => N8); (first | k_dflt (refine' menu3s N8 (by assumption) (by assumption) ?_ ?k6) | k_dflt (refine' menu3b N8 (by assumption) (by assumption) ?_ ?k6)); (case k6 => with_unfolding_all rfl); clear N8; intro kd9 tk9 hkd9 N9; (try (have hz9 : kd9.size ≤ 100 := by (rcases hkd9 with h | h | h <;> rw [h] <;> decide)))))

section
variable {w : World} {fa : Addr} {A₀ : Around} {base h₀ : Heap} {L : Addr} {mr u : Str → Option Value} {s : Shared} {Q : Flow → Shared → Prop} {E : Value → Shared → Prop} {p : Program} {loose : List Str} {mean : ExcName → Option Value} {mg mb : Str → Option Value}
  {tb l box cd c co fl rd rm kn us td I t1 t2 tr : Addr} {oI flo oco oce otb okn otd : Obj} {tc trm tu : Nat → Tok} {vc : Nat → Value} {vs : List Value} {ns : List Int} {k kk : Int} {t tt uu tk1 tk2 tfp tdv : Tok} {nu nb nl : Nat} {y : Array UInt8} {emp : Bool}
theorem turn_server (X : (heapK w.params).In h₀) (B : Below A₀ base [] h₀) (F : Fr h₀ L s.heap (fun z => if z = PySem.Str.ofString "turn" then some (.int kk tt) else mapT u .none c box mr z))
    (N : News h₀ L s.heap ((I, oI) :: [(c, instObj 308 cd), (cd, dictOf (cnEs w tc vc fl rm false (.bytes #[98, 101, 102, 111, 114, 101] tfp)) 21), (rm, instObj 140 rd), (rd, dictOf (rmEs w trm tu kn us td tr false) 8), (kn, okn), (t1, tup2 (.bytes #[99, 104, 111, 115, 101, 110] tk1) .none), (td, otd), (t2, tup2 (.bytes #[99, 104, 111, 115, 101, 110] tk2) .none), (us, listOf #[.int 0 uu] nu), (box, listOf #[.ref l, .int k t] nb), (l, listOf vs.toArray nl), (fl, flo), (co, oco), ((L + 1 : Nat), oce), (tb, otb)]))
    (T : Top p loose mean mg mb h₀) (hi : IntsAre vs ns) (hlen : ns.length ≤ 16) (h0 : 0 ≤ k) (h1 : k < 90)
    (hC : Chain tb (L + 1) l box cd c co fl rd rm kn us td I) (hP : Pairs kn us td t1 t2 I) (dk : okn.IsDictOf (intKind PySem.Challenge.rw_pf0269_01.row.prog w) [(0, .ref t1)]) (dt : otd.IsDictOf (intKind PySem.Challenge.rw_pf0269_01.row.prog w) [(0, .ref t2)])
    (hce : oce.data = .cell (some (.bool false))) (hCb : CallsB w p loose mean mg mb fl [(fl, flo), (co, oco), ((L + 1 : Nat), oce), (tb, otb)] false)
    (hret : ∀ u' t' okn' otd' t1' t2' tk1' tk2' tfp' (tdv' : Tok) h' tk', Pairs kn us td t1' t2' I → okn'.IsDictOf (intKind PySem.Challenge.rw_pf0269_01.row.prog w) [(0, .ref t1')] → otd'.IsDictOf (intKind PySem.Challenge.rw_pf0269_01.row.prog w) [(0, .ref t2')] → Fr h₀ L h' (mapT u' .none c box mr) → News h₀ L h' ((I, oI) :: [(c, instObj 308 cd), (cd, dictOf (cnEs w tc vc fl rm false (.bytes #[98, 101, 102, 111, 114, 101] tfp')) 21), (rm, instObj 140 rd), (rd, dictOf (rmEs w trm tu kn us td tr false) 8), (kn, okn'), (t1', tup2 (.bytes #[99, 104, 111, 115, 101, 110] tk1') .none), (td, otd'), (t2', tup2 (.bytes #[99, 104, 111, 115, 101, 110] tk2') .none), (us, listOf #[.int 0 uu] nu), (box, listOf #[.ref l, .int (k + 1 + 1) t'] nb), (l, listOf vs.toArray nl), (fl, flo), (co, oco), ((L + 1 : Nat), oce), (tb, otb)]) → Q .next { s with heap := h', toks := tk' }) :
    wpAny (model PySem.Challenge.rw_pf0269_01.row.prog w) (callerA.deeper (lawEnv L fa)) (execs turnBody.1 (lawEnv L fa)) Q E s := by
  revert X
  k_fill
  intro X
  obtain ⟨c1, c2, c3, c4, c5, c6, c7, c8, c9, c10, c11, c12, c13⟩ := hC
  obtain ⟨p1, p2, p3, p4, p5, p6, p7⟩ := hP
  dsimp only [turnBody, lawEnv, lawFn]
  k_steps
  refine' hret _ _ okn otd t1 t2 _ _ _ 0 _ _ ⟨p1, p2, p3, p4, p5, p6, p7⟩ dk dt ?F ?N
  case F => exact fr_mapT (by k_asm) rfl rfl rfl (fun z z1 z2 z3 z4 z5 => by simp only [mapT, z1, z2, z3, z4, z5, if_false])
  case' N =>
    refine' cb_drop ?n1 ?n2
    case n1 => assumption
    case n2 => walk_at "c_sub"

end

section
variable {w : World} {fa : Addr} {A₀ : Around} {base h₀ : Heap} {L : Addr} {mr u : Str → Option Value} {s : Shared} {Q : Flow → Shared → Prop} {E : Value → Shared → Prop} {p : Program} {loose : List Str} {mean : ExcName → Option Value} {mg mb : Str → Option Value}
  {tb l box cd c co fl rd rm kn us td I t1 t2 tr : Addr} {oI flo oco oce otb okn otd : Obj} {tc trm tu : Nat → Tok} {vc : Nat → Value} {vs : List Value} {ns : List Int} {k kk : Int} {t tt uu tk1 tk2 tfp tdv : Tok} {nu nb nl : Nat} {y : Array UInt8} {emp : Bool}
theorem turn_learned (X : (heapK w.params).In h₀) (B : Below A₀ base [] h₀) (F : Fr h₀ L s.heap (fun z => if z = PySem.Str.ofString "turn" then some (.int kk tt) else mapT u (.bytes y tdv) c box mr z))
    (N : News h₀ L s.heap ((I, oI) :: [(c, instObj 308 cd), (cd, dictOf (cnEs w tc vc fl rm true (.bytes y tfp)) 21), (rm, instObj 140 rd), (rd, dictOf (rmEs w trm tu kn us td tr emp) 8), (kn, okn), (t1, tup2 (.bytes y tk1) .none), (td, otd), (t2, tup2 (.bytes y tk2) .none), (us, listOf #[.int 0 uu] nu), (box, listOf #[.ref l, .int k t] nb), (l, listOf vs.toArray nl), (fl, flo), (co, oco), ((L + 1 : Nat), oce), (tb, otb)]))
    (T : Top p loose mean mg mb h₀) (hi : IntsAre vs ns) (hlen : ns.length ≤ 16) (h0 : 0 ≤ k) (h1 : k < 90)
    (hC : Chain tb (L + 1) l box cd c co fl rd rm kn us td I) (hP : Pairs kn us td t1 t2 I) (dk : okn.IsDictOf (intKind PySem.Challenge.rw_pf0269_01.row.prog w) [(0, .ref t1)]) (dt : otd.IsDictOf (intKind PySem.Challenge.rw_pf0269_01.row.prog w) [(0, .ref t2)])
    (hce : oce.data = .cell (some (.bool true))) (hCb : CallsB w p loose mean mg mb fl [(fl, flo), (co, oco), ((L + 1 : Nat), oce), (tb, otb)] true) (hy : y = #[] ∨ y = #[111, 110, 101] ∨ y = #[97, 110, 111, 116, 104, 101, 114])
    (hret : ∀ u' t' okn' otd' t1' t2' tk1' tk2' tfp' (tdv' : Tok) h' tk', Pairs kn us td t1' t2' I → okn'.IsDictOf (intKind PySem.Challenge.rw_pf0269_01.row.prog w) [(0, .ref t1')] → otd'.IsDictOf (intKind PySem.Challenge.rw_pf0269_01.row.prog w) [(0, .ref t2')] → Fr h₀ L h' (mapT u' (.bytes y tdv') c box mr) → News h₀ L h' ((I, oI) :: [(c, instObj 308 cd), (cd, dictOf (cnEs w tc vc fl rm true (.bytes y tfp')) 21), (rm, instObj 140 rd), (rd, dictOf (rmEs w trm tu kn us td tr emp) 8), (kn, okn'), (t1', tup2 (.bytes y tk1') .none), (td, otd'), (t2', tup2 (.bytes y tk2') .none), (us, listOf #[.int 0 uu] nu), (box, listOf #[.ref l, .int (k + 1 + 1) t'] nb), (l, listOf vs.toArray nl), (fl, flo), (co, oco), ((L + 1 : Nat), oce), (tb, otb)]) → Q .next { s with heap := h', toks := tk' }) :
    wpAny (model PySem.Challenge.rw_pf0269_01.row.prog w) (callerA.deeper (lawEnv L fa)) (execs turnBody.1 (lawEnv L fa)) Q E s := by
  revert X
  k_fill
  intro X
  obtain ⟨c1, c2, c3, c4, c5, c6, c7, c8, c9, c10, c11, c12, c13⟩ := hC
  obtain ⟨p1, p2, p3, p4, p5, p6, p7⟩ := hP
  dsimp only [turnBody, lawEnv, lawFn]
  k_steps
  refine' hret _ _ okn otd t1 t2 tk1 tk2 tfp tdv _ _ ⟨p1, p2, p3, p4, p5, p6, p7⟩ dk dt ?F ?N
  case F => exact fr_mapT (by k_asm) rfl rfl rfl (fun z z1 z2 z3 z4 z5 => by simp only [mapT, z1, z2, z3, z4, z5, if_false])
  case' N =>
    refine' cb_drop ?n1 ?n2
    case n1 => assumption
    case n2 => walk_at "c_sub"

end

section
local macro_rules | `(tactic| walk_at "call ref") => `(tactic| (k_here; (with_reducible show wpAny _ _ (call (Value.ref 161) [Value.str _ _, Value.int _ _, Value.bytes _ _, Value.int _ _]) _ _ _); (rename (_ = _ ∨ _ = _ ∨ _ = _) => hkd8); (rcases hkd8 with hkd8 | hkd8 | hkd8) <;> (subst hkd8; k_dflt (refine' raw_cut ?k1 ?k2 ?k3 ?k4 ?k5 ?kK ?_; (case k1 => k_asm); (case k2 => k_asm); (case k3 => k_asm); (case k4 => k_asm); (case k5 => k_asm); (case kK => exact rfl)); intro c9 d9 t9 v9 sc9 h9 tk9 l1 l2 l3 F9 N9; (try simp only [AllLt, and_true] at l1); (try simp only [AllLt, and_true] at l3); (try dsimp only); (try k_sweep))))

section
variable {w : World} {fa : Addr} {A₀ : Around} {base h₀ : Heap} {L : Addr} {mr u : Str → Option Value} {s : Shared} {Q : Flow → Shared → Prop} {E : Value → Shared → Prop} {p : Program} {loose : List Str} {mean : ExcName → Option Value} {mg mb : Str → Option Value}
  {tb l box cd c co fl rd rm kn us td I t1 t2 tr : Addr} {oI flo oco oce otb okn otd : Obj} {tc trm tu : Nat → Tok} {vc : Nat → Value} {vs : List Value} {ns : List Int} {k kk : Int} {t tt uu tk1 tk2 tfp tdv : Tok} {nu nb nl : Nat} {y : Array UInt8} {emp : Bool}
theorem turn_fresh (X : (heapK w.params).In h₀) (B : Below A₀ base [] h₀) (F : Fr h₀ L s.heap (fun z => if z = PySem.Str.ofString "turn" then some (.int kk tt) else mapT u .none c box mr z))
    (N : News h₀ L s.heap ((I, oI) :: [(c, instObj 308 cd), (cd, dictOf (cnEs w tc vc fl rm false (.bytes #[98, 101, 102, 111, 114, 101] tfp)) 21), (rm, instObj 140 rd), (rd, dictOf (rmEs w trm tu kn us td tr false) 8), (kn, okn), (t1, tup2 (.bytes #[99, 104, 111, 115, 101, 110] tk1) .none), (td, otd), (t2, tup2 (.bytes #[99, 104, 111, 115, 101, 110] tk2) .none), (us, listOf #[.int 0 uu] nu), (box, listOf #[.ref l, .int k t] nb), (l, listOf vs.toArray nl), (fl, flo), (co, oco), ((L + 1 : Nat), oce), (tb, otb)]))
    (T : Top p loose mean mg mb h₀) (hi : IntsAre vs ns) (hlen : ns.length ≤ 16) (h0 : 0 ≤ k) (h1 : k < 90)
    (hC : Chain tb (L + 1) l box cd c co fl rd rm kn us td I) (hP : Pairs kn us td t1 t2 I) (dk : okn.IsDictOf (intKind PySem.Challenge.rw_pf0269_01.row.prog w) [(0, .ref t1)]) (dt : otd.IsDictOf (intKind PySem.Challenge.rw_pf0269_01.row.prog w) [(0, .ref t2)])
    (hce : oce.data = .cell (some (.bool true))) (hCb : CallsB w p loose mean mg mb fl [(fl, flo), (co, oco), ((L + 1 : Nat), oce), (tb, otb)] true)
    (hret : ∀ u' t' okn' otd' t1' t2' tk1' tk2' tfp' (tdv' : Tok) h' tk', Pairs kn us td t1' t2' I → okn'.IsDictOf (intKind PySem.Challenge.rw_pf0269_01.row.prog w) [(0, .ref t1')] → otd'.IsDictOf (intKind PySem.Challenge.rw_pf0269_01.row.prog w) [(0, .ref t2')] → Fr h₀ L h' (mapT u' .none c box mr) → News h₀ L h' ((I, oI) :: [(c, instObj 308 cd), (cd, dictOf (cnEs w tc vc fl rm false (.bytes #[98, 101, 102, 111, 114, 101] tfp')) 21), (rm, instObj 140 rd), (rd, dictOf (rmEs w trm tu kn us td tr false) 8), (kn, okn'), (t1', tup2 (.bytes #[99, 104, 111, 115, 101, 110] tk1') .none), (td, otd'), (t2', tup2 (.bytes #[99, 104, 111, 115, 101, 110] tk2') .none), (us, listOf #[.int 0 uu] nu), (box, listOf #[.ref l, .int (k + 1 + 1) t'] nb), (l, listOf vs.toArray nl), (fl, flo), (co, oco), ((L + 1 : Nat), oce), (tb, otb)]) → Q .next { s with heap := h', toks := tk' })
    (hret1 : ∀ y : Array UInt8, (y = #[] ∨ y = #[111, 110, 101] ∨ y = #[97, 110, 111, 116, 104, 101, 114]) → ∀ u' t' okn' otd' t1' t2' tk1' tk2' tfp' (tdv' : Tok) h' tk', Pairs kn us td t1' t2' I → okn'.IsDictOf (intKind PySem.Challenge.rw_pf0269_01.row.prog w) [(0, .ref t1')] → otd'.IsDictOf (intKind PySem.Challenge.rw_pf0269_01.row.prog w) [(0, .ref t2')] → Fr h₀ L h' (mapT u' (.bytes y tdv') c box mr) → News h₀ L h' ((I, oI) :: [(c, instObj 308 cd), (cd, dictOf (cnEs w tc vc fl rm true (.bytes y tfp')) 21), (rm, instObj 140 rd), (rd, dictOf (rmEs w trm tu kn us td tr ((y.size : Int) == 0)) 8), (kn, okn'), (t1', tup2 (.bytes y tk1') .none), (td, otd'), (t2', tup2 (.bytes y tk2') .none), (us, listOf #[.int 0 uu] nu), (box, listOf #[.ref l, .int (k + 1 + 1) t'] nb), (l, listOf vs.toArray nl), (fl, flo), (co, oco), ((L + 1 : Nat), oce), (tb, otb)]) → Q .next { s with heap := h', toks := tk' }) :
    wpAny (model PySem.Challenge.rw_pf0269_01.row.prog w) (callerA.deeper (lawEnv L fa)) (execs turnBody.1 (lawEnv L fa)) Q E s := by
  revert X
  k_fill
  intro X
  obtain ⟨c1, c2, c3, c4, c5, c6, c7, c8, c9, c10, c11, c12, c13⟩ := hC
  obtain ⟨p1, p2, p3, p4, p5, p6, p7⟩ := hP
  dsimp only [turnBody, lawEnv, lawFn]
  k_steps
  ·
    refine' hret1 _ (by assumption) _ _ _ _ _ _ _ _ _ _ _ _ ?P ?d1 ?d2 ?F ?N
    case F => exact fr_due (mr := mr) (by k_asm) rfl rfl (fun z z1 z2 z3 z4 z5 => by simp only [mapT, z1, z2, z3, z4, z5, if_false])
    case' N =>
      refine' cb_drop ?n1 (List.forall_mem_cons.mpr ⟨?a1, List.forall_mem_cons.mpr ⟨?a2, List.forall_mem_cons.mpr ⟨?a3, List.forall_mem_cons.mpr ⟨?a4, List.forall_mem_cons.mpr ⟨?a5, List.forall_mem_cons.mpr ⟨?a6, ?a7⟩⟩⟩⟩⟩⟩)
      case n1 => assumption
      case a1 => k_mem
      case a2 => k_mem
      case a3 => k_mem
      case a4 => k_mem
      case a5 => k_mem
      case a6 => k_mem
    case d1 => assumption
    case N => walk_at "c_sub"
    case d2 => assumption
    case P => constructor <;> omega
  ·
    refine' hret _ _ okn otd t1 t2 tk1 tk2 tfp 0 _ _ ⟨p1, p2, p3, p4, p5, p6, p7⟩ dk dt ?F8 ?N8
    case F8 => exact fr_mapT (by k_asm) rfl rfl rfl (fun z z1 z2 z3 z4 z5 => by simp only [mapT, z1, z2, z3, z4, z5, if_false])
    case' N8 =>
      refine' cb_drop ?o1 ?o2
      case o1 => assumption
      case o2 => walk_at "c_sub"
  ·
    refine' hret1 _ (by assumption) _ _ _ _ _ _ _ _ _ _ _ _ ?P9 ?d19 ?d29 ?F9 ?N9
    case F9 => exact fr_due (mr := mr) (by k_asm) rfl rfl (fun z z1 z2 z3 z4 z5 => by simp only [mapT, z1, z2, z3, z4, z5, if_false])
    case' N9 =>
      refine' cb_drop ?m1 (List.forall_mem_cons.mpr ⟨?b1, List.forall_mem_cons.mpr ⟨?b2, List.forall_mem_cons.mpr ⟨?b3, List.forall_mem_cons.mpr ⟨?b4, List.forall_mem_cons.mpr ⟨?b5, List.forall_mem_cons.mpr ⟨?b6, ?b7⟩⟩⟩⟩⟩⟩)
      case m1 => assumption
      case b1 => k_mem
      case b2 => k_mem
      case b3 => k_mem
      case b4 => k_mem
      case b5 => k_mem
      case b6 => k_mem
    case d19 => assumption
    case N9 => walk_at "c_sub"
    case d29 => assumption
    case P9 => constructor <;> omega

end

end
/-- an item of the ledger off the iterator -/
theorem off_all {I : Addr} {l : List (Addr × Obj)} (h : ∀ x ∈ l.map (·.1), @Ne Nat x I) : ∀ p ∈ l, p.1 ≠ I := fun p hp => h p.1 (List.mem_map.mpr ⟨p, hp, rfl⟩)
theorem off_led {tb ce l box cd c co fl rd rm kn us td I t1 t2 : Nat} (C : Chain tb ce l box cd c co fl rd rm kn us td I) (P : Pairs kn us td t1 t2 I) : ∀ x ∈ [c, cd, rm, rd, kn, t1, td, t2, us, box, l, fl, co, ce, tb], @Ne Nat x I := by
  have a12 := Nat.lt_trans C.h12 C.h13
  have a11 := Nat.lt_trans C.h11 a12
  have a10 := Nat.lt_trans C.h10 a11
  have a9 := Nat.lt_trans C.h9 a10
  have a8 := Nat.lt_trans C.h8 a9
  have a7 := Nat.lt_trans C.h7 a8
  have a6 := Nat.lt_trans C.h6 a7
  have a5 := Nat.lt_trans C.h5 a6
  have a4 := Nat.lt_trans C.h4 a5
  have a3 := Nat.lt_trans C.h3 a4
  have a2 := Nat.lt_trans C.h2 a3
  have a1 := Nat.lt_trans C.h1 a2
  simp only [List.forall_mem_cons, List.not_mem_nil, false_implies, implies_true, and_true]
  exact ⟨Nat.ne_of_lt a6, Nat.ne_of_lt a5, Nat.ne_of_lt a10, Nat.ne_of_lt a9, Nat.ne_of_lt a11, P.h6, Nat.ne_of_lt C.h13, P.h7, Nat.ne_of_lt a12, Nat.ne_of_lt a4, Nat.ne_of_lt a3, Nat.ne_of_lt a8, Nat.ne_of_lt a7, Nat.ne_of_lt a2, Nat.ne_of_lt a1⟩
theorem rs_n {b₀ : Int} (h : 0 ≤ b₀) : Builtin.Range.rangeSize 0 b₀ 1 = ((b₀.toNat : Nat) : Int) := by
  unfold Builtin.Range.rangeSize
  simp only [show (1 : Int) > 0 by decide, if_true]
  split <;> omega
theorem rs_small {b₀ : Int} (hb0 : 0 ≤ b₀) (hb1 : b₀ < 5) : Builtin.Range.small 0 b₀ 1 = true := small_one (by omega) (by omega) (by omega) (by omega)
theorem hi_4 {b₀ : Int} {i : Nat} (h : i < b₀.toNat) (h1 : b₀ < 5) : (i : Int) ≤ 3 := by omega
theorem le_4 {b₀ : Int} (h1 : b₀ < 5) : b₀.toNat ≤ 4 := by omega
theorem k_lo {k : Int} (h : 0 ≤ k) : 0 ≤ k + 1 + 1 := by omega
theorem k_hi {k : Int} {i : Nat} (h : k ≤ 2 + 2 * (i : Int)) : k + 1 + 1 ≤ 2 + 2 * ((i + 1 : Nat) : Int) := by push_cast; omega
theorem k_90 {k : Int} {i : Nat} (h : k ≤ 2 + 2 * (i : Int)) (hi : (i : Int) ≤ 3) : k < 90 := by omega
theorem k_94 {k : Int} {i : Nat} (h : k ≤ 2 + 2 * (i : Int)) (hi : i ≤ 4) : k < 90 := by omega
theorem lt_sum {a b c : Nat} : a < a + b + c + 1 := by omega
theorem ne_sum1 {a b c : Nat} : b ≠ a + b + c + 1 := by omega
theorem ne_sum2 {a b c : Nat} : c ≠ a + b + c + 1 := by omega
section
variable {w : World} {fa : Addr} {A₀ : Around} {base h₀ : Heap} {L : Addr} {mr : Str → Option Value} {s : Shared} {Qf : Flow → Shared → Prop} {E : Value → Shared → Prop} {p : Program} {loose : List Str} {mean : ExcName → Option Value} {mg mb : Str → Option Value}
  {tb l box cd c co fl rd rm kn us td tr : Addr} {flo oco oce otb : Obj} {tc trm tu : Nat → Tok} {vc : Nat → Value} {vs : List Value} {ns : List Int} {uu : Tok} {nu nb nl : Nat} 
/-- the law's state between two turns: nothing learned, or an id -/
abbrev StN (w : World) (c cd rm rd kn us td tr fl box l co tb L : Addr) (oco oce otb flo : Obj) (tc trm tu : Nat → Tok) (vc : Nat → Value) (uu : Tok) (nu nl nb : Nat) (vs : List Value) (mr : Str → Option Value) (i : Nat) (m : Str → Option Value) (nx : List (Addr × Obj)) : Prop :=
  ∃ (u : Str → Option Value) (okn otd : Obj) (t1 t2 : Addr) (tk1 tk2 tfp : Tok) (k : Int) (t : Tok), m = mapT u .none c box mr ∧ nx = [(c, instObj 308 cd), (cd, dictOf (cnEs w tc vc fl rm false (.bytes #[98, 101, 102, 111, 114, 101] tfp)) 21), (rm, instObj 140 rd), (rd, dictOf (rmEs w trm tu kn us td tr false) 8), (kn, okn), (t1, tup2 (.bytes #[99, 104, 111, 115, 101, 110] tk1) .none), (td, otd), (t2, tup2 (.bytes #[99, 104, 111, 115, 101, 110] tk2) .none), (us, listOf #[.int 0 uu] nu), (box, listOf #[.ref l, .int k t] nb), (l, listOf vs.toArray nl), (fl, flo), (co, oco), ((L + 1 : Nat), oce), (tb, otb)] ∧ 0 ≤ k ∧ k ≤ 2 + 2 * (i : Int) ∧ (@LT.lt Nat _ kn t1 ∧ @LT.lt Nat _ t1 t2 ∧ @LT.lt Nat _ td t2 ∧ @Ne Nat t1 us ∧ @Ne Nat t1 td) ∧ okn.IsDictOf (intKind PySem.Challenge.rw_pf0269_01.row.prog w) [(0, .ref t1)] ∧ otd.IsDictOf (intKind PySem.Challenge.rw_pf0269_01.row.prog w) [(0, .ref t2)]
abbrev StS (w : World) (c cd rm rd kn us td tr fl box l co tb L : Addr) (oco oce otb flo : Obj) (tc trm tu : Nat → Tok) (vc : Nat → Value) (uu : Tok) (nu nl nb : Nat) (vs : List Value) (mr : Str → Option Value) (i : Nat) (m : Str → Option Value) (nx : List (Addr × Obj)) : Prop :=
  ∃ (u : Str → Option Value) (okn otd : Obj) (t1 t2 : Addr) (tk1 tk2 tfp : Tok) (k : Int) (t : Tok) (y : Array UInt8) (tdv : Tok), (y = #[] ∨ y = #[111, 110, 101] ∨ y = #[97, 110, 111, 116, 104, 101, 114]) ∧ m = mapT u (.bytes y tdv) c box mr ∧ nx = [(c, instObj 308 cd), (cd, dictOf (cnEs w tc vc fl rm true (.bytes y tfp)) 21), (rm, instObj 140 rd), (rd, dictOf (rmEs w trm tu kn us td tr ((y.size : Int) == 0)) 8), (kn, okn), (t1, tup2 (.bytes y tk1) .none), (td, otd), (t2, tup2 (.bytes y tk2) .none), (us, listOf #[.int 0 uu] nu), (box, listOf #[.ref l, .int k t] nb), (l, listOf vs.toArray nl), (fl, flo), (co, oco), ((L + 1 : Nat), oce), (tb, otb)] ∧ 0 ≤ k ∧ k ≤ 2 + 2 * (i : Int) ∧ (@LT.lt Nat _ kn t1 ∧ @LT.lt Nat _ t1 t2 ∧ @LT.lt Nat _ td t2 ∧ @Ne Nat t1 us ∧ @Ne Nat t1 td) ∧ okn.IsDictOf (intKind PySem.Challenge.rw_pf0269_01.row.prog w) [(0, .ref t1)] ∧ otd.IsDictOf (intKind PySem.Challenge.rw_pf0269_01.row.prog w) [(0, .ref t2)]
abbrev ChainJ (tb ce l box cd c co fl rd rm kn us td : Nat) : Prop := tb < ce ∧ ce < l ∧ l < box ∧ box < cd ∧ cd < c ∧ c < co ∧ co < fl ∧ fl < rd ∧ rd < rm ∧ rm < kn ∧ kn < us ∧ us < td
theorem loop_cut {b : Bool} {r : Addr} {b₀ : Int} {q₀ q₁ q₂ : Tok} {m₀ : Str → Option Value} {nx₀ news : List (Addr × Obj)} (X : (heapK w.params).In h₀) (B : Below A₀ base [] h₀) (T : Top p loose mean mg mb h₀) (hi : IntsAre vs ns) (hlen : ns.length ≤ 16)
    (hC : ChainJ tb (L + 1) l box cd c co fl rd rm kn us td) (hce : oce.data = .cell (some (.bool b))) (hCb : CallsB w p loose mean mg mb fl [(fl, flo), (co, oco), ((L + 1 : Nat), oce), (tb, otb)] b)
    (hr : IsRange s.heap r 0 b₀ 1 q₀ q₁ q₂) (hb0 : 0 ≤ b₀) (hb1 : b₀ < 5) (F : Fr h₀ L s.heap m₀) (N : News h₀ L s.heap nx₀)
    (st : StN w c cd rm rd kn us td tr fl box l co tb L oco oce otb flo tc trm tu vc uu nu nl nb vs mr 0 m₀ nx₀)
    (doneN : ∀ i m nx h tk, i ≤ 4 → StN w c cd rm rd kn us td tr fl box l co tb L oco oce otb flo tc trm tu vc uu nu nl nb vs mr i m nx → Fr h₀ L h m → News h₀ L h nx → Qf .next { s with heap := h, toks := tk })
    (doneS : ∀ i m nx h tk, i ≤ 4 → StS w c cd rm rd kn us td tr fl box l co tb L oco oce otb flo tc trm tu vc uu nu nl nb vs mr i m nx → Fr h₀ L h m → News h₀ L h nx → Qf .next { s with heap := h, toks := tk }) :
    wpAny (model PySem.Challenge.rw_pf0269_01.row.prog w) (callerA.deeper (lawEnv L fa)) (pyIter (.ref r)) (fun it s₂ => LoopAtV PySem.Challenge.rw_pf0269_01.row.prog w (callerA.deeper (lawEnv L fa)) h₀ (lawEnv L fa) (PySem.Str.ofString "turn") turnBody.1 Qf E it s₂) E s := by
  have hn := rs_n hb0
  have hsm := rs_small hb0 hb1
  obtain ⟨c1, c2, c3, c4, c5, c6, c7, c8, c9, c10, c11, c12⟩ := hC
  refine range_inv (env := lawEnv L fa) (n := b₀.toNat) (m₀ := m₀) (news := nx₀) (fun i m nx => StN w c cd rm rd kn us td tr fl box l co tb L oco oce otb flo tc trm tu vc uu nu nl nb vs mr i m nx ∨ (b = true ∧ StS w c cd rm rd kn us td tr fl box l co tb L oco oce otb flo tc trm tu vc uu nu nl nb vs mr i m nx))
    rfl hr hsm hn F N (.inl st) ?_ ?_
  · intro I oI i kk tt m₁ nx h tk hin hI hne hJ F₁ N₁
    have hi4 : (i : Int) ≤ 3 := hi_4 hin hb1
    have htd : @LT.lt Nat _ td I := by
      obtain ⟨u, okn, otd, t1, t2, tk1, tk2, tfp, k, t, -, rfl, -⟩ := st
      exact hI (td, otd) (by k_mem)
    have C : Chain tb (L + 1) l box cd c co fl rd rm kn us td I := ⟨c1, c2, c3, c4, c5, c6, c7, c8, c9, c10, c11, c12, htd⟩
    rcases hJ with ⟨u, okn, otd, t1, t2, tk1, tk2, tfp, k, t, rfl, rfl, hk0, hk1, ⟨p1, p2, p3, p4, p5⟩, dk, dt⟩ | ⟨rfl, u, okn, otd, t1, t2, tk1, tk2, tfp, k, t, y, tdv, hy, rfl, rfl, hk0, hk1, ⟨p1, p2, p3, p4, p5⟩, dk, dt⟩
    · have P : Pairs kn us td t1 t2 I := ⟨p1, p2, p3, p4, p5, hne (t1, tup2 (.bytes #[99, 104, 111, 115, 101, 110] tk1) .none) (by k_mem), hne (t2, tup2 (.bytes #[99, 104, 111, 115, 101, 110] tk2) .none) (by k_mem)⟩
      cases b with
      | false =>
        refine turn_server X B F₁ N₁ T hi hlen hk0 (k_90 hk1 hi4) C P dk dt hce hCb ?_
        intro u' t' okn' otd' t1' t2' tk1' tk2' tfp' _ h' tk' P' dk' dt' F' N'
        refine ⟨h', tk', _, _, rfl, F', N', off_all (off_led C P'), .inl ⟨_, okn', otd', t1', t2', tk1', tk2', tfp', _, t', rfl, rfl, k_lo hk0, k_hi hk1, ⟨P'.h1, P'.h2, P'.h3, P'.h4, P'.h5⟩, dk', dt'⟩⟩
      | true =>
        refine turn_fresh X B F₁ N₁ T hi hlen hk0 (k_90 hk1 hi4) C P dk dt hce hCb ?_ ?_
        · intro u' t' okn' otd' t1' t2' tk1' tk2' tfp' _ h' tk' P' dk' dt' F' N'
          refine ⟨h', tk', _, _, rfl, F', N', off_all (off_led C P'), .inl ⟨_, okn', otd', t1', t2', tk1', tk2', tfp', _, t', rfl, rfl, k_lo hk0, k_hi hk1, ⟨P'.h1, P'.h2, P'.h3, P'.h4, P'.h5⟩, dk', dt'⟩⟩
        · intro y hy u' t' okn' otd' t1' t2' tk1' tk2' tfp' tdv' h' tk' P' dk' dt' F' N'
          refine ⟨h', tk', _, _, rfl, F', N', off_all (off_led C P'), .inr ⟨rfl, _, okn', otd', t1', t2', tk1', tk2', tfp', _, t', y, tdv', hy, rfl, rfl, k_lo hk0, k_hi hk1, ⟨P'.h1, P'.h2, P'.h3, P'.h4, P'.h5⟩, dk', dt'⟩⟩
    · have P : Pairs kn us td t1 t2 I := ⟨p1, p2, p3, p4, p5, hne (t1, tup2 (.bytes y tk1) .none) (by k_mem), hne (t2, tup2 (.bytes y tk2) .none) (by k_mem)⟩
      refine turn_learned X B F₁ N₁ T hi hlen hk0 (k_90 hk1 hi4) C P dk dt hce hCb hy ?_
      intro u' t' okn' otd' t1' t2' tk1' tk2' tfp' tdv' h' tk' P' dk' dt' F' N'
      refine ⟨h', tk', _, _, rfl, F', N', off_all (off_led C P'), .inr ⟨rfl, _, okn', otd', t1', t2', tk1', tk2', tfp', _, t', y, tdv', hy, rfl, rfl, k_lo hk0, k_hi hk1, ⟨P'.h1, P'.h2, P'.h3, P'.h4, P'.h5⟩, dk', dt'⟩⟩
  · intro m₁ nx h tk hJ F₁ N₁
    rcases hJ with q | ⟨-, q⟩
    · exact doneN _ _ _ _ _ (le_4 hb1) q F₁ N₁
    · exact doneS _ _ _ _ _ (le_4 hb1) q F₁ N₁
end

section
local macro_rules | `(tactic| walk_at "call type:bytes") => `(tactic| (k_here; (with_reducible show wpAny _ _ (call (Value.type "bytes") [Value.ref _]) _ _ _); k_dflt (refine' bytes_rep ?F ?N ?h ?m ?i ?a ?b ?r ?_; (case F => k_asm); (case N => k_asm); (case h => rfl); (case m => k_mem); (case i => with_reducible assumption); (case a => omega); (case b => omega); (case r => decide)); intro b9 h9 t9 tk9 F9 N9; (try dsimp only); (try k_sweep)))

local macro_rules | `(tactic| walk_at "exec Try cons cons nil nil") => `(tactic| (k_here; k_dflt (refine wpAny_Try_except ?_)))

local macro_rules | `(tactic| walk_at "call ref") => `(tactic| (k_here; (with_reducible show wpAny _ _ (call (Value.ref 83) [Value.ref _, Value.int _ _, Value.int _ _, Value.bytes _ _, Value.bytes _ _]) _ _ _); k_dflt (refine' onnew_cut ?k1 ?k2 ?k3 ?k4 ?k5 ?kK ?d1 ?d2 ?s1 ?s2 ?y ?o1 ?o2 ?o3 ?o5 ?o6 ?o7 ?o4 ?_; (case k1 => k_asm); (case k2 => k_asm); (case k3 => k_asm); (case' k4 => (refine' cb_drop ?n1 ?n2; (case n1 => assumption))); (case k4 => walk_at "c_sub"); (case k5 => k_asm); (case kK => exact rfl); (case d1 => assumption); (case d2 => assumption); (case s1 => assumption); (case s2 => assumption); (case y => first | assumption | exact rfl); (case o1 => omega); (case o2 => omega); (case o3 => omega); (case o4 => omega); (case o5 => omega); (case o6 => omega); (case o7 => omega)); intro ok9 t9 uk9 tu9 h9 tk9 dk9 l9 F9 N9; (try dsimp only); (try k_sweep)))
local macro_rules | `(tactic| walk_at "call ref") => `(tactic| (k_here; k_dflt (refine' fresh_cut ?k1 ?k2 ?k3 ?k4 ?k5 ?kK ?d1 ?s1 ?o1 ?o2 ?o3 ?cc ?o4 ?_; (case k1 => k_asm); (case k2 => k_asm); (case k3 => k_asm); (case cc => assumption); (case' k4 => (refine' cb_drop ?n1 ?n2; (case n1 => assumption))); (case k4 => walk_at "c_sub"); (case k5 => k_asm); (case kK => exact rfl); (case d1 => assumption); (case s1 => assumption); (case o1 => omega); (case o2 => omega); (case o3 => omega); (case o4 => omega)); intro t9 h9 tk9 n9 F9 N9 G9; (try dsimp only); (try k_sweep)))

/-- what the law has learned is not the empty id: it is none, or other bytes -/
def DueOff (w : World) (dv : Value) : Prop := handedIn dv = true ∧ ∀ (A : Around) (t : Tok) (Q E : Value → Shared → Prop) (s : Shared), Q (.bool false) s → wpAny (model PySem.Challenge.rw_pf0269_01.row.prog w) A (compareOp .Eq dv (.bytes #[] t)) Q E s
theorem due_none (w : World) : DueOff w .none := ⟨rfl, fun _ _ _ _ _ h => cmp_none_bytes h⟩
theorem due_bytes (w : World) {y : Array UInt8} {t : Tok} (hy : (y.toList == (#[] : Array UInt8).toList) = false) : DueOff w (.bytes y t) := ⟨rfl, fun A t' Q E s h => by
  refine eq_bytes ?_
  rw [hy]
  exact h⟩
local macro_rules | `(tactic| walk_at "compareOp Eq bytes") => `(tactic| (k_here; (rename DueOff _ _ => hdv9); with_unfolding_all refine' hdv9.2 _ _ _ _ _ ?_))
section
variable {w : World} {fa : Addr} {A₀ : Around} {base h₀ : Heap} {L : Addr} {mr u : Str → Option Value} {s : Shared} {Q : Flow → Shared → Prop} {E : Value → Shared → Prop} {p : Program} {loose : List Str} {mean : ExcName → Option Value} {mg mb : Str → Option Value}
  {tb l box cd c co fl rd rm kn us td I t1 t2 tr : Addr} {oI flo oco oce otb okn otd : Obj} {tc trm tu : Nat → Tok} {vc : Nat → Value} {vs : List Value} {ns : List Int} {k kk : Int} {t tt uu tk1 tk2 tfp tdv : Tok} {nu nb nl : Nat} {y : Array UInt8} {emp : Bool}
variable {mv : Bool} {fp : Array UInt8} {dv : Value}
theorem last_one (X : (heapK w.params).In h₀) (B : Below A₀ base [] h₀) (F : Fr h₀ L s.heap (mapT u dv c box mr))
    (N : News h₀ L s.heap [(c, instObj 308 cd), (cd, dictOf (cnEs w tc vc fl rm mv (.bytes fp tfp)) 21), (rm, instObj 140 rd), (rd, dictOf (rmEs w trm tu kn us td tr false) 8), (kn, okn), (t1, tup2 (.bytes y tk1) .none), (td, otd), (t2, tup2 (.bytes y tk2) .none), (us, listOf #[.int 0 uu] nu), (box, listOf #[.ref l, .int k t] nb), (l, listOf vs.toArray nl), (fl, flo), (co, oco), ((L + 1 : Nat), oce), (tb, otb)])
    (T : Top p loose mean mg mb h₀) (hi : IntsAre vs ns) (hlen : ns.length ≤ 16) (h0 : 0 ≤ k) (h1 : k < 90)
    (hC : Chain tb (L + 1) l box cd c co fl rd rm kn us td I) (hP : Pairs kn us td t1 t2 I) (dk : okn.IsDictOf (intKind PySem.Challenge.rw_pf0269_01.row.prog w) [(0, .ref t1)]) (dt : otd.IsDictOf (intKind PySem.Challenge.rw_pf0269_01.row.prog w) [(0, .ref t2)]) (lok : (kn == sysModules) = false) (lot : (td == sysModules) = false) (hdv : DueOff w dv) (hy2 : (y.toList == (#[105, 115, 115, 117, 101, 100] : Array UInt8).toList) = false)
    (hret : ∀ m' news' h' tk', Fr h₀ L h' m' → News h₀ L h' news' → (tb, otb) ∈ news' → Q (.ret (.bool true)) { s with heap := h', toks := tk' }) :
    wpAny (model PySem.Challenge.rw_pf0269_01.row.prog w) (callerA.deeper (lawEnv L fa)) (execs lastBody.1 (lawEnv L fa)) Q E s := by
  revert X
  k_fill
  intro X
  obtain ⟨c1, c2, c3, c4, c5, c6, c7, c8, c9, c10, c11, c12, c13⟩ := hC
  obtain ⟨p1, p2, p3, p4, p5, p6, p7⟩ := hP
  dsimp only [lastBody, lawEnv, lawFn]
  k_steps
  exact hret _ _ _ _ (by k_asm) (by k_asm) (by first | assumption | k_mem)

end

section
/-- an exception object as it is made -/
abbrev excO (C : Addr) (dd : Option Addr) (t : Addr) : Obj := { cls := .ref C, dict := dd, data := .fields #[.ref t, .none, .none, .none, .bool false, .none] }
abbrev excBm : List Value := [.type "Exception", .type "BaseException", .type "object"]
/-- the class C of the part K: an own class over Exception; its names -/
def ownExc (K : Frag) (C : Addr) : Option (Array DictEntry) := match K.lookup C with
  | some ⟨.type "type", _, .cls cd, sl⟩ => (match cd.mro, sl.toList with
    | .ref C' :: bm, [_, _, _, _, some (.builtin i), _] => if C' == C && bm == excBm && i == "Exception.__new__" && !cd.hasDel && cd.hasDict then (match K.lookup cd.ns with
      | some ⟨_, _, .dict es _, _⟩ => if es.all (fun e => match e.key with | .str _ _ => true | _ => false) then some es else none
      | _ => none) else none
    | _, _ => none)
  | _ => none
theorem ownExc_cls {K : Frag} {h : Heap} {C : Addr} {es : Array DictEntry} (X : K.In h) (q : ownExc K C = some es) : ∃ cd nm qn N bs sn sub ab col dd k0 k1 k2 k3 k5, clsIn K C = some cd ∧ cd.hasDict = true ∧ cd.mro = .ref C :: excBm ∧
    h.get? C = some (excClassObj nm qn C N bs excBm true sn sub ab col dd k0 k1 k2 k3 k5 "Exception.__new__") ∧ h.Ns N (nsFind es) := by
  unfold ownExc at q
  split at q
  · rename_i dd cd sl ho
    split at q
    · rename_i C' bm k0 k1 k2 k3 i k5 hm hs
      split at q
      · rename_i hb
        simp only [Bool.and_eq_true, beq_iff_eq, Bool.not_eq_true'] at hb
        obtain ⟨⟨⟨⟨rfl, rfl⟩, rfl⟩, hdel⟩, hdic⟩ := hb
        split at q
        · rename_i es' ep _ hn
          split at q
          · rename_i hk
            cases q
            have hcls : clsIn K C' = some cd := by unfold clsIn; rw [ho]
            obtain ⟨nm, bs, mro, ns, qn, hd, sn, sub, ab, col, del⟩ := cd
            dsimp only at hm hdel hdic hn
            subst hm hdel hdic
            have hsl : sl = #[k0, k1, k2, k3, some (.builtin "Exception.__new__"), k5] := by
              obtain ⟨l⟩ := sl
              simp only at hs
              rw [hs]
            subst hsl
            refine ⟨_, nm, qn, ns, bs, sn, sub, ab, col, dd, k0, k1, k2, k3, k5, hcls, rfl, rfl, X _ _ ho, _, _, _, X _ _ hn, rfl, fun e he => ?_, fun _ => rfl⟩
            have := Array.all_eq_true_iff_forall_mem.mp hk e he
            split at this
            · rename_i n t hke; exact ⟨n, t, hke⟩
            · cases this
          · cases q
        · cases q
      · cases q
    · cases q
  · cases q
section
variable {prog : Program} {w : World} {A : Around} {s : Shared} {K : Frag} {h₀ : Heap} {L C fI e t d : Addr} {m : Str → Option Value} {news rest : List (Addr × Obj)} {es : Array DictEntry} {args : List Value}
theorem exc_made {E Q : Value → Shared → Prop} (F : Fr h₀ L s.heap m) (X₀ : K.In h₀) (N : News h₀ L s.heap news) (q : ownExc K C = some es) (hi : nsFind es (PySem.Str.ofString "__init__") = some (.ref fI)) (hf : typeIn K (.ref fI) = some (.type "function")) (hz : args.length ≤ 100)
    (h : ∀ h' e t, Fr h₀ L h' m → News h₀ L h' ((e, excO C none t) :: (t, { cls := .type "tuple", data := .seq args.toArray }) :: news) → (∀ p ∈ news, p.1 ≠ e) → (∀ p ∈ news, p.1 ≠ t) → t ≠ e →
      wpAny (model prog w) (A.under (.builtin "type.__call__" ⟨.ref C :: args, []⟩)) (call (.ref fI) (.ref e :: args)) (fun r s' => r = .none ∧ Q (.ref e) s') E { s with heap := h' }) :
    wpAny (model prog w) A (call (.ref C) args) Q E s := by
  obtain ⟨cd, nm, qn, Nn, bs, sn, sub, ab, col, dd, k0, k1, k2, k3, k5, _, _, _, hC, hn⟩ := ownExc_cls (X₀.keeps F.keep) q
  obtain ⟨hp, g, dr, tk, os⟩ := s
  have hfo : ∃ oI, hp.get? fI = some oI ∧ oI.cls = .type "function" := by
    have X := X₀.keeps F.keep
    unfold typeIn at hf
    cases ho : K.lookup fI with
    | none => simp [ho] at hf
    | some o => exact ⟨o, X _ _ ho, by simpa [ho] using hf⟩
  obtain ⟨oI, hfI, hfc⟩ := hfo
  refine wpAny_call_exc_init PySem.F.excBase_Exception hC hn hi hfI hfc (fun h' e hm => ?_) (Nat.le_trans hz (by rw [sizeLine_eq]; omega))
  obtain ⟨t, he, htn, ht⟩ := hm.there
  have hte : t ≠ e := fun z => by subst z; rw [he] at ht; cases ht
  have ne : ∀ p ∈ news, p.1 ≠ e := fun p hp z => by have := (N p hp).1; rw [z, hm.new] at this; cases this
  have nt : ∀ p ∈ news, p.1 ≠ t := fun p hp z => by have := (N p hp).1; rw [z, htn] at this; cases this
  obtain ⟨oL, a1, a2, hL, r⟩ := F.ns
  have F' : Fr h₀ L h' m := ⟨⟨oL, a1, a2, hm.keeps _ _ hL, r⟩, fun b o hb => hm.keeps _ _ (F.keep b o hb), F.above⟩
  have n0 : ∀ b, hp.get? b = none → h₀.get? b = none := fun b hb => kts_none F.keep hb
  have hEL : e ≠ L := fun z => by have := hm.new; rw [z] at this; exact absurd (hL.symm.trans this) (by simp)
  have hTL : t ≠ L := fun z => by rw [z] at htn; exact absurd (hL.symm.trans htn) (by simp)
  refine h h' e t F' (fun p hp => ?_) ne nt hte
  rcases List.mem_cons.mp hp with rfl | hp
  · exact ⟨he, hEL, n0 _ hm.new⟩
  · rcases List.mem_cons.mp hp with rfl | hp
    · exact ⟨ht, hTL, n0 _ htn⟩
    · exact ⟨hm.keeps _ _ (N p hp).1, (N p hp).2⟩
end

section
variable {prog : Program} {w : World} {A : Around} {E : Value → Shared → Prop} {s : Shared} {K : Frag} {x C : Addr} {ox : Obj} {od : Option Obj} {name : Str} {expr : Bool} {Q : Value → Shared → Prop}
open PySem.Builtin PySem.Builtin.ObjectAttr in
/-- an attribute of its own, read from an object of an own exception class -/
theorem get_exc {v : Value} (X : K.In s.heap) (I : InstAt s.heap x ox C od) (hga : findIn K (.ref C) "__getattribute__" = some (some (.builtin "BaseException.__getattribute__"))) (hgh : findIn K (.ref C) "__getattr__" = some none)
    (hm : mroIn K C (.type "BaseException") = some true) (hf : findObj K C od name = some (.value v)) (hh : handedIn v = true) (h : Q v { s with toks := s.toks + 1 }) :
    wpAny (model prog w) A (getAttr (.ref x) name expr) Q E s := by
  have SF := (PySem.F.attr_Exception).ga
  obtain ⟨hp, g, d, t, os⟩ := s
  have L0 := I.type (M := model prog w)
  have L1 := looks_findIn (M := model prog w) X hga
  have L2 := looks_findIn (M := model prog w) X hgh
  have L3 := looks_find (M := model prog w) X I hf
  have sub : Looks (model prog w) hp (isInstance (.ref x) (.type "BaseException")) true := L0.andThen (looks_mroIn X hm)
  unfold getAttr getAttrBy
  refine wpAny_bind (wpAny_mkText (wpAny_holding (wpAny_bind (L0.at (wpAny_bind (L1.at ?_))))))
  show wpAny _ _ (getAttrByItsOwn _ _ _ _ _ _) _ _ _
  unfold getAttrByItsOwn hookBefore
  refine wpAny_bind (L2.at (wpAny_bind (wpAny_attempt (wpAny_holding ?_))))
  unfold callGetattribute boundAndCalled
  rw [if_neg (show ¬ ((expr && onTheHeap (Value.builtin "BaseException.__getattribute__")) = true) from by cases expr <;> decide)]
  rw [SF.bind]
  refine wpAny_bind (wpAny_pure (wpAny_call ?_))
  refine codeAny_call_builtin SF.plain PySem.F.entry_bexc_ga (@check_slot (model prog w) _ _ ⟨hp, g, d, t + 1, os⟩ "BaseException.__getattribute__" "BaseException" "__getattribute__" (.ref x) _ [] _ (by decide +kernel) (by decide +kernel) sub (PySem.F.args_bexc_ga _ _) ?_)
  show wpAny _ _ (Builtin.«object.__getattribute__» ⟨[.ref x, .str name t], []⟩) _ _ _
  refine wpAny_bind (wpAny_pure (wpAny_bind (wpAny_pure (wpAny_bind (L0.at (wpAny_bind (L3.at ?_)))))))
  refine wpAny_pure ?_
  show wpAny _ _ (handedOut v) _ _ _
  rw [handedOut_of hh]; exact wpAny_pure h
end

section
variable {prog : Program} {w : World} {A : Around} {s : Shared} {K : Frag} {h₀ : Heap} {L C e t d : Addr} {m : Str → Option Value} {rest pre post : List (Addr × Obj)} {ces : Array DictEntry} {args : List Value} {name : Str} {tk : Tok} {v : Value} {es es' : List DictEntry} {n n' : Nat}
theorem exc_init {E Q : Value → Shared → Prop} {dd : Option Addr} (F : Fr h₀ L s.heap m) (X₀ : K.In h₀) (N : News h₀ L s.heap ((e, excO C dd t) :: rest)) (q : ownExc K C = some ces) (hne : ∀ p ∈ rest, p.1 ≠ e) (hz : args.length ≤ 100)
    (h : ∀ h' t', Fr h₀ L h' m → News h₀ L h' ((e, excO C dd t') :: (t', { cls := .type "tuple", data := .seq args.toArray }) :: rest) → (@LT.lt Nat _ e t') → (∀ p ∈ rest, @LT.lt Nat _ p.1 t') → Q .none { s with heap := h' }) :
    wpAny (model prog w) A (call (.builtin "Exception.__init__") (.ref e :: args)) Q E s := by
  obtain ⟨cd, nm, qn, Nn, bs, sn, sub, ab, col, dd', k0, k1, k2, k3, k5, _, _, _, hC, hn⟩ := ownExc_cls (X₀.keeps F.keep) q
  obtain ⟨hp, g, dr, tk, os⟩ := s
  have FX := PySem.F.excBase_Exception
  have he := (N _ (.head _)).1
  have hz' : args.length ≤ sizeLine := Nat.le_trans hz (by rw [sizeLine_eq]; omega)
  refine wpAny_call (codeAny_call_builtin FX.init.plain FX.initEntry (wpAny_check_init_sub FX hC he rfl ?_))
  wp_walk
  have N1 := News.push F N { cls := .type "tuple", data := .seq args.toArray }
  have le : @LT.lt Nat _ e hp.objs.size := Heap.lt_size he
  have lr : ∀ p ∈ rest, @LT.lt Nat _ p.1 hp.objs.size := fun p hq => Heap.lt_size (N p (.tail _ hq)).1
  obtain ⟨F2, N2⟩ := news_upd (pre := [(hp.objs.size, { cls := .type "tuple", data := .seq args.toArray })]) (post := rest) (o' := excO C dd hp.objs.size) (f := Obj.mapFields (·.setIfInBounds 0 (Value.ref hp.objs.size))) (F.push _) N1
    (fun p hq => by rw [List.mem_singleton.mp hq]; exact Nat.ne_of_gt le) hne rfl rfl
  refine h _ _ F2 (fun p hq => N2 p ?_) le lr
  rcases List.mem_cons.mp hq with rfl | hq
  · exact .tail _ (.head _)
  · rcases List.mem_cons.mp hq with rfl | hq
    · exact .head _
    · exact .tail _ (.tail _ hq)
open PySem.Builtin PySem.Builtin.ObjectAttr in
theorem store_tail {M : Model} {E : Value → Shared → Prop} {Q : PySem.Fin → Shared → Prop} (hM : M.w = w) (F : Fr h₀ L s.heap m) (N : News h₀ L s.heap (pre ++ (d, dictOf es n) :: post)) (hl : (getL name es).isSome = true) (h1 : ∀ p ∈ pre, p.1 ≠ d) (h2 : ∀ p ∈ post, p.1 ≠ d)
    (e : (putL name (PyData.keyHash w.params name) (.str name s.toks) v es, putN name es n) = (es', n')) (hz : es'.length ≤ 1000)
    (h : ∀ h', Fr h₀ L h' m → News h₀ L h' (pre ++ (d, dictOf es' n') :: post) → Q (.done (.ret .none)) { s with heap := h', toks := s.toks + 1 }) :
    wpAny M A (storeInDict d (.str name tk) name v) Q E s := by
  subst hM
  obtain ⟨e1, e2⟩ := Prod.mk.inj e
  have ep : Obj.putName name (PyData.keyHash M.w.params name) (.str name s.toks) v (dictOf es n) = dictOf es' n' := by rw [putName_dict, e1, e2]
  obtain ⟨U1, U2⟩ := news_upd (f := Obj.putName name (PyData.keyHash M.w.params name) (.str name s.toks) v) F N h1 h2 ep rfl
  have D := (N (d, dictOf es n) (by simp)).1
  have D' := (U2 (d, dictOf es' n') (by simp)).1
  unfold storeInDict newKeyGuard
  refine wpAny_bind (wpAny_pure (wpAny_bind ?_))
  unfold nsSet
  refine wpAny_bind (wpAny_bind (wpAny_askSetting (wpAny_pure (wpAny_bind (wpAny_mkText (wpAny_bind (wpAny_loadPart D ?_)))))))
  rw [← lookIn_dict name es n] at hl
  unfold lookIn at hl
  dsimp only
  have c : (!es.toArray.any (·.key.isStr name) && es.toArray.any (·.refKey)) = false := by
    dsimp only at hl
    rw [← Array.any_toList, ← Array.any_toList]
    split at hl
    · rename_i en he
      rw [List.any_eq_true.mpr ⟨en, List.mem_of_find?_eq_some he, List.find?_some he⟩]; rfl
    · split at hl
      · cases hl
      · rename_i z; rw [Bool.not_eq_true] at z; rw [z, Bool.and_false]
  rw [aRefKeyMayBeTheName_at, c]
  refine wpAny_updatePart D ?_
  refine wpAny_bind (wpAny_lookBehind D' (pastItsLine_dict (by rw [List.size_toArray, sizeLine_eq]; omega)) ?_)
  exact wpAny_pure (h _ U1 U2)
open PySem.Builtin PySem.Builtin.ObjectAttr in
theorem exc_store {R : Result → Shared → Prop} {x : Addr} {ox : Obj} {od : Option Obj} (X : K.In s.heap) (I : W.InstAt s.heap x ox C od) (q : ownExc K C = some ces) (ht : takerIn K C name = some none)
    (h : ∀ b, wpAny (model prog w) A.in1 (storeInOwnDict (.ref x) (.ref C) (.str name tk) name v b)
      (fun fin s' => match fin with | .done f => R (.ok f) s' | .again c' => c'.quiet = true ∧ codeAny (model prog w) A c' R s') (fun e s' => R (.error e) s') s) :
    codeAny (model prog w) A (.call (.builtin "object.__setattr__") ⟨[.ref x, .str name tk, v], []⟩) R s := by
  obtain ⟨cd, nm, qn, Nn, bs, sn, sub, ab, col, dd', k0, k1, k2, k3, k5, hcd, _, hmro, hC, hn⟩ := ownExc_cls X q
  have SF := PySem.F.store_Exception
  have sub : Looks (model prog w) s.heap (isInstance (.ref x) (.type "object")) true := I.type.andThen (looks_mroIn X (by unfold mroIn; rw [hcd, Option.bind_some, hmro]; rfl))
  refine codeAny_call_builtin SF.slot.plain SF.entry (@check_slot (model prog w) _ _ s "object.__setattr__" "object" "__setattr__" (.ref x) [.str name tk, v] [] _ SF.kind SF.split sub (SF.args (.ref x) (.str name tk) v) ?_)
  obtain ⟨attr, ha, hr⟩ := Option.bind_eq_some_iff.mp ht
  have hm : Looks (model prog w) s.heap (mroOf (.ref C)) cd.mro := (looks_clsIn X hcd).andThen .now
  have L3 : Looks (model prog w) s.heap (storeTaker? attr) none := by
    cases attr with
    | none => exact .now
    | some a =>
      obtain ⟨b, hb, hb'⟩ := Option.map_eq_some_iff.mp hr
      refine (looks_takesIn X hb).andThen ?_
      cases b
      · exact .now
      · cases hb'
  rw [osa_eq, refuse_eq]
  refine wpAny_bind (wpAny_bind (I.type.here (wpAny_bind (hm.here ?_))))
  rw [hmro, refuseLoop_ref, SF.passes]
  refine wpAny_pure (wpAny_bind (I.type.here (wpAny_bind ((looks_findIn X ha).here (wpAny_bind (L3.here ?_))))))
  exact h _
open PySem.Builtin PySem.Builtin.ObjectAttr in
theorem set_exc1 {E : Value → Shared → Prop} {Q : Unit → Shared → Prop} {news news' : List (Addr × Obj)} (F : Fr h₀ L s.heap m) (X₀ : K.In h₀) (N : News h₀ L s.heap news) (hm : (e, excO C (some d) t) ∈ news) (q : ownExc K C = some ces)
    (hs : findIn K (.ref C) "__setattr__" = some (some (.builtin "object.__setattr__"))) (ht : takerIn K C name = some none) (hl : (getL name es).isSome = true)
    (ee : (putL name (PyData.keyHash w.params name) (.str name (s.toks + 1)) v es, putN name es n) = (es', n')) (U : Upd d (dictOf es n) (dictOf es' n') news news') (hz : es'.length ≤ 1000)
    (h : ∀ h', Fr h₀ L h' m → News h₀ L h' news' → Q () { s with heap := h', toks := s.toks + 2 }) :
    wpAny (model prog w) A (setAttr (.ref e) name v) Q E s := by
  obtain ⟨pre, post, rfl, rfl, a, b⟩ := U.split
  have X := X₀.keeps F.keep
  have I : W.InstAt s.heap e (excO C (some d) t) C (some (dictOf es n)) := ⟨(N _ hm).1, rfl, rfl, (N (d, dictOf es n) (by simp)).1⟩
  obtain ⟨cd, _, _, _, _, _, _, _, _, _, _, _, _, _, _, hcd, hdic, _⟩ := ownExc_cls X q
  refine set_plain X I hs (exc_store (s := { s with toks := s.toks + 1 }) X I q ht fun bb => ?_)
  refine wpAny_bind (wpAny_pure (wpAny_bind (wpAny_bind (wpAny_loadPart (N _ hm).1 (wpAny_bind (Looks.here (s := { s with toks := s.toks + 1 }) (looks_clsIn (M := model prog w) X hcd) ?_))))))
  rw [hdic]
  refine wpAny_pure (a := some d) ?_
  exact store_tail (tk := s.toks) (s := { s with toks := s.toks + 1 }) rfl F N hl a b ee hz fun h' F' N' => h h' F' N'
open PySem.Builtin PySem.Builtin.ObjectAttr in
theorem set_exc0 {E : Value → Shared → Prop} {Q : Unit → Shared → Prop} (F : Fr h₀ L s.heap m) (X₀ : K.In h₀) (N : News h₀ L s.heap ((e, excO C none t) :: rest)) (q : ownExc K C = some ces) (hne : ∀ p ∈ rest, p.1 ≠ e)
    (hs : findIn K (.ref C) "__setattr__" = some (some (.builtin "object.__setattr__"))) (ht : takerIn K C name = some none)
    (h : ∀ h' d, Fr h₀ L h' m → News h₀ L h' ((d, dictOf [⟨PyData.keyHash w.params name, .str name (s.toks + 1), v⟩] 1) :: (e, excO C (some d) t) :: rest) → (@LT.lt Nat _ e d) → (∀ p ∈ rest, @LT.lt Nat _ p.1 d) → Q () { s with heap := h', toks := s.toks + 2 }) :
    wpAny (model prog w) A (setAttr (.ref e) name v) Q E s := by
  have X := X₀.keeps F.keep
  have he := (N _ (.head _)).1
  have I : W.InstAt s.heap e (excO C none t) C none := ⟨he, rfl, rfl, trivial⟩
  obtain ⟨cd, _, _, _, _, _, _, _, _, _, _, _, _, _, _, hcd, hdic, _⟩ := ownExc_cls X q
  refine set_plain X I hs (exc_store (s := { s with toks := s.toks + 1 }) X I q ht fun bb => ?_)
  refine wpAny_bind (wpAny_pure (wpAny_bind (wpAny_bind (wpAny_loadPart he (wpAny_bind (Looks.here (s := { s with toks := s.toks + 1 }) (looks_clsIn (M := model prog w) X hcd) ?_))))))
  rw [hdic]
  have le : @LT.lt Nat _ e s.heap.objs.size := Heap.lt_size he
  have lr : ∀ p ∈ rest, @LT.lt Nat _ p.1 s.heap.objs.size := fun p hq => Heap.lt_size (N p (.tail _ hq)).1
  have N1 := News.push F N (dictOf [] 0)
  obtain ⟨F2, N2⟩ := news_upd (pre := [(s.heap.objs.size, dictOf [] 0)]) (post := rest) (o' := excO C (some s.heap.objs.size) t) (f := fun o => { o with dict := some s.heap.objs.size }) (F.push _) N1
    (fun p hq => by rw [List.mem_singleton.mp hq]; exact Nat.ne_of_gt le) hne rfl rfl
  have he1 : (s.heap.push (dictOf [] 0)).get? e = some (excO C none t) := Heap.get?_push_of_some _ he
  refine wpAny_bind (wpAny_alloc ?_)
  refine wpAny_bind (wpAny_update he1 ?_)
  refine wpAny_pure (a := some s.heap.objs.size) ?_
  exact store_tail (tk := s.toks) (s := { s with heap := (s.heap.push (dictOf [] 0)).update e _, toks := s.toks + 1 }) (pre := []) rfl F2 N2 rfl (fun _ hq => nomatch hq) (fun p hq => by
    rcases List.mem_cons.mp hq with rfl | hq
    · exact Nat.ne_of_lt le
    · exact Nat.ne_of_lt (lr p hq)) rfl (show 1 ≤ 1000 by decide) fun h' F' N' => h h' _ F' N' le lr
end

/-- what the raise of an own exception must come with -/
def OwnUp (K : Frag) (C : Addr) (E : Value → Shared → Prop) (v : Value) (s₁ : Shared) : Prop := ∃ e dd t, v = .ref e ∧ K.In s₁.heap ∧ s₁.heap.get? e = some (excO C dd t) ∧ E (.ref e) s₁
section
variable {prog : Program} {w : World} {A : Around} {s : Shared} {K : Frag} {C : Addr} {ces : Array DictEntry} {env : Env} {E : Value → Shared → Prop} {Q : Flow → Shared → Prop} {x : Expr} {pos : Pos}
theorem raise_own {h₀ : Heap} (_ : K.In h₀) (hh : A.handled = none) (q : ownExc K C = some ces) (h : wpAny (model prog w) A (eval x env) (OwnUp K C E) E s) : wpAny (model prog w) A (exec (.Raise (some x) none pos) env) Q E s := by
  rw [arm_exec_Raise]
  refine wpAny_bind (wpAny_standAt ?_)
  simp only [evalOpt, Option.map]
  unfold raiseStmt
  refine wpAny_bind (wpAny_bind (wpAny_mono h (fun v s₁ h₁ => wpAny_bind (wpAny_standAt (wpAny_pure ?_))) fun _ _ z => z))
  obtain ⟨e, dd, t, rfl, X, he, hE⟩ := h₁
  obtain ⟨cd, nm, qn, Nn, bs, sn, sub, ab, col, dd', k0, k1, k2, k3, k5, _, _, _, hC, hn⟩ := ownExc_cls X q
  obtain ⟨hp, g, dr, tk, os⟩ := s₁
  have hcB : (Value.ref C :: excBm).contains (.type "BaseException") = true := by rw [List.contains_cons]; rfl
  repeat (first | with_reducible refine wpAny_loadPart_at he ?_ | with_reducible refine wpAny_loadPart_at hC ?_ | (with_reducible refine wpAny_isSubtype_exc hC ?_; rw [hcB]) | wp_step)
  exact wpAny_raiseNew_none hh hE
end
noncomputable def qeEs (P : Params) : Array DictEntry := (ownExc (heapK P) 45).getD #[]
theorem qe_own (P : Params) : ownExc (heapK P) 45 = some (qeEs P) := by kernel_rfl
theorem qe_init (P : Params) : nsFind (qeEs P) (PySem.Str.ofString "__init__") = some (.ref 42) := by kernel_rfl
theorem meta_exc : typeOf (.type "Exception") = pure (.type "type") := by kernel_rfl
section
variable {prog : Program} {w : World} {A : Around} {s : Shared} {K : Frag} {h₀ : Heap} {L C e t d : Addr} {m : Str → Option Value} {rest : List (Addr × Obj)} {ces : Array DictEntry} {name : Str} {v : Value} {es es' : List DictEntry} {n n' : Nat}
theorem set_exc1h {E : Value → Shared → Prop} {Q : Unit → Shared → Prop} (F : Fr h₀ L s.heap m) (X₀ : K.In h₀) (N : News h₀ L s.heap ((d, dictOf es n) :: (e, excO C (some d) t) :: rest)) (q : ownExc K C = some ces)
    (hs : findIn K (.ref C) "__setattr__" = some (some (.builtin "object.__setattr__"))) (ht : takerIn K C name = some none) (hl : (getL name es).isSome = true)
    (ee : (putL name (PyData.keyHash w.params name) (.str name (s.toks + 1)) v es, putN name es n) = (es', n')) (hz : es'.length ≤ 1000) (le : @LT.lt Nat _ e d) (lr : ∀ p ∈ rest, @LT.lt Nat _ p.1 d)
    (h : ∀ h', Fr h₀ L h' m → News h₀ L h' ((d, dictOf es' n') :: (e, excO C (some d) t) :: rest) → Q () { s with heap := h', toks := s.toks + 2 }) :
    wpAny (model prog w) A (setAttr (.ref e) name v) Q E s :=
  set_exc1 F X₀ N (.tail _ (.head _)) q hs ht hl ee (Upd.head fun p hp => by
    rcases List.mem_cons.mp hp with rfl | hp
    · exact Nat.ne_of_lt le
    · exact Nat.ne_of_lt (lr p hp)) hz h
end

theorem qe_kts (P : Params) : ktsIn (heapK P) 45 "BaseException" = true := by kernel_rfl
section
variable {prog : Program} {w : World} {A : Around} {s : Shared} {K : Frag} {h₀ : Heap} {L C e t d a : Addr} {m : Str → Option Value} {news rest : List (Addr × Obj)} {name n : Str} {v : Value} {es : List DictEntry} {k : Nat} {oe : Obj} {vs : Array Value} {cn : Str} {cs : Scope} {ccd : Value} {cl : List (Str × Addr)} {pos : Pos}
theorem get_excL {E Q : Value → Shared → Prop} {expr : Bool} (F : Fr h₀ L s.heap m) (X₀ : K.In h₀) (N : News h₀ L s.heap news) (m1 : (e, oe) ∈ news) (hc : oe.cls = .ref C) (hd : oe.dict = some d) (hv : oe.data = .fields vs) (m2 : (d, dictOf es k) ∈ news)
    (hga : findIn K (.ref C) "__getattribute__" = some (some (.builtin "BaseException.__getattribute__"))) (hgh : findIn K (.ref C) "__getattr__" = some none) (hm : mroIn K C (.type "BaseException") = some true) (hh : hasDictIn K C = true)
    (ha : findIn K (.ref C) name = some none) (hl : getL name es = some (some v)) (hw : handedIn v = true) (h : Q v { s with toks := s.toks + 1 }) : wpAny (model prog w) A (getAttr (.ref e) name expr) Q E s :=
  get_exc (X₀.keeps F.keep) (od := some (dictOf es k)) ⟨(N _ m1).1, hc, (by unfold notCls; rw [hv]), (by rw [hd]; exact (N _ m2).1)⟩ hga hgh hm (findObj_own hh ha rfl hl) hw h
theorem own_goes {M : Model} {E : Value → Shared → Prop} {Q : Unit → Shared → Prop} (F : Fr h₀ L s.heap m) (N : News h₀ L s.heap news)
    (h : ∀ h' v, Fr h₀ L h' (fun x => if x = n then v else m x) → News h₀ L h' news → Q () { s with heap := h', toks := s.toks + 1 })
    (hk : cs.kind = .function := by rfl) (hl : (envX cn cs L a ccd cl).kindOf n = some .local := by rfl) :
    wpAny M A (do bindName (envX cn cs L a ccd cl) n .none; unbindBehindTheSuite (envX cn cs L a ccd cl) n pos) Q E s :=
  wpAny_nameGoes_keeps hl F.ns (by show (cs.kind == .class || (cs.kind == .module && L != mainGlobals)) = false; rw [hk]; rfl) fun h' v hn hs => h h' v (F.set hn hs) (N.set hs)
end
section
variable {M : Model} {E₁ E₂ : Value → Shared → Prop} {s : Shared} {base h₀ g₁ g₂ : Heap} {L L₁ L₂ e d : Addr} {m m₁ m₂ : Str → Option Value} {oe od : Obj} {vs : Array Value} {rest : List (Addr × Obj)}
theorem own_home2 {A₁ : Around} {law : Env} {n1 n2 : Str} {sc1 sc2 : Scope} {a1 a2 : Addr} {c1 c2 : Value} {Q : Unit → Shared → Prop} (hlf : law.frame = some L) (K₁ : Below A₁ base (envOf n1 sc1 L₁ a1 c1 :: [law]) g₂) (k2 : sc2.kind = .function)
    (F₂ : Fr g₂ L₂ s.heap m₂) (F₁ : Fr g₁ L₁ g₂ m₁) (F₀ : Fr h₀ L g₁ m) (N : News g₂ L₂ s.heap ((d, od) :: (e, oe) :: rest)) (hde : @LT.lt Nat _ e d) (hne : ∀ q ∈ rest, q.1 ≠ e) (hd : oe.data = .fields vs) (h1 : vs[1]? = some .none)
    (k : ∀ h' B, ExAt B [law] e oe.cls oe.dict (some .none) h' → h₀.get? e = none → (∀ h'', B.StaysIn h'' → h'.UpToSlots h'' → Fr h₀ L h'' m ∧ News h₀ L h'' ((d, od) :: rest)) → Q () { s with heap := h' }) :
    wpAny M (A₁.deeper (envOf n2 sc2 L₂ a2 c2)) (leaving (envOf n2 sc2 L₂ a2 c2) (.ref e)) (fun _ s₁ => wpAny M A₁ (leaving (envOf n1 sc1 L₁ a1 c1) (.ref e)) (fun _ s₂ => Q () s₂) E₁ s₁) E₂ s :=
  own_home hlf K₁ k2 F₂ F₁ F₀ (rest := (d, od) :: rest) (fun q hq => N q (by
    rcases List.mem_cons.mp hq with rfl | hq
    · exact .tail _ (.head _)
    · rcases List.mem_cons.mp hq with rfl | hq
      · exact .head _
      · exact .tail _ (.tail _ hq))) (fun q hq => by
    rcases List.mem_cons.mp hq with rfl | hq
    · exact Nat.ne_of_gt hde
    · exact hne q hq) hd h1 k
end

section
variable {prog : Program} {w : World} {K : Frag} {C : Addr} {E : Value → Shared → Prop} {s : Shared} {h₀ : Heap} {L e d t : Addr} {dd : Option Addr} {od : Obj} {m : Str → Option Value} {rest : List (Addr × Obj)}
theorem own_up (F : Fr h₀ L s.heap m) (X : K.In h₀) (N : News h₀ L s.heap ((d, od) :: (e, excO C dd t) :: rest)) (h : E (.ref e) s) : OwnUp K C E (.ref e) s :=
  ⟨e, dd, t, rfl, X.keeps F.keep, (N _ (.tail _ (.head _))).1, h⟩
end
section
variable {M : Model} {E₁ E₂ : Value → Shared → Prop} {s : Shared} {base h₀ g₁ g₂ : Heap} {L L₁ L₂ e d C t : Addr} {m m₁ m₂ : Str → Option Value} {dd : Option Addr} {od : Obj} {rest : List (Addr × Obj)}
theorem own_home3 {A₁ : Around} {law : Env} {n1 n2 : Str} {sc1 sc2 : Scope} {a1 a2 : Addr} {c1 c2 : Value} {Q : Shared → Prop} (hlf : law.frame = some L) (K₁ : Below A₁ base (envOf n1 sc1 L₁ a1 c1 :: [law]) g₂) (k2 : sc2.kind = .function)
    (F₂ : Fr g₂ L₂ s.heap m₂) (F₁ : Fr g₁ L₁ g₂ m₁) (F₀ : Fr h₀ L g₁ m) (N : News g₂ L₂ s.heap ((d, od) :: (e, excO C dd t) :: rest)) (hde : @LT.lt Nat _ e d) (hne : ∀ q ∈ rest, q.1 ≠ e)
    (k : ∀ h' B, ExAt B [law] e (.ref C) dd (some .none) h' → h₀.get? e = none → (∀ h'', B.StaysIn h'' → h'.UpToSlots h'' → Fr h₀ L h'' m ∧ News h₀ L h'' ((d, od) :: rest)) → Q { s with heap := h' }) :
    wpAny M (A₁.deeper (envOf n2 sc2 L₂ a2 c2)) (leaving (envOf n2 sc2 L₂ a2 c2) (.ref e)) (fun _ s₁ => wpAny M A₁ (leaving (envOf n1 sc1 L₁ a1 c1) (.ref e)) (fun _ s₂ => Q s₂) E₁ s₁) E₂ s :=
  own_home2 (Q := fun _ => Q) hlf K₁ k2 F₂ F₁ F₀ N hde hne rfl rfl k
end

local macro_rules | `(tactic| walk_at "exec Raise some none") => `(tactic| (k_here; k_dflt (refine' raise_own ?X ?hh (qe_own _) ?_; (case X => k_asm); (case hh => exact rfl))))
local macro_rules | `(tactic| walk_at "call ref") => `(tactic| (k_here; (with_reducible show wpAny _ _ (call (Value.ref 45) [Value.int _ _, Value.int _ _, Value.str _ _]) _ _ _); k_dflt (refine' exc_made ?F ?X ?N (qe_own _) (qe_init _) ?hf ?hz ?_; (case F => k_asm); (case X => k_asm); (case N => k_asm); (case hf => k_is); (case hz => exact Nat.le_of_ble_eq_true rfl)); intro h9 e9 t9 F9 N9 ne9 nt9 te9; (try dsimp only)))
local macro_rules | `(tactic| walk_at "getMethod type:Exception") => `(tactic| (k_here; refine' method_type ?F ?X ?m (by decide +kernel) ?e ?h ?_; (case F => k_asm); (case X => k_asm); (case m => exact meta_exc); (case e => k_dflt k_is); (case h => k_handed)))
local macro_rules | `(tactic| walk_at "call builtin:Exception.__init__") => `(tactic| (k_here; k_dflt (refine' exc_init ?F ?X ?N (qe_own _) ?hne ?hz ?_; (case F => k_asm); (case X => k_asm); (case N => k_asm); (case hne => exact List.forall_mem_cons.mpr ⟨by assumption, by assumption⟩); (case hz => exact Nat.le_of_ble_eq_true rfl)); intro h9 t8 F9 N9 le8 lr8; (try dsimp only)))
local macro_rules | `(tactic| walk_at "setAttr ref") => `(tactic| (k_here; (with_reducible show wpAny _ _ (setAttr (Value.ref _) _ _) _ _ _); k_dflt (refine' set_exc0 ?F ?X ?N (qe_own _) ?hne ?hs ?ht ?_; (case F => k_asm); (case X => k_asm); (case N => k_asm); (case hne => exact List.forall_mem_cons.mpr ⟨Nat.ne_of_gt (by assumption), List.forall_mem_cons.mpr ⟨by assumption, by assumption⟩⟩); (case hs => k_is); (case ht => k_is)); intro h9 d8 F9 N9 le7 lr7; (try dsimp only)))
local macro_rules | `(tactic| walk_at "setAttr ref") => `(tactic| (k_here; (with_reducible show wpAny _ _ (setAttr (Value.ref _) _ _) _ _ _); k_dflt (refine' set_exc1h ?F ?X ?N (qe_own _) ?hs ?ht ?hl ?ee ?hz ?le ?lr ?_; (case F => k_asm); (case X => k_asm); (case N => k_asm); (case hs => k_is); (case ht => k_is); (case hl => k_get); (case ee => k_put); (case hz => exact Nat.le_of_ble_eq_true rfl); (case le => assumption); (case lr => assumption)); intro h9 F9 N9; (try dsimp only)))

local macro_rules | `(tactic| walk_at "getAttr ref") => `(tactic| (k_here; k_dflt (refine' get_excL ?F ?X ?N ?m1 ?hc ?hd ?hv ?m2 ?hga ?hgh ?hm ?hh ?ha ?hl ?hw ?_; (case F => k_asm); (case X => k_asm); (case N => k_asm); (case hc => assumption); (case m1 => k_mem); (case hd => assumption); (case hv => assumption); (case m2 => k_mem); (case hga => k_is); (case hgh => k_is); (case hm => k_is); (case hh => k_is); (case ha => k_is); (case hl => k_get); (case hw => rfl); k_whole); (try dsimp only)))
local macro_rules | `(tactic| walk_at "bind") => `(tactic| (k_here; k_dflt (refine' own_goes ?F ?N ?_; (case F => k_asm); (case N => k_asm)); intro h9 v9 F9 N9; (try dsimp only); (try k_sweep)))

section
variable {w : World} {fa : Addr} {A₀ : Around} {base h₀ : Heap} {L : Addr} {mr u : Str → Option Value} {s : Shared} {Q : Flow → Shared → Prop} {E : Value → Shared → Prop} {p : Program} {loose : List Str} {mean : ExcName → Option Value} {mg mb : Str → Option Value}
  {tb l box cd c co fl rd rm kn us td I t1 t2 tr : Addr} {oI flo oco oce otb okn otd : Obj} {tc trm tu : Nat → Tok} {vc : Nat → Value} {vs : List Value} {ns : List Int} {k kk : Int} {t tt uu tk1 tk2 tfp tdv : Tok} {nu nb nl : Nat} {y : Array UInt8} {emp : Bool}
theorem last_empty (X : (heapK w.params).In h₀) (B : Below A₀ base [] h₀) (F : Fr h₀ L s.heap (mapT u (.bytes #[] tdv) c box mr))
    (N : News h₀ L s.heap [(c, instObj 308 cd), (cd, dictOf (cnEs w tc vc fl rm true (.bytes #[] tfp)) 21), (rm, instObj 140 rd), (rd, dictOf (rmEs w trm tu kn us td tr true) 8), (kn, okn), (t1, tup2 (.bytes #[] tk1) .none), (td, otd), (t2, tup2 (.bytes #[] tk2) .none), (us, listOf #[.int 0 uu] nu), (box, listOf #[.ref l, .int k t] nb), (l, listOf vs.toArray nl), (fl, flo), (co, oco), ((L + 1 : Nat), oce), (tb, otb)])
    (T : Top p loose mean mg mb h₀) (hi : IntsAre vs ns) (hlen : ns.length ≤ 16) (h0 : 0 ≤ k) (h1 : k < 90)
    (hC : Chain tb (L + 1) l box cd c co fl rd rm kn us td I) (hP : Pairs kn us td t1 t2 I) (dk : okn.IsDictOf (intKind PySem.Challenge.rw_pf0269_01.row.prog w) [(0, .ref t1)]) (dt : otd.IsDictOf (intKind PySem.Challenge.rw_pf0269_01.row.prog w) [(0, .ref t2)]) (lok : (kn == sysModules) = false) (lot : (td == sysModules) = false)
    (hret : ∀ m' news' h' tk', Fr h₀ L h' m' → News h₀ L h' news' → (tb, otb) ∈ news' → Q (.ret (.bool true)) { s with heap := h', toks := tk' }) :
    wpAny (model PySem.Challenge.rw_pf0269_01.row.prog w) (callerA.deeper (lawEnv L fa)) (execs lastBody.1 (lawEnv L fa)) Q E s := by
  revert X
  k_fill
  intro X
  obtain ⟨c1, c2, c3, c4, c5, c6, c7, c8, c9, c10, c11, c12, c13⟩ := hC
  obtain ⟨p1, p2, p3, p4, p5, p6, p7⟩ := hP
  dsimp only [lastBody, lawEnv, lawFn]
  k_steps
  refine' own_up ?F ?X ?N ?_
  case F => k_asm
  case X => k_asm
  case N => k_asm
  k_unfold
  try dsimp only
  refine' own_home3 (law := lawEnv L fa) ?hlf ?K1 ?k2 ?F2 ?F1 ?F0 ?N ?hde ?hne ?k
  case hlf => exact rfl
  case k2 => exact rfl
  case K1 => k_asm
  case F2 => k_asm
  case F1 => k_asm
  case F0 => k_asm
  case N => k_asm
  case hde => assumption
  case hne => exact List.forall_mem_cons.mpr ⟨Nat.ne_of_gt (by assumption), List.forall_mem_cons.mpr ⟨by assumption, by assumption⟩⟩
  intro h9 B9 X9 e9 back9
  try dsimp only
  k_dflt (refine' own_caught (h₀ := h₀) (L := L) (cn := PySem.Str.ofString "law") rfl X9 ?XK ?P ?ex (qe_kts _) e9 back9 ?kk)
  case XK => k_asm
  case P => k_asm
  case ex => k_is
  intro h8 tk8 oe8 vs8 E8 F8 N8 hc8 hd8 hv8
  clear X9 back9
  try dsimp only
  (try k_sweep)
  k_steps
  exact hret _ _ _ _ (by k_asm) (by k_asm) (by first | assumption | k_mem)

end

end
end
section
variable {w : World} {fa : Addr} {A₀ : Around} {base h₀ : Heap} {L : Addr} {mr : Str → Option Value} {s : Shared} {Qf : Flow → Shared → Prop} {E : Value → Shared → Prop} {p : Program} {loose : List Str} {mean : ExcName → Option Value} {mg mb : Str → Option Value}
  {tb l box cd c co fl rd rm kn us td tr : Addr} {flo oco oce otb : Obj} {tc trm tu : Nat → Tok} {vc : Nat → Value} {vs : List Value} {ns : List Int} {uu : Tok} {nu nb nl : Nat} 
theorem law_loop {b : Bool} {r : Addr} {b₀ : Int} {q₀ q₁ q₂ : Tok} {m₀ : Str → Option Value} {nx₀ news : List (Addr × Obj)} {Q : Flow → Shared → Prop} (X : (heapK w.params).In h₀) (B : Below A₀ base [] h₀) (T : Top p loose mean mg mb h₀) (hi : IntsAre vs ns) (hlen : ns.length ≤ 16)
    (hC : ChainJ tb (L + 1) l box cd c co fl rd rm kn us td) (hce : oce.data = .cell (some (.bool b))) (hCb : CallsB w p loose mean mg mb fl [(fl, flo), (co, oco), ((L + 1 : Nat), oce), (tb, otb)] b)
    (lok : (kn == sysModules) = false) (lot : (td == sysModules) = false)
    (hr : IsRange s.heap r 0 b₀ 1 q₀ q₁ q₂) (hb0 : 0 ≤ b₀) (hb1 : b₀ < 5) (F : Fr h₀ L s.heap m₀) (N : News h₀ L s.heap nx₀)
    (st : StN w c cd rm rd kn us td tr fl box l co tb L oco oce otb flo tc trm tu vc uu nu nl nb vs mr 0 m₀ nx₀)
    (hQ : ∀ s', wpAny (model PySem.Challenge.rw_pf0269_01.row.prog w) (callerA.deeper (lawEnv L fa)) (execs lastBody.1 (lawEnv L fa)) Q E s' → Qf .next s')
    (hret : ∀ m' news' h' tk', Fr h₀ L h' m' → News h₀ L h' news' → (tb, otb) ∈ news' → Q (.ret (.bool true)) { s with heap := h', toks := tk' }) :
    wpAny (model PySem.Challenge.rw_pf0269_01.row.prog w) (callerA.deeper (lawEnv L fa)) (pyIter (.ref r)) (fun it s₂ => LoopAtV PySem.Challenge.rw_pf0269_01.row.prog w (callerA.deeper (lawEnv L fa)) h₀ (lawEnv L fa) (PySem.Str.ofString "turn") turnBody.1 Qf E it s₂) E s := by
  refine loop_cut (news := news) X B T hi hlen hC hce hCb hr hb0 hb1 F N st ?_ ?_
  · rintro i m nx h tk hi4 ⟨u, okn, otd, t1, t2, tk1, tk2, tfp, k, t, rfl, rfl, hk0, hk1, ⟨p1, p2, p3, p4, p5⟩, dk, dt⟩ F₁ N₁
    obtain ⟨c1, c2, c3, c4, c5, c6, c7, c8, c9, c10, c11, c12⟩ := hC
    have C : Chain tb (L + 1) l box cd c co fl rd rm kn us td ((td + t1 + t2 + 1 : Nat)) := ⟨c1, c2, c3, c4, c5, c6, c7, c8, c9, c10, c11, c12, lt_sum⟩
    have P : Pairs kn us td t1 t2 ((td + t1 + t2 + 1 : Nat)) := ⟨p1, p2, p3, p4, p5, ne_sum1, ne_sum2⟩
    exact hQ _ (last_one X B F₁ N₁ T hi hlen hk0 (k_94 hk1 hi4) C P dk dt lok lot (due_none w) rfl hret)
  · rintro i m nx h tk hi4 ⟨u, okn, otd, t1, t2, tk1, tk2, tfp, k, t, y, tdv, hy, rfl, rfl, hk0, hk1, ⟨p1, p2, p3, p4, p5⟩, dk, dt⟩ F₁ N₁
    obtain ⟨c1, c2, c3, c4, c5, c6, c7, c8, c9, c10, c11, c12⟩ := hC
    have C : Chain tb (L + 1) l box cd c co fl rd rm kn us td ((td + t1 + t2 + 1 : Nat)) := ⟨c1, c2, c3, c4, c5, c6, c7, c8, c9, c10, c11, c12, lt_sum⟩
    have P : Pairs kn us td t1 t2 ((td + t1 + t2 + 1 : Nat)) := ⟨p1, p2, p3, p4, p5, ne_sum1, ne_sum2⟩
    rcases hy with rfl | rfl | rfl
    · exact hQ _ (last_empty X B F₁ N₁ T hi hlen hk0 (k_94 hk1 hi4) C P dk dt lok lot hret)
    · exact hQ _ (last_one X B F₁ N₁ T hi hlen hk0 (k_94 hk1 hi4) C P dk dt lok lot (due_bytes w rfl) rfl hret)
    · exact hQ _ (last_one X B F₁ N₁ T hi hlen hk0 (k_94 hk1 hi4) C P dk dt lok lot (due_bytes w rfl) rfl hret)
end

section
variable {w : World} {fa : Addr} {A₀ : Around} {base h₀ : Heap} {L : Addr} {mr : Str → Option Value} {s : Shared} {Qf : Flow → Shared → Prop} {E : Value → Shared → Prop} {p : Program} {loose : List Str} {mean : ExcName → Option Value} {mg mb : Str → Option Value}
  {tb l box cd c co fl rd rm kn us td tr : Addr} {oco oce otb : Obj} {tc trm tu : Nat → Tok} {vc : Nat → Value} {vs : List Value} {ns : List Int} {uu : Tok} {nu nb nl : Nat} 
theorem law_loop2 {nm qual : Str} {pmv ctv : Value} {vs' : Array Value} {t' : Tok} {ps : Pos} {b : Bool} {r : Addr} {b₀ : Int} {q₀ q₁ q₂ : Tok} {m₀ : Str → Option Value} {nx₀ news : List (Addr × Obj)} {Q : Flow → Shared → Prop} (X : (heapK w.params).In h₀) (B : Below A₀ base [] h₀) (T : Top p loose mean mg mb h₀) (hi : IntsAre vs ns) (hlen : ns.length ≤ 16)
    (hC : ChainJ tb (L + 1) l box cd c co fl rd rm kn us td) (hce : oce.data = .cell (some (.bool b))) (d1 : oco.data = .fields vs') (d2 : vs'[1]? = some (.str qual t'))
    (lok : (kn == sysModules) = false) (lot : (td == sysModules) = false)
    (hr : IsRange s.heap r 0 b₀ 1 q₀ q₁ q₂) (hb0 : 0 ≤ b₀) (hb1 : b₀ < 5) (F : Fr h₀ L s.heap m₀) (N : News h₀ L s.heap nx₀)
    (st : StN w c cd rm rd kn us td tr fl box l co tb L oco oce otb (kla_obj nm qual { posonlyargs := [], args := [], vararg := none, kwonlyargs := [], kw_defaults := [], kwarg := none, defaults := [] } (PySem.Expr.Name (PySem.Str.ofString "is_client") ps) { kind := .function, names := [(PySem.Str.ofString "is_client", .free)], isGenerator := false, isCoroutine := false } [(PySem.Str.ofString "is_client", (L + 1 : Nat))] pmv co ctv) tc trm tu vc uu nu nl nb vs mr 0 m₀ nx₀)
    (hQ : ∀ s', wpAny (model PySem.Challenge.rw_pf0269_01.row.prog w) (callerA.deeper (lawEnv L fa)) (execs lastBody.1 (lawEnv L fa)) Q E s' → Qf .next s')
    (hret : ∀ m' news' h' tk', Fr h₀ L h' m' → News h₀ L h' news' → (tb, otb) ∈ news' → Q (.ret (.bool true)) { s with heap := h', toks := tk' }) :
    wpAny (model PySem.Challenge.rw_pf0269_01.row.prog w) (callerA.deeper (lawEnv L fa)) (pyIter (.ref r)) (fun it s₂ => LoopAtV PySem.Challenge.rw_pf0269_01.row.prog w (callerA.deeper (lawEnv L fa)) h₀ (lawEnv L fa) (PySem.Str.ofString "turn") turnBody.1 Qf E it s₂) E s :=
  law_loop (news := news) X B T hi hlen hC hce (lam_calls d1 d2 hce) lok lot hr hb0 hb1 F N st hQ hret
end

/-- the walk stops here -/
structure Hold (P : Prop) : Prop where
  out : P
local macro_rules | `(tactic| walk_at "pyIter ref") => `(tactic| (k_here; (with_reducible show wpAny _ _ (pyIter (Value.ref _)) (fun it s₂ => LoopAtV _ _ _ _ _ _ _ _ _ it s₂) _ _); refine Hold.out ?_))

theorem law_holds : PySem.Challenge.rw_pf0269_01.Holds := by
  w_on
  o_law
  refine holds_open (q := viewQ) (loose := []) (Xt := fun s => xlAt viewQ [] s && recOk (RowW.records PySem.Challenge.rw_pf0269_01.row.toRowW) s) (XP := XL viewQ []) (Yf := Hook.obs hook) (Ya := Hook.val hook) (YP := Hook.says hook) (N := 4286) left (Hook.of hook) (Hook.keeps hook) (fun s e => xl_of s (Bool.and_eq_true_iff.mp e).1) XL.keeps (by rfl) (by rfl) (by rfl) (fun s e => recFacts_of (Bool.and_eq_true_iff.mp e).2) (by rfl) (by first | assumption | decide +kernel) (by decide +kernel) ⟨rfl, rfl, rfl, rfl, rfl, by decide +kernel⟩ ?hw ?hc
  case hw => w_witness2
  w_strict (k_go0; (all_goals try k_fold); k_steps)
  refine ⟨?_⟩
  k_dflt (with_unfolding_all refine' law_loop2 (news := []) (tb := 321) (tc := nth [_, _, _, _, _, _, _, _, _, _, _, _, _, _, _, _, _, _, _, _, _] 0) (vc := nth [_, _, _, _, _, _, _, _, _, _, _, _, _, _, _, _, _] .none) ?X ?B ?T ?hi ?hlen ?hC ?hce ?d1 ?d2 ?lok ?lot ?hr ?b0 ?b1 ?F ?N ?st (fun _ h => h) ?ret)
  (case X => k_asm)
  (case B => k_asm)
  (case T => k_asm)
  (case F => k_asm)
  (case hr => assumption)
  (case' st => refine' ⟨_,_,_,_,_,_,_,_,_,_, mapT_of rfl rfl rfl (fun _ _ _ _ _ _ => rfl), rfl, ?k0, ?k1, ⟨?p1,?p2,?p3,?p4,?p5⟩, ?dk, ?dt⟩)
  (case' N => refine' cb_drop ?n1 (List.forall_mem_cons.mpr ⟨?e1, List.forall_mem_cons.mpr ⟨?e2, List.forall_mem_cons.mpr ⟨?e3, List.forall_mem_cons.mpr ⟨?e4, List.forall_mem_cons.mpr ⟨?e5, List.forall_mem_cons.mpr ⟨?e6, List.forall_mem_cons.mpr ⟨?e7, List.forall_mem_cons.mpr ⟨?e8, List.forall_mem_cons.mpr ⟨?e9, List.forall_mem_cons.mpr ⟨?e10, List.forall_mem_cons.mpr ⟨?e11, List.forall_mem_cons.mpr ⟨?e12, List.forall_mem_cons.mpr ⟨?e13, List.forall_mem_cons.mpr ⟨?e14, List.forall_mem_cons.mpr ⟨?e15, List.forall_mem_nil _⟩⟩⟩⟩⟩⟩⟩⟩⟩⟩⟩⟩⟩⟩⟩))
  (case n1 => assumption)
  (case e1 => k_mem)
  (case e2 => k_mem)
  (case e3 => k_mem)
  (case e4 => k_mem)
  (case e5 => k_mem)
  (case dk => assumption)
  (case e6 => k_mem)
  (case e7 => k_mem)
  (case dt => assumption)
  (case e8 => k_mem)
  (case e9 => k_mem)
  (case e10 => k_mem)
  (case e11 => k_mem)
  (case e12 => k_mem)
  (case e13 => k_mem)
  (case e14 => k_mem)
  (case e15 => k_mem)
  (case d1 => assumption)
  (case d2 => assumption)
  (case hce => assumption)
  (case hi => assumption)
  (case hlen => omega)
  (case hC => exact ⟨by omega, by omega, by omega, by omega, by omega, by omega, by omega, by omega, by omega, by omega, by omega, by omega⟩)
  (case lok => exact lo_of (by omega))
  (case lot => exact lo_of (by omega))
  (case b0 => omega)
  (case b1 => omega)
  (case k0 => omega)
  (case k1 => omega)
  (case p1 => omega)
  (case p2 => omega)
  (case p3 => omega)
  (case p4 => omega)
  (case p5 => omega)
  k_dflt (case' ret => (intro m9 n9 h9 tk9 F9 N9 G9; (try dsimp only); refine And.intro ?_ (And.intro (GrownAt.of N9 G9) True.intro)))
  (try dsimp only)
  k_steps
end Mine
theorem PySem.Challenge.cw_pf0269_01_holds : PySem.Challenge.rw_pf0269_01.Holds :=
  Mine.law_holds
