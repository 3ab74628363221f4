import PyProof.Rows.All
import Wide.All
import OpenK.AllK
import Wide.FinOn
import PySem.Challenge.RW_pq0616_02
open PySem PySem.W PyProof.Rows
set_option Elab.async false
set_option maxRecDepth 100000
set_option linter.all false
set_option maxHeartbeats 8000000
namespace Mine
noncomputable section
abbrev PG : Program := PySem.Challenge.rw_pq0616_02.row.toRowW.prog
/-- a statement of the text, by its number -/
def stAt (i : Nat) : Stmt := (PySem.Challenge.pw_pq0616_02.main.body[i]?).getD (.Pass ⟨0, 0, 0, 0⟩)
def fnOf : Stmt → Arguments × List Stmt × Scope
  | .FunctionDef _ a b _ _ _ sc _ _ _ => (a, b, sc)
  | _ => (⟨[], [], none, [], [], none, []⟩, [], ⟨.module, [], false, false, []⟩)
def clsOf : Stmt → Stmt
  | .ClassDef _ _ _ (s :: _) _ _ _ _ _ _ _ => s
  | s => s
def PK (P : Params) : Frag := [
  (3, { cls := Value.type "dict", data := Data.dict #[{ hash := PyData.keyHash P (Str.ofString "__name__"), key := Value.str (Str.ofString "__name__") 165, val := Value.str (Str.ofString "law_pq0616_02") 450 }, { hash := PyData.keyHash P (Str.ofString "__doc__"), key := Value.str (Str.ofString "__doc__") 166, val := Value.none }, { hash := PyData.keyHash P (Str.ofString "__package__"), key := Value.str (Str.ofString "__package__") 167, val := Value.none }, { hash := PyData.keyHash P (Str.ofString "__loader__"), key := Value.str (Str.ofString "__loader__") 168, val := Value.builtin "__main__.__loader__#opaque" }, { hash := PyData.keyHash P (Str.ofString "__spec__"), key := Value.str (Str.ofString "__spec__") 169, val := Value.none }, { hash := PyData.keyHash P (Str.ofString "__annotations__"), key := Value.str (Str.ofString "__annotations__") 170, val := Value.ref 6 }, { hash := PyData.keyHash P (Str.ofString "__builtins__"), key := Value.str (Str.ofString "__builtins__") 171, val := Value.ref 4 }, { hash := PyData.keyHash P (Str.ofString "__file__"), key := Value.str (Str.ofString "__file__") 173, val := Value.str (Str.ofString "/claim/cut.py") 172 }, { hash := PyData.keyHash P (Str.ofString "__cached__"), key := Value.str (Str.ofString "__cached__") 174, val := Value.none }, { hash := PyData.keyHash P (Str.ofString "LedgerError"), key := Value.str (Str.ofString "LedgerError") 228, val := Value.ref 40 }, { hash := PyData.keyHash P (Str.ofString "RunFault"), key := Value.str (Str.ofString "RunFault") 244, val := Value.ref 53 }, { hash := PyData.keyHash P (Str.ofString "lies_at"), key := Value.str (Str.ofString "lies_at") 255, val := Value.ref 62 }, { hash := PyData.keyHash P (Str.ofString "first_at"), key := Value.str (Str.ofString "first_at") 265, val := Value.ref 69 }, { hash := PyData.keyHash P (Str.ofString "sent_part"), key := Value.str (Str.ofString "sent_part") 274, val := Value.ref 76 }, { hash := PyData.keyHash P (Str.ofString "strung"), key := Value.str (Str.ofString "strung") 289, val := Value.ref 83 }, { hash := PyData.keyHash P (Str.ofString "delimiter_at"), key := Value.str (Str.ofString "delimiter_at") 300, val := Value.ref 90 }, { hash := PyData.keyHash P (Str.ofString "behind_delimiter"), key := Value.str (Str.ofString "behind_delimiter") 311, val := Value.ref 97 }, { hash := PyData.keyHash P (Str.ofString "next_piece"), key := Value.str (Str.ofString "next_piece") 322, val := Value.ref 104 }, { hash := PyData.keyHash P (Str.ofString "unstrung"), key := Value.str (Str.ofString "unstrung") 336, val := Value.ref 111 }, { hash := PyData.keyHash P (Str.ofString "cut_by_sizes"), key := Value.str (Str.ofString "cut_by_sizes") 348, val := Value.ref 118 }, { hash := PyData.keyHash P (Str.ofString "Hands"), key := Value.str (Str.ofString "Hands") 389, val := Value.ref 135 }, { hash := PyData.keyHash P (Str.ofString "lone_octets"), key := Value.str (Str.ofString "lone_octets") 397, val := Value.ref 146 }, { hash := PyData.keyHash P (Str.ofString "pointed"), key := Value.str (Str.ofString "pointed") 405, val := Value.ref 153 }, { hash := PyData.keyHash P (Str.ofString "moved_on"), key := Value.str (Str.ofString "moved_on") 414, val := Value.ref 160 }, { hash := PyData.keyHash P (Str.ofString "string_with"), key := Value.str (Str.ofString "string_with") 429, val := Value.ref 167 }, { hash := PyData.keyHash P (Str.ofString "lay_pieces"), key := Value.str (Str.ofString "lay_pieces") 443, val := Value.ref 174 }, { hash := PyData.keyHash P (Str.ofString "unstring_with"), key := Value.str (Str.ofString "unstring_with") 449, val := Value.ref 179 }, { hash := PyData.keyHash P (Str.ofString "_law_pen"), key := Value.str (Str.ofString "_law_pen") 457, val := Value.ref 184 }, { hash := PyData.keyHash P (Str.ofString "_law_draw"), key := Value.str (Str.ofString "_law_draw") 470, val := Value.ref 191 }, { hash := PyData.keyHash P (Str.ofString "_law_pick"), key := Value.str (Str.ofString "_law_pick") 478, val := Value.ref 198 }, { hash := PyData.keyHash P (Str.ofString "_law_ref"), key := Value.str (Str.ofString "_law_ref") 485, val := Value.ref 205 }, { hash := PyData.keyHash P (Str.ofString "_law_keep"), key := Value.str (Str.ofString "_law_keep") 494, val := Value.ref 212 }, { hash := PyData.keyHash P (Str.ofString "_law_hands"), key := Value.str (Str.ofString "_law_hands") 504, val := Value.ref 219 }, { hash := PyData.keyHash P (Str.ofString "_law_due"), key := Value.str (Str.ofString "_law_due") 517, val := Value.ref 226 }, { hash := PyData.keyHash P (Str.ofString "_law_cut_right"), key := Value.str (Str.ofString "_law_cut_right") 523, val := Value.ref 231 }, { hash := PyData.keyHash P (Str.ofString "_law_step_right"), key := Value.str (Str.ofString "_law_step_right") 537, val := Value.ref 238 }, { hash := PyData.keyHash P (Str.ofString "_law_laid_right"), key := Value.str (Str.ofString "_law_laid_right") 543, val := Value.ref 243 }, { hash := PyData.keyHash P (Str.ofString "law"), key := Value.str (Str.ofString "law") 549, val := Value.ref 248 }] 38 }),
  (131, { cls := Value.type "code", data := Data.fields #[Value.str (Str.ofString "__init__") 361, Value.str (Str.ofString "Hands.__init__") 362, Value.str (Str.ofString "/claim/cut.py") 363, Value.int 78 0, Value.int 8 0, Value.int 0 0, Value.int 0 0, Value.int 3 0, Value.ref 126, Value.bool true, Value.int 181 0, Value.ref 127, Value.none, Value.ref 128, Value.ref 129, Value.ref 130, Value.int 372 0, Value.int 78 0, Value.str (Str.ofString "/claim/cut.py") 373] }),
  (132, { cls := Value.type "function", data := Data.func (fnX (Str.ofString "__init__") (Str.ofString "Hands.__init__") (fnOf (clsOf (stAt 13))).1 (fnOf (clsOf (stAt 13))).2.1 (fnOf (clsOf (stAt 13))).2.2 [] .none .none .none (Value.str (Str.ofString "ledgerspeak.stringing") 245) none (Value.ref 131) .none) }),
  (134, { cls := Value.type "dict", data := Data.dict #[{ hash := PyData.keyHash P (Str.ofString "__module__"), key := Value.str (Str.ofString "__module__") 356, val := Value.str (Str.ofString "ledgerspeak.stringing") 245 }, { hash := PyData.keyHash P (Str.ofString "__firstlineno__"), key := Value.str (Str.ofString "__firstlineno__") 360, val := Value.int 76 359 }, { hash := PyData.keyHash P (Str.ofString "__init__"), key := Value.str (Str.ofString "__init__") 374, val := Value.ref 132 }, { hash := PyData.keyHash P (Str.ofString "__static_attributes__"), key := Value.str (Str.ofString "__static_attributes__") 382, val := Value.ref 133 }, { hash := PyData.keyHash P (Str.ofString "__dict__"), key := Value.str (Str.ofString "__dict__") 384, val := Value.ref 136 }, { hash := PyData.keyHash P (Str.ofString "__weakref__"), key := Value.str (Str.ofString "__weakref__") 386, val := Value.ref 137 }, { hash := PyData.keyHash P (Str.ofString "__doc__"), key := Value.str (Str.ofString "__doc__") 387, val := Value.none }] 4 }),
  (135, { cls := Value.type "type", data := Data.cls { name := Str.ofString "Hands", bases := [Value.type "object"], mro := [Value.ref 135, Value.type "object"], ns := 134, qualname := Str.ofString "Hands" }, slots := #[none, none, some (Value.str (Str.ofString "Hands") 349), some (Value.str (Str.ofString "Hands") 357), some (Value.builtin "object.__new__"), some (Value.bool true)] }),
  (218, { cls := Value.type "code", data := Data.fields #[Value.str (Str.ofString "_law_hands") 495, Value.str (Str.ofString "_law_hands") 496, Value.str (Str.ofString "/claim/cut.py") 497, Value.int 151 0, Value.int 2 0, Value.int 0 0, Value.int 0 0, Value.int 3 0, Value.ref 213, Value.bool true, Value.int 181 0, Value.ref 214, Value.none, Value.ref 215, Value.ref 216, Value.ref 217, Value.int 502 0, Value.int 151 0, Value.str (Str.ofString "/claim/cut.py") 503] }),
  (219, { cls := Value.type "function", data := Data.func (fnX (Str.ofString "_law_hands") (Str.ofString "_law_hands") (fnOf (stAt 26)).1 (fnOf (stAt 26)).2.1 (fnOf (stAt 26)).2.2 [] .none .none .none (Value.str (Str.ofString "law_pq0616_02") 450) none (Value.ref 218) .none) })]
def PA : List Addr := [3, 131, 132, 134, 135, 218, 219]
abbrev PT : Addr := 214

def vw : Program := { PG with main := { PG.main with body := [1,2,4,5,6,7,8,9,10,11,12,13,14,15,16,17,18,19,21,22,23,24,25,26,27,28,29,30,31].map stAt } }
abbrev HH := kmHook PK PA (fun _ => by kernel_rfl) [214]
/-! the top in pieces: the states between them, written out -/
def subAt (s : Stmt) (j : Nat) : Stmt := match s with
  | .ClassDef _ _ _ ss _ _ _ _ _ _ _ => (ss[j]?).getD s
  | s => s
def ob11v1 (P : Params) : Obj := { cls := Value.type "tuple", data := Data.seq #[] }
def ob12v1 (P : Params) : Obj := { cls := Value.none, data := Data.fields #[] }
def ob13v1 (P : Params) : Obj := { cls := Value.type "code", data := Data.fields #[Value.str (Str.ofString "<module>") 182, Value.str (Str.ofString "<module>") 183, Value.str (Str.ofString "/claim/cut.py") 184, Value.int 1 0, Value.int 0 0, Value.int 0 0, Value.int 0 0, Value.int 0 0, Value.ref 11, Value.bool false, Value.int 181 0, Value.ref 12, Value.none, Value.none, Value.none, Value.none, Value.int 185 0, Value.int 1 0, Value.str (Str.ofString "/claim/cut.py") 186] }
def ob14v1 (P : Params) : Obj := { cls := Value.type "frame", slots := #[some (Value.ref 13), some (Value.ref 3), some (Value.ref 3), none, some (Value.str (Str.ofString "__main__") 164), none, some (Value.ref 0)] }
def hp0 (P : Params) : Heap := ⟨#[boot_o_0 P, boot_o_1 P, boot_o_2 P, boot_o_3 P, boot_o_4 P, boot_o_5 P, boot_o_6 P, boot_o_7 P, boot_o_8 P, boot_o_9 P, boot_o_10 P, ob11v1 P, ob12v1 P, ob13v1 P, ob14v1 P], { }⟩
abbrev sh0 (w : World) (os : OsState) : Shared := ⟨hp0 w.params, #[], { }, 187, os⟩
def ob2v2 (P : Params) : Obj := { cls := Value.none, data := Data.dict #[{ hash := PyData.keyHash P (Str.ofString "type.__subclasses__.Exception.0"), key := Value.str (Str.ofString "type.__subclasses__.Exception.0") 225, val := Value.int 40 0 }, { hash := PyData.keyHash P (Str.ofString "type.__subclasses__.Exception.n"), key := Value.str (Str.ofString "type.__subclasses__.Exception.n") 226, val := Value.int 1 0 }] 2 }
def ob3v2 (P : Params) : Obj := { cls := Value.type "dict", data := Data.dict #[{ hash := PyData.keyHash P (Str.ofString "__name__"), key := Value.str (Str.ofString "__name__") 165, val := Value.str (Str.ofString "ledgerspeak.errors") 187 }, { hash := PyData.keyHash P (Str.ofString "__doc__"), key := Value.str (Str.ofString "__doc__") 166, val := Value.none }, { hash := PyData.keyHash P (Str.ofString "__package__"), key := Value.str (Str.ofString "__package__") 167, val := Value.none }, { hash := PyData.keyHash P (Str.ofString "__loader__"), key := Value.str (Str.ofString "__loader__") 168, val := Value.builtin "__main__.__loader__#opaque" }, { hash := PyData.keyHash P (Str.ofString "__spec__"), key := Value.str (Str.ofString "__spec__") 169, val := Value.none }, { hash := PyData.keyHash P (Str.ofString "__annotations__"), key := Value.str (Str.ofString "__annotations__") 170, val := Value.ref 6 }, { hash := PyData.keyHash P (Str.ofString "__builtins__"), key := Value.str (Str.ofString "__builtins__") 171, val := Value.ref 4 }, { hash := PyData.keyHash P (Str.ofString "__file__"), key := Value.str (Str.ofString "__file__") 173, val := Value.str (Str.ofString "/claim/cut.py") 172 }, { hash := PyData.keyHash P (Str.ofString "__cached__"), key := Value.str (Str.ofString "__cached__") 174, val := Value.none }, { hash := PyData.keyHash P (Str.ofString "LedgerError"), key := Value.str (Str.ofString "LedgerError") 228, val := Value.ref 40 }] 10 }
def ob12v2 (P : Params) : Obj := { cls := Value.none, data := Data.fields #[Value.int 2 0, Value.int 0 0, Value.ref 20] }
def ob15v2 (P : Params) : Obj := { cls := Value.type "tuple", data := Data.seq #[Value.type "Exception"] }
def ob16v2 (P : Params) : Obj := { cls := Value.type "builtin_function_or_method", data := Data.fields #[Value.builtin "type.__prepare__", Value.type "type"] }
def ob17v2 (P : Params) : Obj := { cls := Value.type "dict", data := Data.dict #[{ hash := PyData.keyHash P (Str.ofString "__module__"), key := Value.str (Str.ofString "__module__") 196, val := Value.str (Str.ofString "ledgerspeak.errors") 187 }, { hash := PyData.keyHash P (Str.ofString "__qualname__"), key := Value.str (Str.ofString "__qualname__") 198, val := Value.str (Str.ofString "LedgerError") 197 }, { hash := PyData.keyHash P (Str.ofString "__firstlineno__"), key := Value.str (Str.ofString "__firstlineno__") 200, val := Value.int 2 199 }, { hash := PyData.keyHash P (Str.ofString "__init__"), key := Value.str (Str.ofString "__init__") 211, val := Value.ref 30 }, { hash := PyData.keyHash P (Str.ofString "told"), key := Value.str (Str.ofString "told") 218, val := Value.ref 37 }, { hash := PyData.keyHash P (Str.ofString "__static_attributes__"), key := Value.str (Str.ofString "__static_attributes__") 221, val := Value.ref 38 }] 6 }
def ob18v2 (P : Params) : Obj := { cls := Value.type "tuple", data := Data.seq #[] }
def ob19v2 (P : Params) : Obj := { cls := Value.none, data := Data.fields #[Value.int 4 0, Value.int 4 0, Value.ref 29, Value.int 9 0, Value.int 4 0, Value.ref 36] }
def ob20v2 (P : Params) : Obj := { cls := Value.type "code", data := Data.fields #[Value.str (Str.ofString "LedgerError") 191, Value.str (Str.ofString "LedgerError") 192, Value.str (Str.ofString "/claim/cut.py") 193, Value.int 2 0, Value.int 0 0, Value.int 0 0, Value.int 0 0, Value.int 0 0, Value.ref 18, Value.bool false, Value.int 181 0, Value.ref 19, Value.none, Value.none, Value.none, Value.none, Value.int 194 0, Value.int 2 0, Value.str (Str.ofString "/claim/cut.py") 195] }
def ob21v2 (P : Params) : Obj := { cls := Value.type "frame", slots := #[some (Value.ref 20), some (Value.ref 3), some (Value.ref 17), none, some (Value.str (Str.ofString "ledgerspeak.errors") 187), none, some (Value.ref 0)] }
def ob22v2 (P : Params) : Obj := { cls := Value.type "tuple", data := Data.seq #[Value.int 0 201, Value.int 0 202] }
def ob23v2 (P : Params) : Obj := { cls := Value.type "tuple", data := Data.seq #[Value.ref 22] }
def ob24v2 (P : Params) : Obj := { cls := Value.type "tuple", data := Data.seq #[] }
def ob25v2 (P : Params) : Obj := { cls := Value.none, data := Data.fields #[] }
def ob26v2 (P : Params) : Obj := { cls := Value.type "tuple", data := Data.seq #[Value.str (Str.ofString "self") 206, Value.str (Str.ofString "what") 207, Value.str (Str.ofString "at") 208] }
def ob27v2 (P : Params) : Obj := { cls := Value.type "tuple", data := Data.seq #[] }
def ob28v2 (P : Params) : Obj := { cls := Value.none, data := Data.func { name := Str.ofString "__init__", qualname := Str.ofString "LedgerError.__init__", params := (fnOf (subAt (stAt 1) 0)).1, body := (FuncBody.stmts (fnOf (subAt (stAt 1) 0)).2.1), scope := (fnOf (subAt (stAt 1) 0)).2.2, globals := 0, closure := [], defaults := Value.none, kwdefaults := Value.none } }
def ob29v2 (P : Params) : Obj := { cls := Value.type "code", data := Data.fields #[Value.str (Str.ofString "__init__") 203, Value.str (Str.ofString "LedgerError.__init__") 204, Value.str (Str.ofString "/claim/cut.py") 205, Value.int 4 0, Value.int 3 0, Value.int 0 0, Value.int 0 0, Value.int 3 0, Value.ref 24, Value.bool true, Value.int 181 0, Value.ref 25, Value.none, Value.ref 26, Value.ref 27, Value.ref 28, Value.int 209 0, Value.int 4 0, Value.str (Str.ofString "/claim/cut.py") 210] }
def ob30v2 (P : Params) : Obj := { cls := Value.type "function", data := Data.func { name := Str.ofString "__init__", qualname := Str.ofString "LedgerError.__init__", params := (fnOf (subAt (stAt 1) 0)).1, body := (FuncBody.stmts (fnOf (subAt (stAt 1) 0)).2.1), scope := (fnOf (subAt (stAt 1) 0)).2.2, globals := 3, closure := [], defaults := Value.ref 23, kwdefaults := Value.none, pyModule := Value.str (Str.ofString "ledgerspeak.errors") 187, code := Value.ref 29 } }
def ob31v2 (P : Params) : Obj := { cls := Value.type "tuple", data := Data.seq #[] }
def ob32v2 (P : Params) : Obj := { cls := Value.none, data := Data.fields #[] }
def ob33v2 (P : Params) : Obj := { cls := Value.type "tuple", data := Data.seq #[Value.str (Str.ofString "self") 215] }
def ob34v2 (P : Params) : Obj := { cls := Value.type "tuple", data := Data.seq #[] }
def ob35v2 (P : Params) : Obj := { cls := Value.none, data := Data.func { name := Str.ofString "told", qualname := Str.ofString "LedgerError.told", params := (fnOf (subAt (stAt 1) 1)).1, body := (FuncBody.stmts (fnOf (subAt (stAt 1) 1)).2.1), scope := (fnOf (subAt (stAt 1) 1)).2.2, globals := 0, closure := [], defaults := Value.none, kwdefaults := Value.none } }
def ob36v2 (P : Params) : Obj := { cls := Value.type "code", data := Data.fields #[Value.str (Str.ofString "told") 212, Value.str (Str.ofString "LedgerError.told") 213, Value.str (Str.ofString "/claim/cut.py") 214, Value.int 9 0, Value.int 1 0, Value.int 0 0, Value.int 0 0, Value.int 3 0, Value.ref 31, Value.bool true, Value.int 181 0, Value.ref 32, Value.none, Value.ref 33, Value.ref 34, Value.ref 35, Value.int 216 0, Value.int 9 0, Value.str (Str.ofString "/claim/cut.py") 217] }
def ob37v2 (P : Params) : Obj := { cls := Value.type "function", data := Data.func { name := Str.ofString "told", qualname := Str.ofString "LedgerError.told", params := (fnOf (subAt (stAt 1) 1)).1, body := (FuncBody.stmts (fnOf (subAt (stAt 1) 1)).2.1), scope := (fnOf (subAt (stAt 1) 1)).2.2, globals := 3, closure := [], defaults := Value.none, kwdefaults := Value.none, pyModule := Value.str (Str.ofString "ledgerspeak.errors") 187, code := Value.ref 36 } }
def ob38v2 (P : Params) : Obj := { cls := Value.type "tuple", data := Data.seq #[Value.str (Str.ofString "at") 219, Value.str (Str.ofString "what") 220] }
def ob39v2 (P : Params) : Obj := { cls := Value.type "dict", data := Data.dict #[{ hash := PyData.keyHash P (Str.ofString "__module__"), key := Value.str (Str.ofString "__module__") 196, val := Value.str (Str.ofString "ledgerspeak.errors") 187 }, { hash := PyData.keyHash P (Str.ofString "__firstlineno__"), key := Value.str (Str.ofString "__firstlineno__") 200, val := Value.int 2 199 }, { hash := PyData.keyHash P (Str.ofString "__init__"), key := Value.str (Str.ofString "__init__") 211, val := Value.ref 30 }, { hash := PyData.keyHash P (Str.ofString "told"), key := Value.str (Str.ofString "told") 218, val := Value.ref 37 }, { hash := PyData.keyHash P (Str.ofString "__static_attributes__"), key := Value.str (Str.ofString "__static_attributes__") 221, val := Value.ref 38 }, { hash := PyData.keyHash P (Str.ofString "__weakref__"), key := Value.str (Str.ofString "__weakref__") 223, val := Value.ref 41 }, { hash := PyData.keyHash P (Str.ofString "__doc__"), key := Value.str (Str.ofString "__doc__") 224, val := Value.none }] 3 }
def ob40v2 (P : Params) : Obj := { cls := Value.type "type", data := Data.cls { name := Str.ofString "LedgerError", bases := [Value.type "Exception"], mro := [Value.ref 40, Value.type "Exception", Value.type "BaseException", Value.type "object"], ns := 39, qualname := Str.ofString "LedgerError" }, slots := #[some (Value.ref 15), none, some (Value.str (Str.ofString "LedgerError") 189), some (Value.str (Str.ofString "LedgerError") 197), some (Value.builtin "Exception.__new__"), some (Value.bool true)] }
def ob41v2 (P : Params) : Obj := { cls := Value.type "getset_descriptor", data := Data.fields #[Value.str (Str.ofString "__weakref__") 222, Value.ref 40, Value.builtin "ExceptionGroup.__weakref__", Value.none] }
def ob42v2 (P : Params) : Obj := { cls := Value.type "super", data := Data.fields #[Value.ref 40, Value.ref 40, Value.ref 40] }
def ob43v2 (P : Params) : Obj := { cls := Value.type "builtin_function_or_method", data := Data.fields #[Value.builtin "object.__init_subclass__", Value.ref 40] }
def hp1 (P : Params) : Heap := ⟨#[boot_o_0 P, boot_o_1 P, ob2v2 P, ob3v2 P, boot_o_4 P, boot_o_5 P, boot_o_6 P, boot_o_7 P, boot_o_8 P, boot_o_9 P, boot_o_10 P, ob11v1 P, ob12v2 P, ob13v1 P, ob14v1 P, ob15v2 P, ob16v2 P, ob17v2 P, ob18v2 P, ob19v2 P, ob20v2 P, ob21v2 P, ob22v2 P, ob23v2 P, ob24v2 P, ob25v2 P, ob26v2 P, ob27v2 P, ob28v2 P, ob29v2 P, ob30v2 P, ob31v2 P, ob32v2 P, ob33v2 P, ob34v2 P, ob35v2 P, ob36v2 P, ob37v2 P, ob38v2 P, ob39v2 P, ob40v2 P, ob41v2 P, ob42v2 P, ob43v2 P], { }⟩
abbrev sh1 (w : World) (os : OsState) : Shared := ⟨hp1 w.params, #[], { }, 229, os⟩
def ob3v3 (P : Params) : Obj := { cls := Value.type "dict", data := Data.dict #[{ hash := PyData.keyHash P (Str.ofString "__name__"), key := Value.str (Str.ofString "__name__") 165, val := Value.str (Str.ofString "ledgerspeak.stringing") 245 }, { hash := PyData.keyHash P (Str.ofString "__doc__"), key := Value.str (Str.ofString "__doc__") 166, val := Value.none }, { hash := PyData.keyHash P (Str.ofString "__package__"), key := Value.str (Str.ofString "__package__") 167, val := Value.none }, { hash := PyData.keyHash P (Str.ofString "__loader__"), key := Value.str (Str.ofString "__loader__") 168, val := Value.builtin "__main__.__loader__#opaque" }, { hash := PyData.keyHash P (Str.ofString "__spec__"), key := Value.str (Str.ofString "__spec__") 169, val := Value.none }, { hash := PyData.keyHash P (Str.ofString "__annotations__"), key := Value.str (Str.ofString "__annotations__") 170, val := Value.ref 6 }, { hash := PyData.keyHash P (Str.ofString "__builtins__"), key := Value.str (Str.ofString "__builtins__") 171, val := Value.ref 4 }, { hash := PyData.keyHash P (Str.ofString "__file__"), key := Value.str (Str.ofString "__file__") 173, val := Value.str (Str.ofString "/claim/cut.py") 172 }, { hash := PyData.keyHash P (Str.ofString "__cached__"), key := Value.str (Str.ofString "__cached__") 174, val := Value.none }, { hash := PyData.keyHash P (Str.ofString "LedgerError"), key := Value.str (Str.ofString "LedgerError") 228, val := Value.ref 40 }, { hash := PyData.keyHash P (Str.ofString "RunFault"), key := Value.str (Str.ofString "RunFault") 244, val := Value.ref 53 }, { hash := PyData.keyHash P (Str.ofString "lies_at"), key := Value.str (Str.ofString "lies_at") 255, val := Value.ref 62 }, { hash := PyData.keyHash P (Str.ofString "first_at"), key := Value.str (Str.ofString "first_at") 265, val := Value.ref 69 }] 13 }
def ob12v3 (P : Params) : Obj := { cls := Value.none, data := Data.fields #[Value.int 2 0, Value.int 0 0, Value.ref 20, Value.int 11 0, Value.int 0 0, Value.ref 49, Value.int 14 0, Value.int 0 0, Value.ref 61, Value.int 16 0, Value.int 0 0, Value.ref 68] }
def ob40v3 (P : Params) : Obj := { cls := Value.type "type", data := Data.cls { name := Str.ofString "LedgerError", bases := [Value.type "Exception"], mro := [Value.ref 40, Value.type "Exception", Value.type "BaseException", Value.type "object"], ns := 39, qualname := Str.ofString "LedgerError", subclasses := [Value.ref 53] }, slots := #[some (Value.ref 15), none, some (Value.str (Str.ofString "LedgerError") 189), some (Value.str (Str.ofString "LedgerError") 197), some (Value.builtin "Exception.__new__"), some (Value.bool true)] }
def ob44v3 (P : Params) : Obj := { cls := Value.type "tuple", data := Data.seq #[Value.ref 40] }
def ob45v3 (P : Params) : Obj := { cls := Value.type "builtin_function_or_method", data := Data.fields #[Value.builtin "type.__prepare__", Value.type "type"] }
def ob46v3 (P : Params) : Obj := { cls := Value.type "dict", data := Data.dict #[{ hash := PyData.keyHash P (Str.ofString "__module__"), key := Value.str (Str.ofString "__module__") 236, val := Value.str (Str.ofString "ledgerspeak.errors") 187 }, { hash := PyData.keyHash P (Str.ofString "__qualname__"), key := Value.str (Str.ofString "__qualname__") 238, val := Value.str (Str.ofString "RunFault") 237 }, { hash := PyData.keyHash P (Str.ofString "__firstlineno__"), key := Value.str (Str.ofString "__firstlineno__") 240, val := Value.int 11 239 }, { hash := PyData.keyHash P (Str.ofString "__static_attributes__"), key := Value.str (Str.ofString "__static_attributes__") 241, val := Value.ref 51 }] 4 }
def ob47v3 (P : Params) : Obj := { cls := Value.type "tuple", data := Data.seq #[] }
def ob48v3 (P : Params) : Obj := { cls := Value.none, data := Data.fields #[] }
def ob49v3 (P : Params) : Obj := { cls := Value.type "code", data := Data.fields #[Value.str (Str.ofString "RunFault") 231, Value.str (Str.ofString "RunFault") 232, Value.str (Str.ofString "/claim/cut.py") 233, Value.int 11 0, Value.int 0 0, Value.int 0 0, Value.int 0 0, Value.int 0 0, Value.ref 47, Value.bool false, Value.int 181 0, Value.ref 48, Value.none, Value.none, Value.none, Value.none, Value.int 234 0, Value.int 11 0, Value.str (Str.ofString "/claim/cut.py") 235] }
def ob50v3 (P : Params) : Obj := { cls := Value.type "frame", slots := #[some (Value.ref 49), some (Value.ref 3), some (Value.ref 46), none, some (Value.str (Str.ofString "ledgerspeak.errors") 187), none, some (Value.ref 0)] }
def ob51v3 (P : Params) : Obj := { cls := Value.type "tuple", data := Data.seq #[] }
def ob52v3 (P : Params) : Obj := { cls := Value.type "dict", data := Data.dict #[{ hash := PyData.keyHash P (Str.ofString "__module__"), key := Value.str (Str.ofString "__module__") 236, val := Value.str (Str.ofString "ledgerspeak.errors") 187 }, { hash := PyData.keyHash P (Str.ofString "__firstlineno__"), key := Value.str (Str.ofString "__firstlineno__") 240, val := Value.int 11 239 }, { hash := PyData.keyHash P (Str.ofString "__static_attributes__"), key := Value.str (Str.ofString "__static_attributes__") 241, val := Value.ref 51 }, { hash := PyData.keyHash P (Str.ofString "__doc__"), key := Value.str (Str.ofString "__doc__") 242, val := Value.none }] 2 }
def ob53v3 (P : Params) : Obj := { cls := Value.type "type", data := Data.cls { name := Str.ofString "RunFault", bases := [Value.ref 40], mro := [Value.ref 53, Value.ref 40, Value.type "Exception", Value.type "BaseException", Value.type "object"], ns := 52, qualname := Str.ofString "RunFault" }, slots := #[some (Value.ref 44), none, some (Value.str (Str.ofString "RunFault") 229), some (Value.str (Str.ofString "RunFault") 237), some (Value.builtin "Exception.__new__"), some (Value.bool true)] }
def ob54v3 (P : Params) : Obj := { cls := Value.type "super", data := Data.fields #[Value.ref 53, Value.ref 53, Value.ref 53] }
def ob55v3 (P : Params) : Obj := { cls := Value.type "builtin_function_or_method", data := Data.fields #[Value.builtin "object.__init_subclass__", Value.ref 53] }
def ob56v3 (P : Params) : Obj := { cls := Value.type "tuple", data := Data.seq #[] }
def ob57v3 (P : Params) : Obj := { cls := Value.none, data := Data.fields #[] }
def ob58v3 (P : Params) : Obj := { cls := Value.type "tuple", data := Data.seq #[Value.str (Str.ofString "octets") 250, Value.str (Str.ofString "wanted") 251, Value.str (Str.ofString "at") 252] }
def ob59v3 (P : Params) : Obj := { cls := Value.type "tuple", data := Data.seq #[] }
def ob60v3 (P : Params) : Obj := { cls := Value.none, data := Data.func { name := Str.ofString "lies_at", qualname := Str.ofString "lies_at", params := (fnOf (stAt 4)).1, body := (FuncBody.stmts (fnOf (stAt 4)).2.1), scope := (fnOf (stAt 4)).2.2, globals := 0, closure := [], defaults := Value.none, kwdefaults := Value.none } }
def ob61v3 (P : Params) : Obj := { cls := Value.type "code", data := Data.fields #[Value.str (Str.ofString "lies_at") 247, Value.str (Str.ofString "lies_at") 248, Value.str (Str.ofString "/claim/cut.py") 249, Value.int 14 0, Value.int 3 0, Value.int 0 0, Value.int 0 0, Value.int 3 0, Value.ref 56, Value.bool true, Value.int 181 0, Value.ref 57, Value.none, Value.ref 58, Value.ref 59, Value.ref 60, Value.int 253 0, Value.int 14 0, Value.str (Str.ofString "/claim/cut.py") 254] }
def ob62v3 (P : Params) : Obj := { cls := Value.type "function", data := Data.func { name := Str.ofString "lies_at", qualname := Str.ofString "lies_at", params := (fnOf (stAt 4)).1, body := (FuncBody.stmts (fnOf (stAt 4)).2.1), scope := (fnOf (stAt 4)).2.2, globals := 3, closure := [], defaults := Value.none, kwdefaults := Value.none, pyModule := Value.str (Str.ofString "ledgerspeak.stringing") 245, code := Value.ref 61 } }
def ob63v3 (P : Params) : Obj := { cls := Value.type "tuple", data := Data.seq #[] }
def ob64v3 (P : Params) : Obj := { cls := Value.none, data := Data.fields #[] }
def ob65v3 (P : Params) : Obj := { cls := Value.type "tuple", data := Data.seq #[Value.str (Str.ofString "octets") 259, Value.str (Str.ofString "wanted") 260, Value.str (Str.ofString "begin") 261, Value.str (Str.ofString "at") 262] }
def ob66v3 (P : Params) : Obj := { cls := Value.type "tuple", data := Data.seq #[] }
def ob67v3 (P : Params) : Obj := { cls := Value.none, data := Data.func { name := Str.ofString "first_at", qualname := Str.ofString "first_at", params := (fnOf (stAt 5)).1, body := (FuncBody.stmts (fnOf (stAt 5)).2.1), scope := (fnOf (stAt 5)).2.2, globals := 0, closure := [], defaults := Value.none, kwdefaults := Value.none } }
def ob68v3 (P : Params) : Obj := { cls := Value.type "code", data := Data.fields #[Value.str (Str.ofString "first_at") 256, Value.str (Str.ofString "first_at") 257, Value.str (Str.ofString "/claim/cut.py") 258, Value.int 16 0, Value.int 3 0, Value.int 0 0, Value.int 0 0, Value.int 3 0, Value.ref 63, Value.bool true, Value.int 181 0, Value.ref 64, Value.none, Value.ref 65, Value.ref 66, Value.ref 67, Value.int 263 0, Value.int 16 0, Value.str (Str.ofString "/claim/cut.py") 264] }
def ob69v3 (P : Params) : Obj := { cls := Value.type "function", data := Data.func { name := Str.ofString "first_at", qualname := Str.ofString "first_at", params := (fnOf (stAt 5)).1, body := (FuncBody.stmts (fnOf (stAt 5)).2.1), scope := (fnOf (stAt 5)).2.2, globals := 3, closure := [], defaults := Value.none, kwdefaults := Value.none, pyModule := Value.str (Str.ofString "ledgerspeak.stringing") 245, code := Value.ref 68 } }
def hp2 (P : Params) : Heap := ⟨#[boot_o_0 P, boot_o_1 P, ob2v2 P, ob3v3 P, boot_o_4 P, boot_o_5 P, boot_o_6 P, boot_o_7 P, boot_o_8 P, boot_o_9 P, boot_o_10 P, ob11v1 P, ob12v3 P, ob13v1 P, ob14v1 P, ob15v2 P, ob16v2 P, ob17v2 P, ob18v2 P, ob19v2 P, ob20v2 P, ob21v2 P, ob22v2 P, ob23v2 P, ob24v2 P, ob25v2 P, ob26v2 P, ob27v2 P, ob28v2 P, ob29v2 P, ob30v2 P, ob31v2 P, ob32v2 P, ob33v2 P, ob34v2 P, ob35v2 P, ob36v2 P, ob37v2 P, ob38v2 P, ob39v2 P, ob40v3 P, ob41v2 P, ob42v2 P, ob43v2 P, ob44v3 P, ob45v3 P, ob46v3 P, ob47v3 P, ob48v3 P, ob49v3 P, ob50v3 P, ob51v3 P, ob52v3 P, ob53v3 P, ob54v3 P, ob55v3 P, ob56v3 P, ob57v3 P, ob58v3 P, ob59v3 P, ob60v3 P, ob61v3 P, ob62v3 P, ob63v3 P, ob64v3 P, ob65v3 P, ob66v3 P, ob67v3 P, ob68v3 P, ob69v3 P], { }⟩
abbrev sh2 (w : World) (os : OsState) : Shared := ⟨hp2 w.params, #[], { }, 266, os⟩
def ob3v4 (P : Params) : Obj := { cls := Value.type "dict", data := Data.dict #[{ hash := PyData.keyHash P (Str.ofString "__name__"), key := Value.str (Str.ofString "__name__") 165, val := Value.str (Str.ofString "ledgerspeak.stringing") 245 }, { hash := PyData.keyHash P (Str.ofString "__doc__"), key := Value.str (Str.ofString "__doc__") 166, val := Value.none }, { hash := PyData.keyHash P (Str.ofString "__package__"), key := Value.str (Str.ofString "__package__") 167, val := Value.none }, { hash := PyData.keyHash P (Str.ofString "__loader__"), key := Value.str (Str.ofString "__loader__") 168, val := Value.builtin "__main__.__loader__#opaque" }, { hash := PyData.keyHash P (Str.ofString "__spec__"), key := Value.str (Str.ofString "__spec__") 169, val := Value.none }, { hash := PyData.keyHash P (Str.ofString "__annotations__"), key := Value.str (Str.ofString "__annotations__") 170, val := Value.ref 6 }, { hash := PyData.keyHash P (Str.ofString "__builtins__"), key := Value.str (Str.ofString "__builtins__") 171, val := Value.ref 4 }, { hash := PyData.keyHash P (Str.ofString "__file__"), key := Value.str (Str.ofString "__file__") 173, val := Value.str (Str.ofString "/claim/cut.py") 172 }, { hash := PyData.keyHash P (Str.ofString "__cached__"), key := Value.str (Str.ofString "__cached__") 174, val := Value.none }, { hash := PyData.keyHash P (Str.ofString "LedgerError"), key := Value.str (Str.ofString "LedgerError") 228, val := Value.ref 40 }, { hash := PyData.keyHash P (Str.ofString "RunFault"), key := Value.str (Str.ofString "RunFault") 244, val := Value.ref 53 }, { hash := PyData.keyHash P (Str.ofString "lies_at"), key := Value.str (Str.ofString "lies_at") 255, val := Value.ref 62 }, { hash := PyData.keyHash P (Str.ofString "first_at"), key := Value.str (Str.ofString "first_at") 265, val := Value.ref 69 }, { hash := PyData.keyHash P (Str.ofString "sent_part"), key := Value.str (Str.ofString "sent_part") 274, val := Value.ref 76 }, { hash := PyData.keyHash P (Str.ofString "strung"), key := Value.str (Str.ofString "strung") 289, val := Value.ref 83 }, { hash := PyData.keyHash P (Str.ofString "delimiter_at"), key := Value.str (Str.ofString "delimiter_at") 300, val := Value.ref 90 }, { hash := PyData.keyHash P (Str.ofString "behind_delimiter"), key := Value.str (Str.ofString "behind_delimiter") 311, val := Value.ref 97 }, { hash := PyData.keyHash P (Str.ofString "next_piece"), key := Value.str (Str.ofString "next_piece") 322, val := Value.ref 104 }, { hash := PyData.keyHash P (Str.ofString "unstrung"), key := Value.str (Str.ofString "unstrung") 336, val := Value.ref 111 }, { hash := PyData.keyHash P (Str.ofString "cut_by_sizes"), key := Value.str (Str.ofString "cut_by_sizes") 348, val := Value.ref 118 }] 20 }
def ob12v4 (P : Params) : Obj := { cls := Value.none, data := Data.fields #[Value.int 2 0, Value.int 0 0, Value.ref 20, Value.int 11 0, Value.int 0 0, Value.ref 49, Value.int 14 0, Value.int 0 0, Value.ref 61, Value.int 16 0, Value.int 0 0, Value.ref 68, Value.int 23 0, Value.int 0 0, Value.ref 75, Value.int 28 0, Value.int 0 0, Value.ref 82, Value.int 41 0, Value.int 0 0, Value.ref 89, Value.int 48 0, Value.int 0 0, Value.ref 96, Value.int 53 0, Value.int 0 0, Value.ref 103, Value.int 59 0, Value.int 0 0, Value.ref 110, Value.int 67 0, Value.int 0 0, Value.ref 117] }
def ob70v4 (P : Params) : Obj := { cls := Value.type "tuple", data := Data.seq #[] }
def ob71v4 (P : Params) : Obj := { cls := Value.none, data := Data.fields #[] }
def ob72v4 (P : Params) : Obj := { cls := Value.type "tuple", data := Data.seq #[Value.str (Str.ofString "octets") 269, Value.str (Str.ofString "delimiter") 270, Value.str (Str.ofString "at") 271] }
def ob73v4 (P : Params) : Obj := { cls := Value.type "tuple", data := Data.seq #[] }
def ob74v4 (P : Params) : Obj := { cls := Value.none, data := Data.func { name := Str.ofString "sent_part", qualname := Str.ofString "sent_part", params := (fnOf (stAt 6)).1, body := (FuncBody.stmts (fnOf (stAt 6)).2.1), scope := (fnOf (stAt 6)).2.2, globals := 0, closure := [], defaults := Value.none, kwdefaults := Value.none } }
def ob75v4 (P : Params) : Obj := { cls := Value.type "code", data := Data.fields #[Value.str (Str.ofString "sent_part") 266, Value.str (Str.ofString "sent_part") 267, Value.str (Str.ofString "/claim/cut.py") 268, Value.int 23 0, Value.int 2 0, Value.int 0 0, Value.int 0 0, Value.int 3 0, Value.ref 70, Value.bool true, Value.int 181 0, Value.ref 71, Value.none, Value.ref 72, Value.ref 73, Value.ref 74, Value.int 272 0, Value.int 23 0, Value.str (Str.ofString "/claim/cut.py") 273] }
def ob76v4 (P : Params) : Obj := { cls := Value.type "function", data := Data.func { name := Str.ofString "sent_part", qualname := Str.ofString "sent_part", params := (fnOf (stAt 6)).1, body := (FuncBody.stmts (fnOf (stAt 6)).2.1), scope := (fnOf (stAt 6)).2.2, globals := 3, closure := [], defaults := Value.none, kwdefaults := Value.none, pyModule := Value.str (Str.ofString "ledgerspeak.stringing") 245, code := Value.ref 75 } }
def ob77v4 (P : Params) : Obj := { cls := Value.type "tuple", data := Data.seq #[] }
def ob78v4 (P : Params) : Obj := { cls := Value.none, data := Data.fields #[] }
def ob79v4 (P : Params) : Obj := { cls := Value.type "tuple", data := Data.seq #[Value.str (Str.ofString "rows") 278, Value.str (Str.ofString "goal") 279, Value.str (Str.ofString "begin") 280, Value.str (Str.ofString "following") 281, Value.str (Str.ofString "octets") 282, Value.str (Str.ofString "delimiter") 283, Value.str (Str.ofString "piece") 284, Value.str (Str.ofString "room") 285, Value.str (Str.ofString "head") 286] }
def ob80v4 (P : Params) : Obj := { cls := Value.type "tuple", data := Data.seq #[] }
def ob81v4 (P : Params) : Obj := { cls := Value.none, data := Data.func { name := Str.ofString "strung", qualname := Str.ofString "strung", params := (fnOf (stAt 7)).1, body := (FuncBody.stmts (fnOf (stAt 7)).2.1), scope := (fnOf (stAt 7)).2.2, globals := 0, closure := [], defaults := Value.none, kwdefaults := Value.none } }
def ob82v4 (P : Params) : Obj := { cls := Value.type "code", data := Data.fields #[Value.str (Str.ofString "strung") 275, Value.str (Str.ofString "strung") 276, Value.str (Str.ofString "/claim/cut.py") 277, Value.int 28 0, Value.int 3 0, Value.int 0 0, Value.int 0 0, Value.int 3 0, Value.ref 77, Value.bool true, Value.int 181 0, Value.ref 78, Value.none, Value.ref 79, Value.ref 80, Value.ref 81, Value.int 287 0, Value.int 28 0, Value.str (Str.ofString "/claim/cut.py") 288] }
def ob83v4 (P : Params) : Obj := { cls := Value.type "function", data := Data.func { name := Str.ofString "strung", qualname := Str.ofString "strung", params := (fnOf (stAt 7)).1, body := (FuncBody.stmts (fnOf (stAt 7)).2.1), scope := (fnOf (stAt 7)).2.2, globals := 3, closure := [], defaults := Value.none, kwdefaults := Value.none, pyModule := Value.str (Str.ofString "ledgerspeak.stringing") 245, code := Value.ref 82 } }
def ob84v4 (P : Params) : Obj := { cls := Value.type "tuple", data := Data.seq #[] }
def ob85v4 (P : Params) : Obj := { cls := Value.none, data := Data.fields #[] }
def ob86v4 (P : Params) : Obj := { cls := Value.type "tuple", data := Data.seq #[Value.str (Str.ofString "octets") 293, Value.str (Str.ofString "delimiters") 294, Value.str (Str.ofString "at") 295, Value.str (Str.ofString "mark") 296, Value.str (Str.ofString "is_all") 297] }
def ob87v4 (P : Params) : Obj := { cls := Value.type "tuple", data := Data.seq #[] }
def ob88v4 (P : Params) : Obj := { cls := Value.none, data := Data.func { name := Str.ofString "delimiter_at", qualname := Str.ofString "delimiter_at", params := (fnOf (stAt 8)).1, body := (FuncBody.stmts (fnOf (stAt 8)).2.1), scope := (fnOf (stAt 8)).2.2, globals := 0, closure := [], defaults := Value.none, kwdefaults := Value.none } }
def ob89v4 (P : Params) : Obj := { cls := Value.type "code", data := Data.fields #[Value.str (Str.ofString "delimiter_at") 290, Value.str (Str.ofString "delimiter_at") 291, Value.str (Str.ofString "/claim/cut.py") 292, Value.int 41 0, Value.int 3 0, Value.int 0 0, Value.int 0 0, Value.int 3 0, Value.ref 84, Value.bool true, Value.int 181 0, Value.ref 85, Value.none, Value.ref 86, Value.ref 87, Value.ref 88, Value.int 298 0, Value.int 41 0, Value.str (Str.ofString "/claim/cut.py") 299] }
def ob90v4 (P : Params) : Obj := { cls := Value.type "function", data := Data.func { name := Str.ofString "delimiter_at", qualname := Str.ofString "delimiter_at", params := (fnOf (stAt 8)).1, body := (FuncBody.stmts (fnOf (stAt 8)).2.1), scope := (fnOf (stAt 8)).2.2, globals := 3, closure := [], defaults := Value.none, kwdefaults := Value.none, pyModule := Value.str (Str.ofString "ledgerspeak.stringing") 245, code := Value.ref 89 } }
def ob91v4 (P : Params) : Obj := { cls := Value.type "tuple", data := Data.seq #[] }
def ob92v4 (P : Params) : Obj := { cls := Value.none, data := Data.fields #[] }
def ob93v4 (P : Params) : Obj := { cls := Value.type "tuple", data := Data.seq #[Value.str (Str.ofString "octets") 304, Value.str (Str.ofString "mark") 305, Value.str (Str.ofString "is_all") 306, Value.str (Str.ofString "at") 307, Value.str (Str.ofString "behind") 308] }
def ob94v4 (P : Params) : Obj := { cls := Value.type "tuple", data := Data.seq #[] }
def ob95v4 (P : Params) : Obj := { cls := Value.none, data := Data.func { name := Str.ofString "behind_delimiter", qualname := Str.ofString "behind_delimiter", params := (fnOf (stAt 9)).1, body := (FuncBody.stmts (fnOf (stAt 9)).2.1), scope := (fnOf (stAt 9)).2.2, globals := 0, closure := [], defaults := Value.none, kwdefaults := Value.none } }
def ob96v4 (P : Params) : Obj := { cls := Value.type "code", data := Data.fields #[Value.str (Str.ofString "behind_delimiter") 301, Value.str (Str.ofString "behind_delimiter") 302, Value.str (Str.ofString "/claim/cut.py") 303, Value.int 48 0, Value.int 4 0, Value.int 0 0, Value.int 0 0, Value.int 3 0, Value.ref 91, Value.bool true, Value.int 181 0, Value.ref 92, Value.none, Value.ref 93, Value.ref 94, Value.ref 95, Value.int 309 0, Value.int 48 0, Value.str (Str.ofString "/claim/cut.py") 310] }
def ob97v4 (P : Params) : Obj := { cls := Value.type "function", data := Data.func { name := Str.ofString "behind_delimiter", qualname := Str.ofString "behind_delimiter", params := (fnOf (stAt 9)).1, body := (FuncBody.stmts (fnOf (stAt 9)).2.1), scope := (fnOf (stAt 9)).2.2, globals := 3, closure := [], defaults := Value.none, kwdefaults := Value.none, pyModule := Value.str (Str.ofString "ledgerspeak.stringing") 245, code := Value.ref 96 } }
def ob98v4 (P : Params) : Obj := { cls := Value.type "tuple", data := Data.seq #[] }
def ob99v4 (P : Params) : Obj := { cls := Value.none, data := Data.fields #[] }
def ob100v4 (P : Params) : Obj := { cls := Value.type "tuple", data := Data.seq #[Value.str (Str.ofString "octets") 315, Value.str (Str.ofString "delimiters") 316, Value.str (Str.ofString "begin") 317, Value.str (Str.ofString "at") 318, Value.str (Str.ofString "hit") 319] }
def ob101v4 (P : Params) : Obj := { cls := Value.type "tuple", data := Data.seq #[] }
def ob102v4 (P : Params) : Obj := { cls := Value.none, data := Data.func { name := Str.ofString "next_piece", qualname := Str.ofString "next_piece", params := (fnOf (stAt 10)).1, body := (FuncBody.stmts (fnOf (stAt 10)).2.1), scope := (fnOf (stAt 10)).2.2, globals := 0, closure := [], defaults := Value.none, kwdefaults := Value.none } }
def ob103v4 (P : Params) : Obj := { cls := Value.type "code", data := Data.fields #[Value.str (Str.ofString "next_piece") 312, Value.str (Str.ofString "next_piece") 313, Value.str (Str.ofString "/claim/cut.py") 314, Value.int 53 0, Value.int 3 0, Value.int 0 0, Value.int 0 0, Value.int 3 0, Value.ref 98, Value.bool true, Value.int 181 0, Value.ref 99, Value.none, Value.ref 100, Value.ref 101, Value.ref 102, Value.int 320 0, Value.int 53 0, Value.str (Str.ofString "/claim/cut.py") 321] }
def ob104v4 (P : Params) : Obj := { cls := Value.type "function", data := Data.func { name := Str.ofString "next_piece", qualname := Str.ofString "next_piece", params := (fnOf (stAt 10)).1, body := (FuncBody.stmts (fnOf (stAt 10)).2.1), scope := (fnOf (stAt 10)).2.2, globals := 3, closure := [], defaults := Value.none, kwdefaults := Value.none, pyModule := Value.str (Str.ofString "ledgerspeak.stringing") 245, code := Value.ref 103 } }
def ob105v4 (P : Params) : Obj := { cls := Value.type "tuple", data := Data.seq #[] }
def ob106v4 (P : Params) : Obj := { cls := Value.none, data := Data.fields #[] }
def ob107v4 (P : Params) : Obj := { cls := Value.type "tuple", data := Data.seq #[Value.str (Str.ofString "octets") 326, Value.str (Str.ofString "delimiters") 327, Value.str (Str.ofString "begin") 328, Value.str (Str.ofString "many") 329, Value.str (Str.ofString "pieces") 330, Value.str (Str.ofString "at") 331, Value.str (Str.ofString "piece") 332, Value.str (Str.ofString "mark") 333] }
def ob108v4 (P : Params) : Obj := { cls := Value.type "tuple", data := Data.seq #[] }
def ob109v4 (P : Params) : Obj := { cls := Value.none, data := Data.func { name := Str.ofString "unstrung", qualname := Str.ofString "unstrung", params := (fnOf (stAt 11)).1, body := (FuncBody.stmts (fnOf (stAt 11)).2.1), scope := (fnOf (stAt 11)).2.2, globals := 0, closure := [], defaults := Value.none, kwdefaults := Value.none } }
def ob110v4 (P : Params) : Obj := { cls := Value.type "code", data := Data.fields #[Value.str (Str.ofString "unstrung") 323, Value.str (Str.ofString "unstrung") 324, Value.str (Str.ofString "/claim/cut.py") 325, Value.int 59 0, Value.int 4 0, Value.int 0 0, Value.int 0 0, Value.int 3 0, Value.ref 105, Value.bool true, Value.int 181 0, Value.ref 106, Value.none, Value.ref 107, Value.ref 108, Value.ref 109, Value.int 334 0, Value.int 59 0, Value.str (Str.ofString "/claim/cut.py") 335] }
def ob111v4 (P : Params) : Obj := { cls := Value.type "function", data := Data.func { name := Str.ofString "unstrung", qualname := Str.ofString "unstrung", params := (fnOf (stAt 11)).1, body := (FuncBody.stmts (fnOf (stAt 11)).2.1), scope := (fnOf (stAt 11)).2.2, globals := 3, closure := [], defaults := Value.none, kwdefaults := Value.none, pyModule := Value.str (Str.ofString "ledgerspeak.stringing") 245, code := Value.ref 110 } }
def ob112v4 (P : Params) : Obj := { cls := Value.type "tuple", data := Data.seq #[] }
def ob113v4 (P : Params) : Obj := { cls := Value.none, data := Data.fields #[] }
def ob114v4 (P : Params) : Obj := { cls := Value.type "tuple", data := Data.seq #[Value.str (Str.ofString "octets") 340, Value.str (Str.ofString "sizes") 341, Value.str (Str.ofString "begin") 342, Value.str (Str.ofString "pieces") 343, Value.str (Str.ofString "at") 344, Value.str (Str.ofString "size") 345] }
def ob115v4 (P : Params) : Obj := { cls := Value.type "tuple", data := Data.seq #[] }
def ob116v4 (P : Params) : Obj := { cls := Value.none, data := Data.func { name := Str.ofString "cut_by_sizes", qualname := Str.ofString "cut_by_sizes", params := (fnOf (stAt 12)).1, body := (FuncBody.stmts (fnOf (stAt 12)).2.1), scope := (fnOf (stAt 12)).2.2, globals := 0, closure := [], defaults := Value.none, kwdefaults := Value.none } }
def ob117v4 (P : Params) : Obj := { cls := Value.type "code", data := Data.fields #[Value.str (Str.ofString "cut_by_sizes") 337, Value.str (Str.ofString "cut_by_sizes") 338, Value.str (Str.ofString "/claim/cut.py") 339, Value.int 67 0, Value.int 3 0, Value.int 0 0, Value.int 0 0, Value.int 3 0, Value.ref 112, Value.bool true, Value.int 181 0, Value.ref 113, Value.none, Value.ref 114, Value.ref 115, Value.ref 116, Value.int 346 0, Value.int 67 0, Value.str (Str.ofString "/claim/cut.py") 347] }
def ob118v4 (P : Params) : Obj := { cls := Value.type "function", data := Data.func { name := Str.ofString "cut_by_sizes", qualname := Str.ofString "cut_by_sizes", params := (fnOf (stAt 12)).1, body := (FuncBody.stmts (fnOf (stAt 12)).2.1), scope := (fnOf (stAt 12)).2.2, globals := 3, closure := [], defaults := Value.none, kwdefaults := Value.none, pyModule := Value.str (Str.ofString "ledgerspeak.stringing") 245, code := Value.ref 117 } }
def hp3 (P : Params) : Heap := ⟨#[boot_o_0 P, boot_o_1 P, ob2v2 P, ob3v4 P, boot_o_4 P, boot_o_5 P, boot_o_6 P, boot_o_7 P, boot_o_8 P, boot_o_9 P, boot_o_10 P, ob11v1 P, ob12v4 P, ob13v1 P, ob14v1 P, ob15v2 P, ob16v2 P, ob17v2 P, ob18v2 P, ob19v2 P, ob20v2 P, ob21v2 P, ob22v2 P, ob23v2 P, ob24v2 P, ob25v2 P, ob26v2 P, ob27v2 P, ob28v2 P, ob29v2 P, ob30v2 P, ob31v2 P, ob32v2 P, ob33v2 P, ob34v2 P, ob35v2 P, ob36v2 P, ob37v2 P, ob38v2 P, ob39v2 P, ob40v3 P, ob41v2 P, ob42v2 P, ob43v2 P, ob44v3 P, ob45v3 P, ob46v3 P, ob47v3 P, ob48v3 P, ob49v3 P, ob50v3 P, ob51v3 P, ob52v3 P, ob53v3 P, ob54v3 P, ob55v3 P, ob56v3 P, ob57v3 P, ob58v3 P, ob59v3 P, ob60v3 P, ob61v3 P, ob62v3 P, ob63v3 P, ob64v3 P, ob65v3 P, ob66v3 P, ob67v3 P, ob68v3 P, ob69v3 P, ob70v4 P, ob71v4 P, ob72v4 P, ob73v4 P, ob74v4 P, ob75v4 P, ob76v4 P, ob77v4 P, ob78v4 P, ob79v4 P, ob80v4 P, ob81v4 P, ob82v4 P, ob83v4 P, ob84v4 P, ob85v4 P, ob86v4 P, ob87v4 P, ob88v4 P, ob89v4 P, ob90v4 P, ob91v4 P, ob92v4 P, ob93v4 P, ob94v4 P, ob95v4 P, ob96v4 P, ob97v4 P, ob98v4 P, ob99v4 P, ob100v4 P, ob101v4 P, ob102v4 P, ob103v4 P, ob104v4 P, ob105v4 P, ob106v4 P, ob107v4 P, ob108v4 P, ob109v4 P, ob110v4 P, ob111v4 P, ob112v4 P, ob113v4 P, ob114v4 P, ob115v4 P, ob116v4 P, ob117v4 P, ob118v4 P], { }⟩
abbrev sh3 (w : World) (os : OsState) : Shared := ⟨hp3 w.params, #[], { }, 349, os⟩
def ob3v5 (P : Params) : Obj := { cls := Value.type "dict", data := Data.dict #[{ hash := PyData.keyHash P (Str.ofString "__name__"), key := Value.str (Str.ofString "__name__") 165, val := Value.str (Str.ofString "ledgerspeak.stringing") 245 }, { hash := PyData.keyHash P (Str.ofString "__doc__"), key := Value.str (Str.ofString "__doc__") 166, val := Value.none }, { hash := PyData.keyHash P (Str.ofString "__package__"), key := Value.str (Str.ofString "__package__") 167, val := Value.none }, { hash := PyData.keyHash P (Str.ofString "__loader__"), key := Value.str (Str.ofString "__loader__") 168, val := Value.builtin "__main__.__loader__#opaque" }, { hash := PyData.keyHash P (Str.ofString "__spec__"), key := Value.str (Str.ofString "__spec__") 169, val := Value.none }, { hash := PyData.keyHash P (Str.ofString "__annotations__"), key := Value.str (Str.ofString "__annotations__") 170, val := Value.ref 6 }, { hash := PyData.keyHash P (Str.ofString "__builtins__"), key := Value.str (Str.ofString "__builtins__") 171, val := Value.ref 4 }, { hash := PyData.keyHash P (Str.ofString "__file__"), key := Value.str (Str.ofString "__file__") 173, val := Value.str (Str.ofString "/claim/cut.py") 172 }, { hash := PyData.keyHash P (Str.ofString "__cached__"), key := Value.str (Str.ofString "__cached__") 174, val := Value.none }, { hash := PyData.keyHash P (Str.ofString "LedgerError"), key := Value.str (Str.ofString "LedgerError") 228, val := Value.ref 40 }, { hash := PyData.keyHash P (Str.ofString "RunFault"), key := Value.str (Str.ofString "RunFault") 244, val := Value.ref 53 }, { hash := PyData.keyHash P (Str.ofString "lies_at"), key := Value.str (Str.ofString "lies_at") 255, val := Value.ref 62 }, { hash := PyData.keyHash P (Str.ofString "first_at"), key := Value.str (Str.ofString "first_at") 265, val := Value.ref 69 }, { hash := PyData.keyHash P (Str.ofString "sent_part"), key := Value.str (Str.ofString "sent_part") 274, val := Value.ref 76 }, { hash := PyData.keyHash P (Str.ofString "strung"), key := Value.str (Str.ofString "strung") 289, val := Value.ref 83 }, { hash := PyData.keyHash P (Str.ofString "delimiter_at"), key := Value.str (Str.ofString "delimiter_at") 300, val := Value.ref 90 }, { hash := PyData.keyHash P (Str.ofString "behind_delimiter"), key := Value.str (Str.ofString "behind_delimiter") 311, val := Value.ref 97 }, { hash := PyData.keyHash P (Str.ofString "next_piece"), key := Value.str (Str.ofString "next_piece") 322, val := Value.ref 104 }, { hash := PyData.keyHash P (Str.ofString "unstrung"), key := Value.str (Str.ofString "unstrung") 336, val := Value.ref 111 }, { hash := PyData.keyHash P (Str.ofString "cut_by_sizes"), key := Value.str (Str.ofString "cut_by_sizes") 348, val := Value.ref 118 }, { hash := PyData.keyHash P (Str.ofString "Hands"), key := Value.str (Str.ofString "Hands") 389, val := Value.ref 135 }, { hash := PyData.keyHash P (Str.ofString "lone_octets"), key := Value.str (Str.ofString "lone_octets") 397, val := Value.ref 146 }, { hash := PyData.keyHash P (Str.ofString "pointed"), key := Value.str (Str.ofString "pointed") 405, val := Value.ref 153 }] 23 }
def ob12v5 (P : Params) : Obj := { cls := Value.none, data := Data.fields #[Value.int 2 0, Value.int 0 0, Value.ref 20, Value.int 11 0, Value.int 0 0, Value.ref 49, Value.int 14 0, Value.int 0 0, Value.ref 61, Value.int 16 0, Value.int 0 0, Value.ref 68, Value.int 23 0, Value.int 0 0, Value.ref 75, Value.int 28 0, Value.int 0 0, Value.ref 82, Value.int 41 0, Value.int 0 0, Value.ref 89, Value.int 48 0, Value.int 0 0, Value.ref 96, Value.int 53 0, Value.int 0 0, Value.ref 103, Value.int 59 0, Value.int 0 0, Value.ref 110, Value.int 67 0, Value.int 0 0, Value.ref 117, Value.int 76 0, Value.int 0 0, Value.ref 124, Value.int 86 0, Value.int 0 0, Value.ref 145, Value.int 88 0, Value.int 0 0, Value.ref 152] }
def ob119v5 (P : Params) : Obj := { cls := Value.type "tuple", data := Data.seq #[] }
def ob120v5 (P : Params) : Obj := { cls := Value.type "builtin_function_or_method", data := Data.fields #[Value.builtin "type.__prepare__", Value.type "type"] }
def ob121v5 (P : Params) : Obj := { cls := Value.type "dict", data := Data.dict #[{ hash := PyData.keyHash P (Str.ofString "__module__"), key := Value.str (Str.ofString "__module__") 356, val := Value.str (Str.ofString "ledgerspeak.stringing") 245 }, { hash := PyData.keyHash P (Str.ofString "__qualname__"), key := Value.str (Str.ofString "__qualname__") 358, val := Value.str (Str.ofString "Hands") 357 }, { hash := PyData.keyHash P (Str.ofString "__firstlineno__"), key := Value.str (Str.ofString "__firstlineno__") 360, val := Value.int 76 359 }, { hash := PyData.keyHash P (Str.ofString "__init__"), key := Value.str (Str.ofString "__init__") 374, val := Value.ref 132 }, { hash := PyData.keyHash P (Str.ofString "__static_attributes__"), key := Value.str (Str.ofString "__static_attributes__") 382, val := Value.ref 133 }] 5 }
def ob122v5 (P : Params) : Obj := { cls := Value.type "tuple", data := Data.seq #[] }
def ob123v5 (P : Params) : Obj := { cls := Value.none, data := Data.fields #[Value.int 78 0, Value.int 4 0, Value.ref 131] }
def ob124v5 (P : Params) : Obj := { cls := Value.type "code", data := Data.fields #[Value.str (Str.ofString "Hands") 351, Value.str (Str.ofString "Hands") 352, Value.str (Str.ofString "/claim/cut.py") 353, Value.int 76 0, Value.int 0 0, Value.int 0 0, Value.int 0 0, Value.int 0 0, Value.ref 122, Value.bool false, Value.int 181 0, Value.ref 123, Value.none, Value.none, Value.none, Value.none, Value.int 354 0, Value.int 76 0, Value.str (Str.ofString "/claim/cut.py") 355] }
def ob125v5 (P : Params) : Obj := { cls := Value.type "frame", slots := #[some (Value.ref 124), some (Value.ref 3), some (Value.ref 121), none, some (Value.str (Str.ofString "ledgerspeak.stringing") 245), none, some (Value.ref 0)] }
def ob126v5 (P : Params) : Obj := { cls := Value.type "tuple", data := Data.seq #[] }
def ob127v5 (P : Params) : Obj := { cls := Value.none, data := Data.fields #[] }
def ob128v5 (P : Params) : Obj := { cls := Value.type "tuple", data := Data.seq #[Value.str (Str.ofString "self") 364, Value.str (Str.ofString "fetch") 365, Value.str (Str.ofString "plant") 366, Value.str (Str.ofString "amount") 367, Value.str (Str.ofString "keep") 368, Value.str (Str.ofString "spot") 369, Value.str (Str.ofString "bring") 370, Value.str (Str.ofString "room") 371] }
def ob129v5 (P : Params) : Obj := { cls := Value.type "tuple", data := Data.seq #[] }
def ob130v5 (P : Params) : Obj := { cls := Value.none, data := Data.func { name := Str.ofString "__init__", qualname := Str.ofString "Hands.__init__", params := (fnOf (subAt (stAt 13) 0)).1, body := (FuncBody.stmts (fnOf (subAt (stAt 13) 0)).2.1), scope := (fnOf (subAt (stAt 13) 0)).2.2, globals := 0, closure := [], defaults := Value.none, kwdefaults := Value.none } }
def ob131v5 (P : Params) : Obj := { cls := Value.type "code", data := Data.fields #[Value.str (Str.ofString "__init__") 361, Value.str (Str.ofString "Hands.__init__") 362, Value.str (Str.ofString "/claim/cut.py") 363, Value.int 78 0, Value.int 8 0, Value.int 0 0, Value.int 0 0, Value.int 3 0, Value.ref 126, Value.bool true, Value.int 181 0, Value.ref 127, Value.none, Value.ref 128, Value.ref 129, Value.ref 130, Value.int 372 0, Value.int 78 0, Value.str (Str.ofString "/claim/cut.py") 373] }
def ob132v5 (P : Params) : Obj := { cls := Value.type "function", data := Data.func { name := Str.ofString "__init__", qualname := Str.ofString "Hands.__init__", params := (fnOf (subAt (stAt 13) 0)).1, body := (FuncBody.stmts (fnOf (subAt (stAt 13) 0)).2.1), scope := (fnOf (subAt (stAt 13) 0)).2.2, globals := 3, closure := [], defaults := Value.none, kwdefaults := Value.none, pyModule := Value.str (Str.ofString "ledgerspeak.stringing") 245, code := Value.ref 131 } }
def ob133v5 (P : Params) : Obj := { cls := Value.type "tuple", data := Data.seq #[Value.str (Str.ofString "amount") 375, Value.str (Str.ofString "bring") 376, Value.str (Str.ofString "fetch") 377, Value.str (Str.ofString "keep") 378, Value.str (Str.ofString "plant") 379, Value.str (Str.ofString "room") 380, Value.str (Str.ofString "spot") 381] }
def ob134v5 (P : Params) : Obj := { cls := Value.type "dict", data := Data.dict #[{ hash := PyData.keyHash P (Str.ofString "__module__"), key := Value.str (Str.ofString "__module__") 356, val := Value.str (Str.ofString "ledgerspeak.stringing") 245 }, { hash := PyData.keyHash P (Str.ofString "__firstlineno__"), key := Value.str (Str.ofString "__firstlineno__") 360, val := Value.int 76 359 }, { hash := PyData.keyHash P (Str.ofString "__init__"), key := Value.str (Str.ofString "__init__") 374, val := Value.ref 132 }, { hash := PyData.keyHash P (Str.ofString "__static_attributes__"), key := Value.str (Str.ofString "__static_attributes__") 382, val := Value.ref 133 }, { hash := PyData.keyHash P (Str.ofString "__dict__"), key := Value.str (Str.ofString "__dict__") 384, val := Value.ref 136 }, { hash := PyData.keyHash P (Str.ofString "__weakref__"), key := Value.str (Str.ofString "__weakref__") 386, val := Value.ref 137 }, { hash := PyData.keyHash P (Str.ofString "__doc__"), key := Value.str (Str.ofString "__doc__") 387, val := Value.none }] 4 }
def ob135v5 (P : Params) : Obj := { cls := Value.type "type", data := Data.cls { name := Str.ofString "Hands", bases := [Value.type "object"], mro := [Value.ref 135, Value.type "object"], ns := 134, qualname := Str.ofString "Hands" }, slots := #[none, none, some (Value.str (Str.ofString "Hands") 349), some (Value.str (Str.ofString "Hands") 357), some (Value.builtin "object.__new__"), some (Value.bool true)] }
def ob136v5 (P : Params) : Obj := { cls := Value.type "getset_descriptor", data := Data.fields #[Value.str (Str.ofString "__dict__") 383, Value.ref 135, Value.builtin "function.__dict__", Value.builtin "function.__dict__#set"] }
def ob137v5 (P : Params) : Obj := { cls := Value.type "getset_descriptor", data := Data.fields #[Value.str (Str.ofString "__weakref__") 385, Value.ref 135, Value.builtin "ExceptionGroup.__weakref__", Value.none] }
def ob138v5 (P : Params) : Obj := { cls := Value.type "super", data := Data.fields #[Value.ref 135, Value.ref 135, Value.ref 135] }
def ob139v5 (P : Params) : Obj := { cls := Value.type "builtin_function_or_method", data := Data.fields #[Value.builtin "object.__init_subclass__", Value.ref 135] }
def ob140v5 (P : Params) : Obj := { cls := Value.type "tuple", data := Data.seq #[] }
def ob141v5 (P : Params) : Obj := { cls := Value.none, data := Data.fields #[] }
def ob142v5 (P : Params) : Obj := { cls := Value.type "tuple", data := Data.seq #[Value.str (Str.ofString "operand") 393, Value.str (Str.ofString "hands") 394] }
def ob143v5 (P : Params) : Obj := { cls := Value.type "tuple", data := Data.seq #[] }
def ob144v5 (P : Params) : Obj := { cls := Value.none, data := Data.func { name := Str.ofString "lone_octets", qualname := Str.ofString "lone_octets", params := (fnOf (stAt 14)).1, body := (FuncBody.stmts (fnOf (stAt 14)).2.1), scope := (fnOf (stAt 14)).2.2, globals := 0, closure := [], defaults := Value.none, kwdefaults := Value.none } }
def ob145v5 (P : Params) : Obj := { cls := Value.type "code", data := Data.fields #[Value.str (Str.ofString "lone_octets") 390, Value.str (Str.ofString "lone_octets") 391, Value.str (Str.ofString "/claim/cut.py") 392, Value.int 86 0, Value.int 2 0, Value.int 0 0, Value.int 0 0, Value.int 3 0, Value.ref 140, Value.bool true, Value.int 181 0, Value.ref 141, Value.none, Value.ref 142, Value.ref 143, Value.ref 144, Value.int 395 0, Value.int 86 0, Value.str (Str.ofString "/claim/cut.py") 396] }
def ob146v5 (P : Params) : Obj := { cls := Value.type "function", data := Data.func { name := Str.ofString "lone_octets", qualname := Str.ofString "lone_octets", params := (fnOf (stAt 14)).1, body := (FuncBody.stmts (fnOf (stAt 14)).2.1), scope := (fnOf (stAt 14)).2.2, globals := 3, closure := [], defaults := Value.none, kwdefaults := Value.none, pyModule := Value.str (Str.ofString "ledgerspeak.stringing") 245, code := Value.ref 145 } }
def ob147v5 (P : Params) : Obj := { cls := Value.type "tuple", data := Data.seq #[] }
def ob148v5 (P : Params) : Obj := { cls := Value.none, data := Data.fields #[] }
def ob149v5 (P : Params) : Obj := { cls := Value.type "tuple", data := Data.seq #[Value.str (Str.ofString "pointer") 401, Value.str (Str.ofString "hands") 402] }
def ob150v5 (P : Params) : Obj := { cls := Value.type "tuple", data := Data.seq #[] }
def ob151v5 (P : Params) : Obj := { cls := Value.none, data := Data.func { name := Str.ofString "pointed", qualname := Str.ofString "pointed", params := (fnOf (stAt 15)).1, body := (FuncBody.stmts (fnOf (stAt 15)).2.1), scope := (fnOf (stAt 15)).2.2, globals := 0, closure := [], defaults := Value.none, kwdefaults := Value.none } }
def ob152v5 (P : Params) : Obj := { cls := Value.type "code", data := Data.fields #[Value.str (Str.ofString "pointed") 398, Value.str (Str.ofString "pointed") 399, Value.str (Str.ofString "/claim/cut.py") 400, Value.int 88 0, Value.int 2 0, Value.int 0 0, Value.int 0 0, Value.int 3 0, Value.ref 147, Value.bool true, Value.int 181 0, Value.ref 148, Value.none, Value.ref 149, Value.ref 150, Value.ref 151, Value.int 403 0, Value.int 88 0, Value.str (Str.ofString "/claim/cut.py") 404] }
def ob153v5 (P : Params) : Obj := { cls := Value.type "function", data := Data.func { name := Str.ofString "pointed", qualname := Str.ofString "pointed", params := (fnOf (stAt 15)).1, body := (FuncBody.stmts (fnOf (stAt 15)).2.1), scope := (fnOf (stAt 15)).2.2, globals := 3, closure := [], defaults := Value.none, kwdefaults := Value.none, pyModule := Value.str (Str.ofString "ledgerspeak.stringing") 245, code := Value.ref 152 } }
def hp4 (P : Params) : Heap := ⟨#[boot_o_0 P, boot_o_1 P, ob2v2 P, ob3v5 P, boot_o_4 P, boot_o_5 P, boot_o_6 P, boot_o_7 P, boot_o_8 P, boot_o_9 P, boot_o_10 P, ob11v1 P, ob12v5 P, ob13v1 P, ob14v1 P, ob15v2 P, ob16v2 P, ob17v2 P, ob18v2 P, ob19v2 P, ob20v2 P, ob21v2 P, ob22v2 P, ob23v2 P, ob24v2 P, ob25v2 P, ob26v2 P, ob27v2 P, ob28v2 P, ob29v2 P, ob30v2 P, ob31v2 P, ob32v2 P, ob33v2 P, ob34v2 P, ob35v2 P, ob36v2 P, ob37v2 P, ob38v2 P, ob39v2 P, ob40v3 P, ob41v2 P, ob42v2 P, ob43v2 P, ob44v3 P, ob45v3 P, ob46v3 P, ob47v3 P, ob48v3 P, ob49v3 P, ob50v3 P, ob51v3 P, ob52v3 P, ob53v3 P, ob54v3 P, ob55v3 P, ob56v3 P, ob57v3 P, ob58v3 P, ob59v3 P, ob60v3 P, ob61v3 P, ob62v3 P, ob63v3 P, ob64v3 P, ob65v3 P, ob66v3 P, ob67v3 P, ob68v3 P, ob69v3 P, ob70v4 P, ob71v4 P, ob72v4 P, ob73v4 P, ob74v4 P, ob75v4 P, ob76v4 P, ob77v4 P, ob78v4 P, ob79v4 P, ob80v4 P, ob81v4 P, ob82v4 P, ob83v4 P, ob84v4 P, ob85v4 P, ob86v4 P, ob87v4 P, ob88v4 P, ob89v4 P, ob90v4 P, ob91v4 P, ob92v4 P, ob93v4 P, ob94v4 P, ob95v4 P, ob96v4 P, ob97v4 P, ob98v4 P, ob99v4 P, ob100v4 P, ob101v4 P, ob102v4 P, ob103v4 P, ob104v4 P, ob105v4 P, ob106v4 P, ob107v4 P, ob108v4 P, ob109v4 P, ob110v4 P, ob111v4 P, ob112v4 P, ob113v4 P, ob114v4 P, ob115v4 P, ob116v4 P, ob117v4 P, ob118v4 P, ob119v5 P, ob120v5 P, ob121v5 P, ob122v5 P, ob123v5 P, ob124v5 P, ob125v5 P, ob126v5 P, ob127v5 P, ob128v5 P, ob129v5 P, ob130v5 P, ob131v5 P, ob132v5 P, ob133v5 P, ob134v5 P, ob135v5 P, ob136v5 P, ob137v5 P, ob138v5 P, ob139v5 P, ob140v5 P, ob141v5 P, ob142v5 P, ob143v5 P, ob144v5 P, ob145v5 P, ob146v5 P, ob147v5 P, ob148v5 P, ob149v5 P, ob150v5 P, ob151v5 P, ob152v5 P, ob153v5 P], { }⟩
abbrev sh4 (w : World) (os : OsState) : Shared := ⟨hp4 w.params, #[], { }, 406, os⟩
def ob3v6 (P : Params) : Obj := { cls := Value.type "dict", data := Data.dict #[{ hash := PyData.keyHash P (Str.ofString "__name__"), key := Value.str (Str.ofString "__name__") 165, val := Value.str (Str.ofString "law_pq0616_02") 450 }, { hash := PyData.keyHash P (Str.ofString "__doc__"), key := Value.str (Str.ofString "__doc__") 166, val := Value.none }, { hash := PyData.keyHash P (Str.ofString "__package__"), key := Value.str (Str.ofString "__package__") 167, val := Value.none }, { hash := PyData.keyHash P (Str.ofString "__loader__"), key := Value.str (Str.ofString "__loader__") 168, val := Value.builtin "__main__.__loader__#opaque" }, { hash := PyData.keyHash P (Str.ofString "__spec__"), key := Value.str (Str.ofString "__spec__") 169, val := Value.none }, { hash := PyData.keyHash P (Str.ofString "__annotations__"), key := Value.str (Str.ofString "__annotations__") 170, val := Value.ref 6 }, { hash := PyData.keyHash P (Str.ofString "__builtins__"), key := Value.str (Str.ofString "__builtins__") 171, val := Value.ref 4 }, { hash := PyData.keyHash P (Str.ofString "__file__"), key := Value.str (Str.ofString "__file__") 173, val := Value.str (Str.ofString "/claim/cut.py") 172 }, { hash := PyData.keyHash P (Str.ofString "__cached__"), key := Value.str (Str.ofString "__cached__") 174, val := Value.none }, { hash := PyData.keyHash P (Str.ofString "LedgerError"), key := Value.str (Str.ofString "LedgerError") 228, val := Value.ref 40 }, { hash := PyData.keyHash P (Str.ofString "RunFault"), key := Value.str (Str.ofString "RunFault") 244, val := Value.ref 53 }, { hash := PyData.keyHash P (Str.ofString "lies_at"), key := Value.str (Str.ofString "lies_at") 255, val := Value.ref 62 }, { hash := PyData.keyHash P (Str.ofString "first_at"), key := Value.str (Str.ofString "first_at") 265, val := Value.ref 69 }, { hash := PyData.keyHash P (Str.ofString "sent_part"), key := Value.str (Str.ofString "sent_part") 274, val := Value.ref 76 }, { hash := PyData.keyHash P (Str.ofString "strung"), key := Value.str (Str.ofString "strung") 289, val := Value.ref 83 }, { hash := PyData.keyHash P (Str.ofString "delimiter_at"), key := Value.str (Str.ofString "delimiter_at") 300, val := Value.ref 90 }, { hash := PyData.keyHash P (Str.ofString "behind_delimiter"), key := Value.str (Str.ofString "behind_delimiter") 311, val := Value.ref 97 }, { hash := PyData.keyHash P (Str.ofString "next_piece"), key := Value.str (Str.ofString "next_piece") 322, val := Value.ref 104 }, { hash := PyData.keyHash P (Str.ofString "unstrung"), key := Value.str (Str.ofString "unstrung") 336, val := Value.ref 111 }, { hash := PyData.keyHash P (Str.ofString "cut_by_sizes"), key := Value.str (Str.ofString "cut_by_sizes") 348, val := Value.ref 118 }, { hash := PyData.keyHash P (Str.ofString "Hands"), key := Value.str (Str.ofString "Hands") 389, val := Value.ref 135 }, { hash := PyData.keyHash P (Str.ofString "lone_octets"), key := Value.str (Str.ofString "lone_octets") 397, val := Value.ref 146 }, { hash := PyData.keyHash P (Str.ofString "pointed"), key := Value.str (Str.ofString "pointed") 405, val := Value.ref 153 }, { hash := PyData.keyHash P (Str.ofString "moved_on"), key := Value.str (Str.ofString "moved_on") 414, val := Value.ref 160 }, { hash := PyData.keyHash P (Str.ofString "string_with"), key := Value.str (Str.ofString "string_with") 429, val := Value.ref 167 }, { hash := PyData.keyHash P (Str.ofString "lay_pieces"), key := Value.str (Str.ofString "lay_pieces") 443, val := Value.ref 174 }, { hash := PyData.keyHash P (Str.ofString "unstring_with"), key := Value.str (Str.ofString "unstring_with") 449, val := Value.ref 179 }, { hash := PyData.keyHash P (Str.ofString "_law_pen"), key := Value.str (Str.ofString "_law_pen") 457, val := Value.ref 184 }, { hash := PyData.keyHash P (Str.ofString "_law_draw"), key := Value.str (Str.ofString "_law_draw") 470, val := Value.ref 191 }, { hash := PyData.keyHash P (Str.ofString "_law_pick"), key := Value.str (Str.ofString "_law_pick") 478, val := Value.ref 198 }, { hash := PyData.keyHash P (Str.ofString "_law_ref"), key := Value.str (Str.ofString "_law_ref") 485, val := Value.ref 205 }, { hash := PyData.keyHash P (Str.ofString "_law_keep"), key := Value.str (Str.ofString "_law_keep") 494, val := Value.ref 212 }] 32 }
def ob12v6 (P : Params) : Obj := { cls := Value.none, data := Data.fields #[Value.int 2 0, Value.int 0 0, Value.ref 20, Value.int 11 0, Value.int 0 0, Value.ref 49, Value.int 14 0, Value.int 0 0, Value.ref 61, Value.int 16 0, Value.int 0 0, Value.ref 68, Value.int 23 0, Value.int 0 0, Value.ref 75, Value.int 28 0, Value.int 0 0, Value.ref 82, Value.int 41 0, Value.int 0 0, Value.ref 89, Value.int 48 0, Value.int 0 0, Value.ref 96, Value.int 53 0, Value.int 0 0, Value.ref 103, Value.int 59 0, Value.int 0 0, Value.ref 110, Value.int 67 0, Value.int 0 0, Value.ref 117, Value.int 76 0, Value.int 0 0, Value.ref 124, Value.int 86 0, Value.int 0 0, Value.ref 145, Value.int 88 0, Value.int 0 0, Value.ref 152, Value.int 90 0, Value.int 0 0, Value.ref 159, Value.int 93 0, Value.int 0 0, Value.ref 166, Value.int 102 0, Value.int 0 0, Value.ref 173, Value.int 110 0, Value.int 0 0, Value.ref 178, Value.int 126 0, Value.int 0 0, Value.ref 183, Value.int 128 0, Value.int 0 0, Value.ref 190, Value.int 145 0, Value.int 0 0, Value.ref 197, Value.int 147 0, Value.int 0 0, Value.ref 204, Value.int 149 0, Value.int 0 0, Value.ref 211] }
def ob154v6 (P : Params) : Obj := { cls := Value.type "tuple", data := Data.seq #[] }
def ob155v6 (P : Params) : Obj := { cls := Value.none, data := Data.fields #[] }
def ob156v6 (P : Params) : Obj := { cls := Value.type "tuple", data := Data.seq #[Value.str (Str.ofString "pointer") 409, Value.str (Str.ofString "position") 410, Value.str (Str.ofString "hands") 411] }
def ob157v6 (P : Params) : Obj := { cls := Value.type "tuple", data := Data.seq #[] }
def ob158v6 (P : Params) : Obj := { cls := Value.none, data := Data.func { name := Str.ofString "moved_on", qualname := Str.ofString "moved_on", params := (fnOf (stAt 16)).1, body := (FuncBody.stmts (fnOf (stAt 16)).2.1), scope := (fnOf (stAt 16)).2.2, globals := 0, closure := [], defaults := Value.none, kwdefaults := Value.none } }
def ob159v6 (P : Params) : Obj := { cls := Value.type "code", data := Data.fields #[Value.str (Str.ofString "moved_on") 406, Value.str (Str.ofString "moved_on") 407, Value.str (Str.ofString "/claim/cut.py") 408, Value.int 90 0, Value.int 3 0, Value.int 0 0, Value.int 0 0, Value.int 3 0, Value.ref 154, Value.bool true, Value.int 181 0, Value.ref 155, Value.none, Value.ref 156, Value.ref 157, Value.ref 158, Value.int 412 0, Value.int 90 0, Value.str (Str.ofString "/claim/cut.py") 413] }
def ob160v6 (P : Params) : Obj := { cls := Value.type "function", data := Data.func { name := Str.ofString "moved_on", qualname := Str.ofString "moved_on", params := (fnOf (stAt 16)).1, body := (FuncBody.stmts (fnOf (stAt 16)).2.1), scope := (fnOf (stAt 16)).2.2, globals := 3, closure := [], defaults := Value.none, kwdefaults := Value.none, pyModule := Value.str (Str.ofString "ledgerspeak.stringing") 245, code := Value.ref 159 } }
def ob161v6 (P : Params) : Obj := { cls := Value.type "tuple", data := Data.seq #[] }
def ob162v6 (P : Params) : Obj := { cls := Value.none, data := Data.fields #[] }
def ob163v6 (P : Params) : Obj := { cls := Value.type "tuple", data := Data.seq #[Value.str (Str.ofString "statement") 418, Value.str (Str.ofString "hands") 419, Value.str (Str.ofString "pairs") 420, Value.str (Str.ofString "operand") 421, Value.str (Str.ofString "delimiter") 422, Value.str (Str.ofString "mark") 423, Value.str (Str.ofString "octets") 424, Value.str (Str.ofString "following") 425, Value.str (Str.ofString "over") 426] }
def ob164v6 (P : Params) : Obj := { cls := Value.type "tuple", data := Data.seq #[] }
def ob165v6 (P : Params) : Obj := { cls := Value.none, data := Data.func { name := Str.ofString "string_with", qualname := Str.ofString "string_with", params := (fnOf (stAt 17)).1, body := (FuncBody.stmts (fnOf (stAt 17)).2.1), scope := (fnOf (stAt 17)).2.2, globals := 0, closure := [], defaults := Value.none, kwdefaults := Value.none } }
def ob166v6 (P : Params) : Obj := { cls := Value.type "code", data := Data.fields #[Value.str (Str.ofString "string_with") 415, Value.str (Str.ofString "string_with") 416, Value.str (Str.ofString "/claim/cut.py") 417, Value.int 93 0, Value.int 2 0, Value.int 0 0, Value.int 0 0, Value.int 3 0, Value.ref 161, Value.bool true, Value.int 181 0, Value.ref 162, Value.none, Value.ref 163, Value.ref 164, Value.ref 165, Value.int 427 0, Value.int 93 0, Value.str (Str.ofString "/claim/cut.py") 428] }
def ob167v6 (P : Params) : Obj := { cls := Value.type "function", data := Data.func { name := Str.ofString "string_with", qualname := Str.ofString "string_with", params := (fnOf (stAt 17)).1, body := (FuncBody.stmts (fnOf (stAt 17)).2.1), scope := (fnOf (stAt 17)).2.2, globals := 3, closure := [], defaults := Value.none, kwdefaults := Value.none, pyModule := Value.str (Str.ofString "ledgerspeak.stringing") 245, code := Value.ref 166 } }
def ob168v6 (P : Params) : Obj := { cls := Value.type "tuple", data := Data.seq #[] }
def ob169v6 (P : Params) : Obj := { cls := Value.none, data := Data.fields #[] }
def ob170v6 (P : Params) : Obj := { cls := Value.type "tuple", data := Data.seq #[Value.str (Str.ofString "pieces") 433, Value.str (Str.ofString "rows") 434, Value.str (Str.ofString "spots") 435, Value.str (Str.ofString "mark_spots") 436, Value.str (Str.ofString "hands") 437, Value.str (Str.ofString "at") 438, Value.str (Str.ofString "piece") 439, Value.str (Str.ofString "mark") 440] }
def ob171v6 (P : Params) : Obj := { cls := Value.type "tuple", data := Data.seq #[] }
def ob172v6 (P : Params) : Obj := { cls := Value.none, data := Data.func { name := Str.ofString "lay_pieces", qualname := Str.ofString "lay_pieces", params := (fnOf (stAt 18)).1, body := (FuncBody.stmts (fnOf (stAt 18)).2.1), scope := (fnOf (stAt 18)).2.2, globals := 0, closure := [], defaults := Value.none, kwdefaults := Value.none } }
def ob173v6 (P : Params) : Obj := { cls := Value.type "code", data := Data.fields #[Value.str (Str.ofString "lay_pieces") 430, Value.str (Str.ofString "lay_pieces") 431, Value.str (Str.ofString "/claim/cut.py") 432, Value.int 102 0, Value.int 5 0, Value.int 0 0, Value.int 0 0, Value.int 3 0, Value.ref 168, Value.bool true, Value.int 181 0, Value.ref 169, Value.none, Value.ref 170, Value.ref 171, Value.ref 172, Value.int 441 0, Value.int 102 0, Value.str (Str.ofString "/claim/cut.py") 442] }
def ob174v6 (P : Params) : Obj := { cls := Value.type "function", data := Data.func { name := Str.ofString "lay_pieces", qualname := Str.ofString "lay_pieces", params := (fnOf (stAt 18)).1, body := (FuncBody.stmts (fnOf (stAt 18)).2.1), scope := (fnOf (stAt 18)).2.2, globals := 3, closure := [], defaults := Value.none, kwdefaults := Value.none, pyModule := Value.str (Str.ofString "ledgerspeak.stringing") 245, code := Value.ref 173 } }
def ob175v6 (P : Params) : Obj := { cls := Value.type "tuple", data := Data.seq #[] }
def ob176v6 (P : Params) : Obj := { cls := Value.none, data := Data.fields #[] }
def ob177v6 (P : Params) : Obj := { cls := Value.none, data := Data.func { name := Str.ofString "unstring_with", qualname := Str.ofString "unstring_with", params := (fnOf (stAt 19)).1, body := (FuncBody.stmts (fnOf (stAt 19)).2.1), scope := (fnOf (stAt 19)).2.2, globals := 0, closure := [], defaults := Value.none, kwdefaults := Value.none } }
def ob178v6 (P : Params) : Obj := { cls := Value.type "code", data := Data.fields #[Value.str (Str.ofString "unstring_with") 444, Value.str (Str.ofString "unstring_with") 445, Value.str (Str.ofString "/claim/cut.py") 446, Value.int 110 0, Value.int 2 0, Value.int 0 0, Value.int 0 0, Value.int 3 0, Value.ref 175, Value.bool true, Value.int 181 0, Value.ref 176, Value.none, Value.none, Value.none, Value.ref 177, Value.int 447 0, Value.int 110 0, Value.str (Str.ofString "/claim/cut.py") 448] }
def ob179v6 (P : Params) : Obj := { cls := Value.type "function", data := Data.func { name := Str.ofString "unstring_with", qualname := Str.ofString "unstring_with", params := (fnOf (stAt 19)).1, body := (FuncBody.stmts (fnOf (stAt 19)).2.1), scope := (fnOf (stAt 19)).2.2, globals := 3, closure := [], defaults := Value.none, kwdefaults := Value.none, pyModule := Value.str (Str.ofString "ledgerspeak.stringing") 245, code := Value.ref 178 } }
def ob180v6 (P : Params) : Obj := { cls := Value.type "tuple", data := Data.seq #[] }
def ob181v6 (P : Params) : Obj := { cls := Value.none, data := Data.fields #[] }
def ob182v6 (P : Params) : Obj := { cls := Value.none, data := Data.func { name := Str.ofString "_law_pen", qualname := Str.ofString "_law_pen", params := (fnOf (stAt 21)).1, body := (FuncBody.stmts (fnOf (stAt 21)).2.1), scope := (fnOf (stAt 21)).2.2, globals := 0, closure := [], defaults := Value.none, kwdefaults := Value.none } }
def ob183v6 (P : Params) : Obj := { cls := Value.type "code", data := Data.fields #[Value.str (Str.ofString "_law_pen") 452, Value.str (Str.ofString "_law_pen") 453, Value.str (Str.ofString "/claim/cut.py") 454, Value.int 126 0, Value.int 1 0, Value.int 0 0, Value.int 0 0, Value.int 3 0, Value.ref 180, Value.bool true, Value.int 181 0, Value.ref 181, Value.none, Value.none, Value.none, Value.ref 182, Value.int 455 0, Value.int 126 0, Value.str (Str.ofString "/claim/cut.py") 456] }
def ob184v6 (P : Params) : Obj := { cls := Value.type "function", data := Data.func { name := Str.ofString "_law_pen", qualname := Str.ofString "_law_pen", params := (fnOf (stAt 21)).1, body := (FuncBody.stmts (fnOf (stAt 21)).2.1), scope := (fnOf (stAt 21)).2.2, globals := 3, closure := [], defaults := Value.none, kwdefaults := Value.none, pyModule := Value.str (Str.ofString "law_pq0616_02") 450, code := Value.ref 183 } }
def ob185v6 (P : Params) : Obj := { cls := Value.type "tuple", data := Data.seq #[] }
def ob186v6 (P : Params) : Obj := { cls := Value.none, data := Data.fields #[] }
def ob187v6 (P : Params) : Obj := { cls := Value.type "tuple", data := Data.seq #[Value.str (Str.ofString "pen") 461, Value.str (Str.ofString "many") 462, Value.str (Str.ofString "digit") 463, Value.str (Str.ofString "turn") 464, Value.str (Str.ofString "cell") 465, Value.str (Str.ofString "great") 466, Value.str (Str.ofString "mixed") 467] }
def ob188v6 (P : Params) : Obj := { cls := Value.type "tuple", data := Data.seq #[] }
def ob189v6 (P : Params) : Obj := { cls := Value.none, data := Data.func { name := Str.ofString "_law_draw", qualname := Str.ofString "_law_draw", params := (fnOf (stAt 22)).1, body := (FuncBody.stmts (fnOf (stAt 22)).2.1), scope := (fnOf (stAt 22)).2.2, globals := 0, closure := [], defaults := Value.none, kwdefaults := Value.none } }
def ob190v6 (P : Params) : Obj := { cls := Value.type "code", data := Data.fields #[Value.str (Str.ofString "_law_draw") 458, Value.str (Str.ofString "_law_draw") 459, Value.str (Str.ofString "/claim/cut.py") 460, Value.int 128 0, Value.int 2 0, Value.int 0 0, Value.int 0 0, Value.int 3 0, Value.ref 185, Value.bool true, Value.int 181 0, Value.ref 186, Value.none, Value.ref 187, Value.ref 188, Value.ref 189, Value.int 468 0, Value.int 128 0, Value.str (Str.ofString "/claim/cut.py") 469] }
def ob191v6 (P : Params) : Obj := { cls := Value.type "function", data := Data.func { name := Str.ofString "_law_draw", qualname := Str.ofString "_law_draw", params := (fnOf (stAt 22)).1, body := (FuncBody.stmts (fnOf (stAt 22)).2.1), scope := (fnOf (stAt 22)).2.2, globals := 3, closure := [], defaults := Value.none, kwdefaults := Value.none, pyModule := Value.str (Str.ofString "law_pq0616_02") 450, code := Value.ref 190 } }
def ob192v6 (P : Params) : Obj := { cls := Value.type "tuple", data := Data.seq #[] }
def ob193v6 (P : Params) : Obj := { cls := Value.none, data := Data.fields #[] }
def ob194v6 (P : Params) : Obj := { cls := Value.type "tuple", data := Data.seq #[Value.str (Str.ofString "pen") 474, Value.str (Str.ofString "some") 475] }
def ob195v6 (P : Params) : Obj := { cls := Value.type "tuple", data := Data.seq #[] }
def ob196v6 (P : Params) : Obj := { cls := Value.none, data := Data.func { name := Str.ofString "_law_pick", qualname := Str.ofString "_law_pick", params := (fnOf (stAt 23)).1, body := (FuncBody.stmts (fnOf (stAt 23)).2.1), scope := (fnOf (stAt 23)).2.2, globals := 0, closure := [], defaults := Value.none, kwdefaults := Value.none } }
def ob197v6 (P : Params) : Obj := { cls := Value.type "code", data := Data.fields #[Value.str (Str.ofString "_law_pick") 471, Value.str (Str.ofString "_law_pick") 472, Value.str (Str.ofString "/claim/cut.py") 473, Value.int 145 0, Value.int 2 0, Value.int 0 0, Value.int 0 0, Value.int 3 0, Value.ref 192, Value.bool true, Value.int 181 0, Value.ref 193, Value.none, Value.ref 194, Value.ref 195, Value.ref 196, Value.int 476 0, Value.int 145 0, Value.str (Str.ofString "/claim/cut.py") 477] }
def ob198v6 (P : Params) : Obj := { cls := Value.type "function", data := Data.func { name := Str.ofString "_law_pick", qualname := Str.ofString "_law_pick", params := (fnOf (stAt 23)).1, body := (FuncBody.stmts (fnOf (stAt 23)).2.1), scope := (fnOf (stAt 23)).2.2, globals := 3, closure := [], defaults := Value.none, kwdefaults := Value.none, pyModule := Value.str (Str.ofString "law_pq0616_02") 450, code := Value.ref 197 } }
def ob199v6 (P : Params) : Obj := { cls := Value.type "tuple", data := Data.seq #[] }
def ob200v6 (P : Params) : Obj := { cls := Value.none, data := Data.fields #[] }
def ob201v6 (P : Params) : Obj := { cls := Value.type "tuple", data := Data.seq #[Value.str (Str.ofString "name") 482] }
def ob202v6 (P : Params) : Obj := { cls := Value.type "tuple", data := Data.seq #[] }
def ob203v6 (P : Params) : Obj := { cls := Value.none, data := Data.func { name := Str.ofString "_law_ref", qualname := Str.ofString "_law_ref", params := (fnOf (stAt 24)).1, body := (FuncBody.stmts (fnOf (stAt 24)).2.1), scope := (fnOf (stAt 24)).2.2, globals := 0, closure := [], defaults := Value.none, kwdefaults := Value.none } }
def ob204v6 (P : Params) : Obj := { cls := Value.type "code", data := Data.fields #[Value.str (Str.ofString "_law_ref") 479, Value.str (Str.ofString "_law_ref") 480, Value.str (Str.ofString "/claim/cut.py") 481, Value.int 147 0, Value.int 1 0, Value.int 0 0, Value.int 0 0, Value.int 3 0, Value.ref 199, Value.bool true, Value.int 181 0, Value.ref 200, Value.none, Value.ref 201, Value.ref 202, Value.ref 203, Value.int 483 0, Value.int 147 0, Value.str (Str.ofString "/claim/cut.py") 484] }
def ob205v6 (P : Params) : Obj := { cls := Value.type "function", data := Data.func { name := Str.ofString "_law_ref", qualname := Str.ofString "_law_ref", params := (fnOf (stAt 24)).1, body := (FuncBody.stmts (fnOf (stAt 24)).2.1), scope := (fnOf (stAt 24)).2.2, globals := 3, closure := [], defaults := Value.none, kwdefaults := Value.none, pyModule := Value.str (Str.ofString "law_pq0616_02") 450, code := Value.ref 204 } }
def ob206v6 (P : Params) : Obj := { cls := Value.type "tuple", data := Data.seq #[] }
def ob207v6 (P : Params) : Obj := { cls := Value.none, data := Data.fields #[] }
def ob208v6 (P : Params) : Obj := { cls := Value.type "tuple", data := Data.seq #[Value.str (Str.ofString "table") 489, Value.str (Str.ofString "name") 490, Value.str (Str.ofString "worth") 491] }
def ob209v6 (P : Params) : Obj := { cls := Value.type "tuple", data := Data.seq #[] }
def ob210v6 (P : Params) : Obj := { cls := Value.none, data := Data.func { name := Str.ofString "_law_keep", qualname := Str.ofString "_law_keep", params := (fnOf (stAt 25)).1, body := (FuncBody.stmts (fnOf (stAt 25)).2.1), scope := (fnOf (stAt 25)).2.2, globals := 0, closure := [], defaults := Value.none, kwdefaults := Value.none } }
def ob211v6 (P : Params) : Obj := { cls := Value.type "code", data := Data.fields #[Value.str (Str.ofString "_law_keep") 486, Value.str (Str.ofString "_law_keep") 487, Value.str (Str.ofString "/claim/cut.py") 488, Value.int 149 0, Value.int 3 0, Value.int 0 0, Value.int 0 0, Value.int 3 0, Value.ref 206, Value.bool true, Value.int 181 0, Value.ref 207, Value.none, Value.ref 208, Value.ref 209, Value.ref 210, Value.int 492 0, Value.int 149 0, Value.str (Str.ofString "/claim/cut.py") 493] }
def ob212v6 (P : Params) : Obj := { cls := Value.type "function", data := Data.func { name := Str.ofString "_law_keep", qualname := Str.ofString "_law_keep", params := (fnOf (stAt 25)).1, body := (FuncBody.stmts (fnOf (stAt 25)).2.1), scope := (fnOf (stAt 25)).2.2, globals := 3, closure := [], defaults := Value.none, kwdefaults := Value.none, pyModule := Value.str (Str.ofString "law_pq0616_02") 450, code := Value.ref 211 } }
def hp5 (P : Params) : Heap := ⟨#[boot_o_0 P, boot_o_1 P, ob2v2 P, ob3v6 P, boot_o_4 P, boot_o_5 P, boot_o_6 P, boot_o_7 P, boot_o_8 P, boot_o_9 P, boot_o_10 P, ob11v1 P, ob12v6 P, ob13v1 P, ob14v1 P, ob15v2 P, ob16v2 P, ob17v2 P, ob18v2 P, ob19v2 P, ob20v2 P, ob21v2 P, ob22v2 P, ob23v2 P, ob24v2 P, ob25v2 P, ob26v2 P, ob27v2 P, ob28v2 P, ob29v2 P, ob30v2 P, ob31v2 P, ob32v2 P, ob33v2 P, ob34v2 P, ob35v2 P, ob36v2 P, ob37v2 P, ob38v2 P, ob39v2 P, ob40v3 P, ob41v2 P, ob42v2 P, ob43v2 P, ob44v3 P, ob45v3 P, ob46v3 P, ob47v3 P, ob48v3 P, ob49v3 P, ob50v3 P, ob51v3 P, ob52v3 P, ob53v3 P, ob54v3 P, ob55v3 P, ob56v3 P, ob57v3 P, ob58v3 P, ob59v3 P, ob60v3 P, ob61v3 P, ob62v3 P, ob63v3 P, ob64v3 P, ob65v3 P, ob66v3 P, ob67v3 P, ob68v3 P, ob69v3 P, ob70v4 P, ob71v4 P, ob72v4 P, ob73v4 P, ob74v4 P, ob75v4 P, ob76v4 P, ob77v4 P, ob78v4 P, ob79v4 P, ob80v4 P, ob81v4 P, ob82v4 P, ob83v4 P, ob84v4 P, ob85v4 P, ob86v4 P, ob87v4 P, ob88v4 P, ob89v4 P, ob90v4 P, ob91v4 P, ob92v4 P, ob93v4 P, ob94v4 P, ob95v4 P, ob96v4 P, ob97v4 P, ob98v4 P, ob99v4 P, ob100v4 P, ob101v4 P, ob102v4 P, ob103v4 P, ob104v4 P, ob105v4 P, ob106v4 P, ob107v4 P, ob108v4 P, ob109v4 P, ob110v4 P, ob111v4 P, ob112v4 P, ob113v4 P, ob114v4 P, ob115v4 P, ob116v4 P, ob117v4 P, ob118v4 P, ob119v5 P, ob120v5 P, ob121v5 P, ob122v5 P, ob123v5 P, ob124v5 P, ob125v5 P, ob126v5 P, ob127v5 P, ob128v5 P, ob129v5 P, ob130v5 P, ob131v5 P, ob132v5 P, ob133v5 P, ob134v5 P, ob135v5 P, ob136v5 P, ob137v5 P, ob138v5 P, ob139v5 P, ob140v5 P, ob141v5 P, ob142v5 P, ob143v5 P, ob144v5 P, ob145v5 P, ob146v5 P, ob147v5 P, ob148v5 P, ob149v5 P, ob150v5 P, ob151v5 P, ob152v5 P, ob153v5 P, ob154v6 P, ob155v6 P, ob156v6 P, ob157v6 P, ob158v6 P, ob159v6 P, ob160v6 P, ob161v6 P, ob162v6 P, ob163v6 P, ob164v6 P, ob165v6 P, ob166v6 P, ob167v6 P, ob168v6 P, ob169v6 P, ob170v6 P, ob171v6 P, ob172v6 P, ob173v6 P, ob174v6 P, ob175v6 P, ob176v6 P, ob177v6 P, ob178v6 P, ob179v6 P, ob180v6 P, ob181v6 P, ob182v6 P, ob183v6 P, ob184v6 P, ob185v6 P, ob186v6 P, ob187v6 P, ob188v6 P, ob189v6 P, ob190v6 P, ob191v6 P, ob192v6 P, ob193v6 P, ob194v6 P, ob195v6 P, ob196v6 P, ob197v6 P, ob198v6 P, ob199v6 P, ob200v6 P, ob201v6 P, ob202v6 P, ob203v6 P, ob204v6 P, ob205v6 P, ob206v6 P, ob207v6 P, ob208v6 P, ob209v6 P, ob210v6 P, ob211v6 P, ob212v6 P], { }⟩
abbrev sh5 (w : World) (os : OsState) : Shared := ⟨hp5 w.params, #[], { }, 495, os⟩
def ob3v7 (P : Params) : Obj := { cls := Value.type "dict", data := Data.dict #[{ hash := PyData.keyHash P (Str.ofString "__name__"), key := Value.str (Str.ofString "__name__") 165, val := Value.str (Str.ofString "law_pq0616_02") 450 }, { hash := PyData.keyHash P (Str.ofString "__doc__"), key := Value.str (Str.ofString "__doc__") 166, val := Value.none }, { hash := PyData.keyHash P (Str.ofString "__package__"), key := Value.str (Str.ofString "__package__") 167, val := Value.none }, { hash := PyData.keyHash P (Str.ofString "__loader__"), key := Value.str (Str.ofString "__loader__") 168, val := Value.builtin "__main__.__loader__#opaque" }, { hash := PyData.keyHash P (Str.ofString "__spec__"), key := Value.str (Str.ofString "__spec__") 169, val := Value.none }, { hash := PyData.keyHash P (Str.ofString "__annotations__"), key := Value.str (Str.ofString "__annotations__") 170, val := Value.ref 6 }, { hash := PyData.keyHash P (Str.ofString "__builtins__"), key := Value.str (Str.ofString "__builtins__") 171, val := Value.ref 4 }, { hash := PyData.keyHash P (Str.ofString "__file__"), key := Value.str (Str.ofString "__file__") 173, val := Value.str (Str.ofString "/claim/cut.py") 172 }, { hash := PyData.keyHash P (Str.ofString "__cached__"), key := Value.str (Str.ofString "__cached__") 174, val := Value.none }, { hash := PyData.keyHash P (Str.ofString "LedgerError"), key := Value.str (Str.ofString "LedgerError") 228, val := Value.ref 40 }, { hash := PyData.keyHash P (Str.ofString "RunFault"), key := Value.str (Str.ofString "RunFault") 244, val := Value.ref 53 }, { hash := PyData.keyHash P (Str.ofString "lies_at"), key := Value.str (Str.ofString "lies_at") 255, val := Value.ref 62 }, { hash := PyData.keyHash P (Str.ofString "first_at"), key := Value.str (Str.ofString "first_at") 265, val := Value.ref 69 }, { hash := PyData.keyHash P (Str.ofString "sent_part"), key := Value.str (Str.ofString "sent_part") 274, val := Value.ref 76 }, { hash := PyData.keyHash P (Str.ofString "strung"), key := Value.str (Str.ofString "strung") 289, val := Value.ref 83 }, { hash := PyData.keyHash P (Str.ofString "delimiter_at"), key := Value.str (Str.ofString "delimiter_at") 300, val := Value.ref 90 }, { hash := PyData.keyHash P (Str.ofString "behind_delimiter"), key := Value.str (Str.ofString "behind_delimiter") 311, val := Value.ref 97 }, { hash := PyData.keyHash P (Str.ofString "next_piece"), key := Value.str (Str.ofString "next_piece") 322, val := Value.ref 104 }, { hash := PyData.keyHash P (Str.ofString "unstrung"), key := Value.str (Str.ofString "unstrung") 336, val := Value.ref 111 }, { hash := PyData.keyHash P (Str.ofString "cut_by_sizes"), key := Value.str (Str.ofString "cut_by_sizes") 348, val := Value.ref 118 }, { hash := PyData.keyHash P (Str.ofString "Hands"), key := Value.str (Str.ofString "Hands") 389, val := Value.ref 135 }, { hash := PyData.keyHash P (Str.ofString "lone_octets"), key := Value.str (Str.ofString "lone_octets") 397, val := Value.ref 146 }, { hash := PyData.keyHash P (Str.ofString "pointed"), key := Value.str (Str.ofString "pointed") 405, val := Value.ref 153 }, { hash := PyData.keyHash P (Str.ofString "moved_on"), key := Value.str (Str.ofString "moved_on") 414, val := Value.ref 160 }, { hash := PyData.keyHash P (Str.ofString "string_with"), key := Value.str (Str.ofString "string_with") 429, val := Value.ref 167 }, { hash := PyData.keyHash P (Str.ofString "lay_pieces"), key := Value.str (Str.ofString "lay_pieces") 443, val := Value.ref 174 }, { hash := PyData.keyHash P (Str.ofString "unstring_with"), key := Value.str (Str.ofString "unstring_with") 449, val := Value.ref 179 }, { hash := PyData.keyHash P (Str.ofString "_law_pen"), key := Value.str (Str.ofString "_law_pen") 457, val := Value.ref 184 }, { hash := PyData.keyHash P (Str.ofString "_law_draw"), key := Value.str (Str.ofString "_law_draw") 470, val := Value.ref 191 }, { hash := PyData.keyHash P (Str.ofString "_law_pick"), key := Value.str (Str.ofString "_law_pick") 478, val := Value.ref 198 }, { hash := PyData.keyHash P (Str.ofString "_law_ref"), key := Value.str (Str.ofString "_law_ref") 485, val := Value.ref 205 }, { hash := PyData.keyHash P (Str.ofString "_law_keep"), key := Value.str (Str.ofString "_law_keep") 494, val := Value.ref 212 }, { hash := PyData.keyHash P (Str.ofString "_law_hands"), key := Value.str (Str.ofString "_law_hands") 504, val := Value.ref 219 }, { hash := PyData.keyHash P (Str.ofString "_law_due"), key := Value.str (Str.ofString "_law_due") 517, val := Value.ref 226 }, { hash := PyData.keyHash P (Str.ofString "_law_cut_right"), key := Value.str (Str.ofString "_law_cut_right") 523, val := Value.ref 231 }, { hash := PyData.keyHash P (Str.ofString "_law_step_right"), key := Value.str (Str.ofString "_law_step_right") 537, val := Value.ref 238 }, { hash := PyData.keyHash P (Str.ofString "_law_laid_right"), key := Value.str (Str.ofString "_law_laid_right") 543, val := Value.ref 243 }, { hash := PyData.keyHash P (Str.ofString "law"), key := Value.str (Str.ofString "law") 549, val := Value.ref 248 }] 38 }
def ob12v7 (P : Params) : Obj := { cls := Value.none, data := Data.fields #[Value.int 2 0, Value.int 0 0, Value.ref 20, Value.int 11 0, Value.int 0 0, Value.ref 49, Value.int 14 0, Value.int 0 0, Value.ref 61, Value.int 16 0, Value.int 0 0, Value.ref 68, Value.int 23 0, Value.int 0 0, Value.ref 75, Value.int 28 0, Value.int 0 0, Value.ref 82, Value.int 41 0, Value.int 0 0, Value.ref 89, Value.int 48 0, Value.int 0 0, Value.ref 96, Value.int 53 0, Value.int 0 0, Value.ref 103, Value.int 59 0, Value.int 0 0, Value.ref 110, Value.int 67 0, Value.int 0 0, Value.ref 117, Value.int 76 0, Value.int 0 0, Value.ref 124, Value.int 86 0, Value.int 0 0, Value.ref 145, Value.int 88 0, Value.int 0 0, Value.ref 152, Value.int 90 0, Value.int 0 0, Value.ref 159, Value.int 93 0, Value.int 0 0, Value.ref 166, Value.int 102 0, Value.int 0 0, Value.ref 173, Value.int 110 0, Value.int 0 0, Value.ref 178, Value.int 126 0, Value.int 0 0, Value.ref 183, Value.int 128 0, Value.int 0 0, Value.ref 190, Value.int 145 0, Value.int 0 0, Value.ref 197, Value.int 147 0, Value.int 0 0, Value.ref 204, Value.int 149 0, Value.int 0 0, Value.ref 211, Value.int 151 0, Value.int 0 0, Value.ref 218, Value.int 160 0, Value.int 0 0, Value.ref 225, Value.int 170 0, Value.int 0 0, Value.ref 230, Value.int 186 0, Value.int 0 0, Value.ref 237, Value.int 192 0, Value.int 0 0, Value.ref 242, Value.int 204 0, Value.int 0 0, Value.ref 247] }
def ob213v7 (P : Params) : Obj := { cls := Value.type "tuple", data := Data.seq #[] }
def ob214v7 (P : Params) : Obj := { cls := Value.none, data := Data.fields #[] }
def ob215v7 (P : Params) : Obj := { cls := Value.type "tuple", data := Data.seq #[Value.str (Str.ofString "items") 498, Value.str (Str.ofString "numbers") 499] }
def ob216v7 (P : Params) : Obj := { cls := Value.type "tuple", data := Data.seq #[Value.str (Str.ofString "items") 500, Value.str (Str.ofString "numbers") 501] }
def ob217v7 (P : Params) : Obj := { cls := Value.none, data := Data.func { name := Str.ofString "_law_hands", qualname := Str.ofString "_law_hands", params := (fnOf (stAt 26)).1, body := (FuncBody.stmts (fnOf (stAt 26)).2.1), scope := (fnOf (stAt 26)).2.2, globals := 0, closure := [], defaults := Value.none, kwdefaults := Value.none } }
def ob218v7 (P : Params) : Obj := { cls := Value.type "code", data := Data.fields #[Value.str (Str.ofString "_law_hands") 495, Value.str (Str.ofString "_law_hands") 496, Value.str (Str.ofString "/claim/cut.py") 497, Value.int 151 0, Value.int 2 0, Value.int 0 0, Value.int 0 0, Value.int 3 0, Value.ref 213, Value.bool true, Value.int 181 0, Value.ref 214, Value.none, Value.ref 215, Value.ref 216, Value.ref 217, Value.int 502 0, Value.int 151 0, Value.str (Str.ofString "/claim/cut.py") 503] }
def ob219v7 (P : Params) : Obj := { cls := Value.type "function", data := Data.func { name := Str.ofString "_law_hands", qualname := Str.ofString "_law_hands", params := (fnOf (stAt 26)).1, body := (FuncBody.stmts (fnOf (stAt 26)).2.1), scope := (fnOf (stAt 26)).2.2, globals := 3, closure := [], defaults := Value.none, kwdefaults := Value.none, pyModule := Value.str (Str.ofString "law_pq0616_02") 450, code := Value.ref 218 } }
def ob220v7 (P : Params) : Obj := { cls := Value.type "tuple", data := Data.seq #[] }
def ob221v7 (P : Params) : Obj := { cls := Value.none, data := Data.fields #[] }
def ob222v7 (P : Params) : Obj := { cls := Value.type "tuple", data := Data.seq #[Value.str (Str.ofString "source") 508, Value.str (Str.ofString "widths") 509, Value.str (Str.ofString "begin") 510, Value.str (Str.ofString "pieces") 511, Value.str (Str.ofString "place") 512, Value.str (Str.ofString "width") 513, Value.str (Str.ofString "piece") 514] }
def ob223v7 (P : Params) : Obj := { cls := Value.type "tuple", data := Data.seq #[] }
def ob224v7 (P : Params) : Obj := { cls := Value.none, data := Data.func { name := Str.ofString "_law_due", qualname := Str.ofString "_law_due", params := (fnOf (stAt 27)).1, body := (FuncBody.stmts (fnOf (stAt 27)).2.1), scope := (fnOf (stAt 27)).2.2, globals := 0, closure := [], defaults := Value.none, kwdefaults := Value.none } }
def ob225v7 (P : Params) : Obj := { cls := Value.type "code", data := Data.fields #[Value.str (Str.ofString "_law_due") 505, Value.str (Str.ofString "_law_due") 506, Value.str (Str.ofString "/claim/cut.py") 507, Value.int 160 0, Value.int 3 0, Value.int 0 0, Value.int 0 0, Value.int 3 0, Value.ref 220, Value.bool true, Value.int 181 0, Value.ref 221, Value.none, Value.ref 222, Value.ref 223, Value.ref 224, Value.int 515 0, Value.int 160 0, Value.str (Str.ofString "/claim/cut.py") 516] }
def ob226v7 (P : Params) : Obj := { cls := Value.type "function", data := Data.func { name := Str.ofString "_law_due", qualname := Str.ofString "_law_due", params := (fnOf (stAt 27)).1, body := (FuncBody.stmts (fnOf (stAt 27)).2.1), scope := (fnOf (stAt 27)).2.2, globals := 3, closure := [], defaults := Value.none, kwdefaults := Value.none, pyModule := Value.str (Str.ofString "law_pq0616_02") 450, code := Value.ref 225 } }
def ob227v7 (P : Params) : Obj := { cls := Value.type "tuple", data := Data.seq #[] }
def ob228v7 (P : Params) : Obj := { cls := Value.none, data := Data.fields #[] }
def ob229v7 (P : Params) : Obj := { cls := Value.none, data := Data.func { name := Str.ofString "_law_cut_right", qualname := Str.ofString "_law_cut_right", params := (fnOf (stAt 28)).1, body := (FuncBody.stmts (fnOf (stAt 28)).2.1), scope := (fnOf (stAt 28)).2.2, globals := 0, closure := [], defaults := Value.none, kwdefaults := Value.none } }
def ob230v7 (P : Params) : Obj := { cls := Value.type "code", data := Data.fields #[Value.str (Str.ofString "_law_cut_right") 518, Value.str (Str.ofString "_law_cut_right") 519, Value.str (Str.ofString "/claim/cut.py") 520, Value.int 170 0, Value.int 3 0, Value.int 0 0, Value.int 0 0, Value.int 3 0, Value.ref 227, Value.bool true, Value.int 181 0, Value.ref 228, Value.none, Value.none, Value.none, Value.ref 229, Value.int 521 0, Value.int 170 0, Value.str (Str.ofString "/claim/cut.py") 522] }
def ob231v7 (P : Params) : Obj := { cls := Value.type "function", data := Data.func { name := Str.ofString "_law_cut_right", qualname := Str.ofString "_law_cut_right", params := (fnOf (stAt 28)).1, body := (FuncBody.stmts (fnOf (stAt 28)).2.1), scope := (fnOf (stAt 28)).2.2, globals := 3, closure := [], defaults := Value.none, kwdefaults := Value.none, pyModule := Value.str (Str.ofString "law_pq0616_02") 450, code := Value.ref 230 } }
def ob232v7 (P : Params) : Obj := { cls := Value.type "tuple", data := Data.seq #[] }
def ob233v7 (P : Params) : Obj := { cls := Value.none, data := Data.fields #[] }
def ob234v7 (P : Params) : Obj := { cls := Value.type "tuple", data := Data.seq #[Value.str (Str.ofString "source") 527, Value.str (Str.ofString "widths") 528, Value.str (Str.ofString "begin") 529, Value.str (Str.ofString "pieces") 530, Value.str (Str.ofString "place") 531, Value.str (Str.ofString "width") 532, Value.str (Str.ofString "told") 533, Value.str (Str.ofString "is_left") 534] }
def ob235v7 (P : Params) : Obj := { cls := Value.type "tuple", data := Data.seq #[] }
def ob236v7 (P : Params) : Obj := { cls := Value.none, data := Data.func { name := Str.ofString "_law_step_right", qualname := Str.ofString "_law_step_right", params := (fnOf (stAt 29)).1, body := (FuncBody.stmts (fnOf (stAt 29)).2.1), scope := (fnOf (stAt 29)).2.2, globals := 0, closure := [], defaults := Value.none, kwdefaults := Value.none } }
def ob237v7 (P : Params) : Obj := { cls := Value.type "code", data := Data.fields #[Value.str (Str.ofString "_law_step_right") 524, Value.str (Str.ofString "_law_step_right") 525, Value.str (Str.ofString "/claim/cut.py") 526, Value.int 186 0, Value.int 3 0, Value.int 0 0, Value.int 0 0, Value.int 3 0, Value.ref 232, Value.bool true, Value.int 181 0, Value.ref 233, Value.none, Value.ref 234, Value.ref 235, Value.ref 236, Value.int 535 0, Value.int 186 0, Value.str (Str.ofString "/claim/cut.py") 536] }
def ob238v7 (P : Params) : Obj := { cls := Value.type "function", data := Data.func { name := Str.ofString "_law_step_right", qualname := Str.ofString "_law_step_right", params := (fnOf (stAt 29)).1, body := (FuncBody.stmts (fnOf (stAt 29)).2.1), scope := (fnOf (stAt 29)).2.2, globals := 3, closure := [], defaults := Value.none, kwdefaults := Value.none, pyModule := Value.str (Str.ofString "law_pq0616_02") 450, code := Value.ref 237 } }
def ob239v7 (P : Params) : Obj := { cls := Value.type "tuple", data := Data.seq #[] }
def ob240v7 (P : Params) : Obj := { cls := Value.none, data := Data.fields #[] }
def ob241v7 (P : Params) : Obj := { cls := Value.none, data := Data.func { name := Str.ofString "_law_laid_right", qualname := Str.ofString "_law_laid_right", params := (fnOf (stAt 30)).1, body := (FuncBody.stmts (fnOf (stAt 30)).2.1), scope := (fnOf (stAt 30)).2.2, globals := 0, closure := [], defaults := Value.none, kwdefaults := Value.none } }
def ob242v7 (P : Params) : Obj := { cls := Value.type "code", data := Data.fields #[Value.str (Str.ofString "_law_laid_right") 538, Value.str (Str.ofString "_law_laid_right") 539, Value.str (Str.ofString "/claim/cut.py") 540, Value.int 192 0, Value.int 3 0, Value.int 0 0, Value.int 0 0, Value.int 3 0, Value.ref 239, Value.bool true, Value.int 181 0, Value.ref 240, Value.none, Value.none, Value.none, Value.ref 241, Value.int 541 0, Value.int 192 0, Value.str (Str.ofString "/claim/cut.py") 542] }
def ob243v7 (P : Params) : Obj := { cls := Value.type "function", data := Data.func { name := Str.ofString "_law_laid_right", qualname := Str.ofString "_law_laid_right", params := (fnOf (stAt 30)).1, body := (FuncBody.stmts (fnOf (stAt 30)).2.1), scope := (fnOf (stAt 30)).2.2, globals := 3, closure := [], defaults := Value.none, kwdefaults := Value.none, pyModule := Value.str (Str.ofString "law_pq0616_02") 450, code := Value.ref 242 } }
def ob244v7 (P : Params) : Obj := { cls := Value.type "tuple", data := Data.seq #[] }
def ob245v7 (P : Params) : Obj := { cls := Value.none, data := Data.fields #[] }
def ob246v7 (P : Params) : Obj := { cls := Value.none, data := Data.func { name := Str.ofString "law", qualname := Str.ofString "law", params := (fnOf (stAt 31)).1, body := (FuncBody.stmts (fnOf (stAt 31)).2.1), scope := (fnOf (stAt 31)).2.2, globals := 0, closure := [], defaults := Value.none, kwdefaults := Value.none } }
def ob247v7 (P : Params) : Obj := { cls := Value.type "code", data := Data.fields #[Value.str (Str.ofString "law") 544, Value.str (Str.ofString "law") 545, Value.str (Str.ofString "/claim/cut.py") 546, Value.int 204 0, Value.int 1 0, Value.int 0 0, Value.int 0 0, Value.int 3 0, Value.ref 244, Value.bool true, Value.int 181 0, Value.ref 245, Value.none, Value.none, Value.none, Value.ref 246, Value.int 547 0, Value.int 204 0, Value.str (Str.ofString "/claim/cut.py") 548] }
def ob248v7 (P : Params) : Obj := { cls := Value.type "function", data := Data.func { name := Str.ofString "law", qualname := Str.ofString "law", params := (fnOf (stAt 31)).1, body := (FuncBody.stmts (fnOf (stAt 31)).2.1), scope := (fnOf (stAt 31)).2.2, globals := 3, closure := [], defaults := Value.none, kwdefaults := Value.none, pyModule := Value.str (Str.ofString "law_pq0616_02") 450, code := Value.ref 247 } }
def hp6 (P : Params) : Heap := ⟨#[boot_o_0 P, boot_o_1 P, ob2v2 P, ob3v7 P, boot_o_4 P, boot_o_5 P, boot_o_6 P, boot_o_7 P, boot_o_8 P, boot_o_9 P, boot_o_10 P, ob11v1 P, ob12v7 P, ob13v1 P, ob14v1 P, ob15v2 P, ob16v2 P, ob17v2 P, ob18v2 P, ob19v2 P, ob20v2 P, ob21v2 P, ob22v2 P, ob23v2 P, ob24v2 P, ob25v2 P, ob26v2 P, ob27v2 P, ob28v2 P, ob29v2 P, ob30v2 P, ob31v2 P, ob32v2 P, ob33v2 P, ob34v2 P, ob35v2 P, ob36v2 P, ob37v2 P, ob38v2 P, ob39v2 P, ob40v3 P, ob41v2 P, ob42v2 P, ob43v2 P, ob44v3 P, ob45v3 P, ob46v3 P, ob47v3 P, ob48v3 P, ob49v3 P, ob50v3 P, ob51v3 P, ob52v3 P, ob53v3 P, ob54v3 P, ob55v3 P, ob56v3 P, ob57v3 P, ob58v3 P, ob59v3 P, ob60v3 P, ob61v3 P, ob62v3 P, ob63v3 P, ob64v3 P, ob65v3 P, ob66v3 P, ob67v3 P, ob68v3 P, ob69v3 P, ob70v4 P, ob71v4 P, ob72v4 P, ob73v4 P, ob74v4 P, ob75v4 P, ob76v4 P, ob77v4 P, ob78v4 P, ob79v4 P, ob80v4 P, ob81v4 P, ob82v4 P, ob83v4 P, ob84v4 P, ob85v4 P, ob86v4 P, ob87v4 P, ob88v4 P, ob89v4 P, ob90v4 P, ob91v4 P, ob92v4 P, ob93v4 P, ob94v4 P, ob95v4 P, ob96v4 P, ob97v4 P, ob98v4 P, ob99v4 P, ob100v4 P, ob101v4 P, ob102v4 P, ob103v4 P, ob104v4 P, ob105v4 P, ob106v4 P, ob107v4 P, ob108v4 P, ob109v4 P, ob110v4 P, ob111v4 P, ob112v4 P, ob113v4 P, ob114v4 P, ob115v4 P, ob116v4 P, ob117v4 P, ob118v4 P, ob119v5 P, ob120v5 P, ob121v5 P, ob122v5 P, ob123v5 P, ob124v5 P, ob125v5 P, ob126v5 P, ob127v5 P, ob128v5 P, ob129v5 P, ob130v5 P, ob131v5 P, ob132v5 P, ob133v5 P, ob134v5 P, ob135v5 P, ob136v5 P, ob137v5 P, ob138v5 P, ob139v5 P, ob140v5 P, ob141v5 P, ob142v5 P, ob143v5 P, ob144v5 P, ob145v5 P, ob146v5 P, ob147v5 P, ob148v5 P, ob149v5 P, ob150v5 P, ob151v5 P, ob152v5 P, ob153v5 P, ob154v6 P, ob155v6 P, ob156v6 P, ob157v6 P, ob158v6 P, ob159v6 P, ob160v6 P, ob161v6 P, ob162v6 P, ob163v6 P, ob164v6 P, ob165v6 P, ob166v6 P, ob167v6 P, ob168v6 P, ob169v6 P, ob170v6 P, ob171v6 P, ob172v6 P, ob173v6 P, ob174v6 P, ob175v6 P, ob176v6 P, ob177v6 P, ob178v6 P, ob179v6 P, ob180v6 P, ob181v6 P, ob182v6 P, ob183v6 P, ob184v6 P, ob185v6 P, ob186v6 P, ob187v6 P, ob188v6 P, ob189v6 P, ob190v6 P, ob191v6 P, ob192v6 P, ob193v6 P, ob194v6 P, ob195v6 P, ob196v6 P, ob197v6 P, ob198v6 P, ob199v6 P, ob200v6 P, ob201v6 P, ob202v6 P, ob203v6 P, ob204v6 P, ob205v6 P, ob206v6 P, ob207v6 P, ob208v6 P, ob209v6 P, ob210v6 P, ob211v6 P, ob212v6 P, ob213v7 P, ob214v7 P, ob215v7 P, ob216v7 P, ob217v7 P, ob218v7 P, ob219v7 P, ob220v7 P, ob221v7 P, ob222v7 P, ob223v7 P, ob224v7 P, ob225v7 P, ob226v7 P, ob227v7 P, ob228v7 P, ob229v7 P, ob230v7 P, ob231v7 P, ob232v7 P, ob233v7 P, ob234v7 P, ob235v7 P, ob236v7 P, ob237v7 P, ob238v7 P, ob239v7 P, ob240v7 P, ob241v7 P, ob242v7 P, ob243v7 P, ob244v7 P, ob245v7 P, ob246v7 P, ob247v7 P, ob248v7 P], { }⟩
abbrev sh6 (w : World) (os : OsState) : Shared := ⟨hp6 w.params, #[], { }, 550, os⟩
def hp7 (P : Params) : Heap := ⟨#[boot_o_0 P, boot_o_1 P, ob2v2 P, ob3v7 P, boot_o_4 P, boot_o_5 P, boot_o_6 P, boot_o_7 P, boot_o_8 P, boot_o_9 P, boot_o_10 P, ob11v1 P, ob12v7 P, ob13v1 P, ob14v1 P, ob15v2 P, ob16v2 P, ob17v2 P, ob18v2 P, ob19v2 P, ob20v2 P, ob21v2 P, ob22v2 P, ob23v2 P, ob24v2 P, ob25v2 P, ob26v2 P, ob27v2 P, ob28v2 P, ob29v2 P, ob30v2 P, ob31v2 P, ob32v2 P, ob33v2 P, ob34v2 P, ob35v2 P, ob36v2 P, ob37v2 P, ob38v2 P, ob39v2 P, ob40v3 P, ob41v2 P, ob42v2 P, ob43v2 P, ob44v3 P, ob45v3 P, ob46v3 P, ob47v3 P, ob48v3 P, ob49v3 P, ob50v3 P, ob51v3 P, ob52v3 P, ob53v3 P, ob54v3 P, ob55v3 P, ob56v3 P, ob57v3 P, ob58v3 P, ob59v3 P, ob60v3 P, ob61v3 P, ob62v3 P, ob63v3 P, ob64v3 P, ob65v3 P, ob66v3 P, ob67v3 P, ob68v3 P, ob69v3 P, ob70v4 P, ob71v4 P, ob72v4 P, ob73v4 P, ob74v4 P, ob75v4 P, ob76v4 P, ob77v4 P, ob78v4 P, ob79v4 P, ob80v4 P, ob81v4 P, ob82v4 P, ob83v4 P, ob84v4 P, ob85v4 P, ob86v4 P, ob87v4 P, ob88v4 P, ob89v4 P, ob90v4 P, ob91v4 P, ob92v4 P, ob93v4 P, ob94v4 P, ob95v4 P, ob96v4 P, ob97v4 P, ob98v4 P, ob99v4 P, ob100v4 P, ob101v4 P, ob102v4 P, ob103v4 P, ob104v4 P, ob105v4 P, ob106v4 P, ob107v4 P, ob108v4 P, ob109v4 P, ob110v4 P, ob111v4 P, ob112v4 P, ob113v4 P, ob114v4 P, ob115v4 P, ob116v4 P, ob117v4 P, ob118v4 P, ob119v5 P, ob120v5 P, ob121v5 P, ob122v5 P, ob123v5 P, ob124v5 P, ob125v5 P, ob126v5 P, ob127v5 P, ob128v5 P, ob129v5 P, ob130v5 P, ob131v5 P, ob132v5 P, ob133v5 P, ob134v5 P, ob135v5 P, ob136v5 P, ob137v5 P, ob138v5 P, ob139v5 P, ob140v5 P, ob141v5 P, ob142v5 P, ob143v5 P, ob144v5 P, ob145v5 P, ob146v5 P, ob147v5 P, ob148v5 P, ob149v5 P, ob150v5 P, ob151v5 P, ob152v5 P, ob153v5 P, ob154v6 P, ob155v6 P, ob156v6 P, ob157v6 P, ob158v6 P, ob159v6 P, ob160v6 P, ob161v6 P, ob162v6 P, ob163v6 P, ob164v6 P, ob165v6 P, ob166v6 P, ob167v6 P, ob168v6 P, ob169v6 P, ob170v6 P, ob171v6 P, ob172v6 P, ob173v6 P, ob174v6 P, ob175v6 P, ob176v6 P, ob177v6 P, ob178v6 P, ob179v6 P, ob180v6 P, ob181v6 P, ob182v6 P, ob183v6 P, ob184v6 P, ob185v6 P, ob186v6 P, ob187v6 P, ob188v6 P, ob189v6 P, ob190v6 P, ob191v6 P, ob192v6 P, ob193v6 P, ob194v6 P, ob195v6 P, ob196v6 P, ob197v6 P, ob198v6 P, ob199v6 P, ob200v6 P, ob201v6 P, ob202v6 P, ob203v6 P, ob204v6 P, ob205v6 P, ob206v6 P, ob207v6 P, ob208v6 P, ob209v6 P, ob210v6 P, ob211v6 P, ob212v6 P, ob213v7 P, ob214v7 P, ob215v7 P, ob216v7 P, ob217v7 P, ob218v7 P, ob219v7 P, ob220v7 P, ob221v7 P, ob222v7 P, ob223v7 P, ob224v7 P, ob225v7 P, ob226v7 P, ob227v7 P, ob228v7 P, ob229v7 P, ob230v7 P, ob231v7 P, ob232v7 P, ob233v7 P, ob234v7 P, ob235v7 P, ob236v7 P, ob237v7 P, ob238v7 P, ob239v7 P, ob240v7 P, ob241v7 P, ob242v7 P, ob243v7 P, ob244v7 P, ob245v7 P, ob246v7 P, ob247v7 P, ob248v7 P], { }⟩
abbrev sh7 (w : World) (os : OsState) : Shared := ⟨hp7 w.params, #[], { }, 550, os⟩
def topEnv : Env := { scope := PG.main.scope, locals := mainNs, globals := mainNs, cells := [], code := Value.ref 13, frame := some 14 }
def topBody : List Stmt := behindTheImports PG
def topCode : Code := .body topBody topEnv
abbrev topAnn : Option Value := some (Value.ref 6)
abbrev topB : List Frame := [topFrame { line := 0, col := 0, endLine := 0, endCol := 0 }]
def grp1 : List Stmt := [stAt 0, stAt 1]
def grp2 : List Stmt := [stAt 2, stAt 3, stAt 4, stAt 5]
def grp3 : List Stmt := [stAt 6, stAt 7, stAt 8, stAt 9, stAt 10, stAt 11, stAt 12]
def grp4 : List Stmt := [stAt 13, stAt 14, stAt 15]
def grp5 : List Stmt := [stAt 16, stAt 17, stAt 18, stAt 19, stAt 20, stAt 21, stAt 22, stAt 23, stAt 24, stAt 25]
def grp6 : List Stmt := [stAt 26, stAt 27, stAt 28, stAt 29, stAt 30, stAt 31]
theorem topBody_is : topBody = grp1 ++ (grp2 ++ (grp3 ++ (grp4 ++ (grp5 ++ (grp6 ++ ([])))))) := by kernel_rfl
theorem runPre (w : World) (os : OsState) : topGo treeTable PG w 11 topAnn 12 ⟨boot_heap w.params, #[], boot_drawn, boot_toks, os⟩ (topStub PG) = some (sh0 w os, ⟨denote treeTable topCode, topCode, { line := 0, col := 0, endLine := 0, endCol := 0 }, topB⟩) := by kernel_rfl
theorem runBlk (w : World) (os : OsState) : segRun treeTable PG w 11 topAnn 1 1 (sh0 w os) (blockOf topBody topEnv topCode { line := 0, col := 0, endLine := 0, endCol := 0 } topB) = some (.next, sh0 w os, topCode, { line := 0, col := 0, endLine := 0, endCol := 0 }) := by kernel_rfl
theorem run1 (w : World) (os : OsState) : segRun treeTable PG w 11 topAnn 1 276 (sh0 w os) (piecesOf grp1 topEnv topCode { line := 0, col := 0, endLine := 0, endCol := 0 } topB) = some (.next, sh1 w os, topCode, { line := 2, col := 0, endLine := 10, endCol := 35 }) := by
  rw [PySem.W.Fast.te14374325043358763698, PySem.W.Fast.te14364793385576792824]
  kernel_rfl
theorem run2 (w : World) (os : OsState) : segRun treeTable PG w 11 topAnn 1 286 (sh1 w os) (piecesOf grp2 topEnv topCode { line := 2, col := 0, endLine := 10, endCol := 35 } topB) = some (.next, sh2 w os, topCode, { line := 16, col := 0, endLine := 22, endCol := 13 }) := by
  rw [PySem.W.Fast.te14374325043358763698, PySem.W.Fast.te14364793385576792824]
  kernel_rfl
theorem run3 (w : World) (os : OsState) : segRun treeTable PG w 11 topAnn 1 238 (sh2 w os) (piecesOf grp3 topEnv topCode { line := 16, col := 0, endLine := 22, endCol := 13 } topB) = some (.next, sh3 w os, topCode, { line := 67, col := 0, endLine := 75, endCol := 45 }) := by
  rw [PySem.W.Fast.te14374325043358763698, PySem.W.Fast.te14364793385576792824]
  kernel_rfl
theorem run4 (w : World) (os : OsState) : segRun treeTable PG w 11 topAnn 1 295 (sh3 w os) (piecesOf grp4 topEnv topCode { line := 67, col := 0, endLine := 75, endCol := 45 } topB) = some (.next, sh4 w os, topCode, { line := 88, col := 0, endLine := 89, endCol := 58 }) := by
  rw [PySem.W.Fast.te14374325043358763698, PySem.W.Fast.te14364793385576792824]
  kernel_rfl
theorem run5 (w : World) (os : OsState) : segRun treeTable PG w 11 topAnn 1 291 (sh4 w os) (piecesOf grp5 topEnv topCode { line := 88, col := 0, endLine := 89, endCol := 58 } topB) = some (.next, sh5 w os, topCode, { line := 149, col := 0, endLine := 150, endCol := 23 }) := by
  rw [PySem.W.Fast.te14374325043358763698, PySem.W.Fast.te14364793385576792824]
  kernel_rfl
theorem run6 (w : World) (os : OsState) : segRun treeTable PG w 11 topAnn 1 182 (sh5 w os) (piecesOf grp6 topEnv topCode { line := 149, col := 0, endLine := 150, endCol := 23 } topB) = some (.next, sh6 w os, topCode, { line := 204, col := 0, endLine := 220, endCol := 15 }) := by
  rw [PySem.W.Fast.te14374325043358763698, PySem.W.Fast.te14364793385576792824]
  kernel_rfl
theorem runFin (w : World) (os : OsState) : topRun treeTable PG w 11 topAnn 2 (sh6 w os) ⟨doneF .next, topCode, { line := 204, col := 0, endLine := 220, endCol := 15 }, topB⟩ = some (sh7 w os) := by kernel_rfl
theorem runAll (w : World) (os : OsState) : topRun treeTable PG w 11 topAnn (12 + (1 + (276 + (286 + (238 + (295 + (291 + (182 + (2))))))))) ⟨boot_heap w.params, #[], boot_drawn, boot_toks, os⟩ (topStub PG) = some (sh7 w os) := by
  have h := piece_app (run1 w os) (piece_app (run2 w os) (piece_app (run3 w os) (piece_app (run4 w os) (piece_app (run5 w os) (piece_app (run6 w os) (piece_nil (runFin w os)))))))
  rw [← topBody_is] at h
  exact go_top (runPre w os) (piece_block (runBlk w os) h)
theorem lookA (w : World) (os : OsState) : (staticsOk (importedModules PG.main.body) (boot_heap w.params) (hp7 w.params) && namesBound PG (hp7 w.params) && gensDone (sh7 w os) && laidKept (boot_heap w.params) (hp7 w.params)) = true := by kernel_rfl
theorem lookB (w : World) (os : OsState) : openSeen vw [Str.ofString "LedgerError"] (importedModules PG.main.body) (fun s => xlAt vw [] s && recOk (RowW.records PySem.Challenge.rw_pq0616_02.row.toRowW) s) true (sh7 w os) = openGood vw [Str.ofString "LedgerError"] := by kernel_rfl
theorem lookC (w : World) (os : OsState) : Hook.obs HH (sh7 w os) = Hook.val HH w := by kernel_rfl
theorem left1 : LeftO PG vw [Str.ofString "LedgerError"] (fun s => xlAt vw [] s && recOk (RowW.records PySem.Challenge.rw_pq0616_02.row.toRowW) s) (Hook.obs HH) (Hook.val HH) 3250 :=
  LeftO.of_pieces (H₀ := boot_heap) (H₁ := hp7) (gs₀ := #[]) (gs₁ := #[]) (d₀ := boot_drawn) (d₁ := { }) (k₀ := boot_toks) (k₁ := 550) (m₀ := 11) (ann := topAnn) (M := 12 + (1 + (276 + (286 + (238 + (295 + (291 + (182 + (2)))))))))
    (boot_open (by kernel_rfl) (by kernel_rfl) (fun s => by kernel_rfl)) (fun w => by kernel_rfl) runAll (by kernel_rfl) (fun w => funext fun os => Prod.ext (lookA w os) (Prod.ext (lookB w os) (lookC w os)))
theorem said0 : OpenRow.wellSaid PySem.Challenge.rw_pq0616_02.row = true := by
  rw [PySem.W.Fast.te17960256430627541270]
  kernel_rfl
theorem said1 : OpenLaw.wellSaid PySem.Challenge.rw_pq0616_02 = true := by
  delta OpenLaw.wellSaid
  rw [said0]
  kernel_rfl
theorem hd : WalkO vw [Str.ofString "LedgerError"] (XL vw []) (Hook.says HH) PySem.Challenge.rw_pq0616_02.row.toRowW ⟨Str.ofString "law", (fnOf (stAt 31)).1, (fnOf (stAt 31)).2.1, (fnOf (stAt 31)).2.2, ⟨204, 0, 220, 15⟩⟩ [] (fun f vs => PySem.call f vs) → PySem.Challenge.rw_pq0616_02.Holds := fun walk =>
  holds_law said1 fun said => holds_open (r := PySem.Challenge.rw_pq0616_02.row) left1 (Hook.of HH) (Hook.keeps HH) (fun s e => xl_of s (Bool.and_eq_true_iff.mp e).1) XL.keeps (by kernel_rfl) (by kernel_rfl) (by kernel_rfl) (fun s e => recFacts_of (Bool.and_eq_true_iff.mp e).2) (by kernel_rfl) said (by kernel_rfl) ⟨rfl, rfl, rfl, rfl, rfl, by kernel_rfl⟩ (by w_witness2) walk
abbrev PV := vw
abbrev PC : Addr := 218
abbrev lamQual : Str := PySem.Str.ofString "_law_hands.<locals>.<lambda>"
open PySem.Calls PySem.Spec PyProof.V
section
open Builtin
theorem slot_bytes_join : Slot "bytes" "join" "bytes.join" :=
  .of (owner := "bytes") (n := "join") (by rw [typeLookup_type, builtinLookup_eq_fast]; kernel_rfl) (by decide +kernel) (by decide +kernel) (by decide +kernel)
    (by first | exact .inl (by decide +kernel) | exact .inr (by decide +kernel)) (by rw [isSubtype_type]; kernel_rfl)
theorem type_bytes_join : typeOf (.builtin "bytes.join") = pure (.type "method_descriptor") := by show builtinType _ = _; rw [builtinType_eq_fast]; kernel_rfl
theorem entry_bytes_join : entryFor table "bytes.join" = some Builtin.«bytes.join» := entryFor_of_tree (by kernel_rfl)
theorem args_bytes_join (a b : Value) : argsOk "bytes.join" ⟨[a, b], []⟩ := by
  unfold argsOk; rw [signature?_of (id := "bytes.join") (n := ['n', 'i', 'o', 'j']) (o := ['s', 'e', 't', 'y', 'b']) (by kernel_rfl) FB.owner_bytes]; kernel_rfl
theorem buffer_f {id : String} {b : Array UInt8} {t : Tok} {f : Bool} : Bytes.buffer? id (.bytes b t) f = pure (some b) := by
  unfold Bytes.buffer?
  rw [KBy.special_eq KBy.look_buffer, KBy.own_buffer, KBy.own_release]
  kernel_rfl
theorem take_eq {id : String} {b : Array UInt8} {t : Tok} : Bytes.takeBuffer? id (.bytes b t) 0 = pure (some (b, none)) := by
  unfold Bytes.takeBuffer?
  rw [KBy.special_eq KBy.look_buffer, KBy.own_buffer, buffer_f]
  kernel_rfl
theorem takeq_eq {id : String} {b : Array UInt8} {t : Tok} : Bytes.takeBufferQuiet? id (.bytes b t) 0 = pure (some (b, none)) := by
  unfold Bytes.takeBufferQuiet?
  rw [take_eq]
  rfl
/-- values that are octets -/
inductive Octs : List Value → List (List UInt8) → Prop
  | nil : Octs [] []
  | cons {x : List UInt8} {t : Tok} {vs : List Value} {xs : List (List UInt8)} (r : Octs vs xs) : Octs (.bytes x.toArray t :: vs) (x :: xs)
theorem Octs.len {vs : List Value} {xs : List (List UInt8)} (r : Octs vs xs) : vs.length = xs.length := by
  induction r with
  | nil => rfl
  | cons r ih => simp [ih]
theorem joinLet {M : Model} {A : Around} {E : Value → Shared → Prop} {s : Shared} {Q : Unit → Shared → Prop} {keep : List Value} : ∀ {taken : List (Value × Option Value)}, (∀ p ∈ taken, p.2 = none) → Q () s → wpAny M A (Bytes.joinLetGo taken keep) Q E s
  | [], _, h => wpAny_pure h
  | (x, none) :: rest, hn, h => by
    unfold Bytes.joinLetGo
    exact wpAny_bind (wpAny_letGo (joinLet (fun p hp => hn p (.tail _ hp)) h))
  | (x, some _) :: rest, hn, h => nomatch hn _ (.head _)
theorem Octs.at_ {vs : List Value} {xs : List (List UInt8)} (r : Octs vs xs) : ∀ {k : Nat}, k < xs.length → ∃ t, vs.getD k .none = .bytes (xs.getD k []).toArray t := by
  induction r with
  | nil => intro k h; exact absurd h (Nat.not_lt_zero _)
  | @cons x t vs xs r ih =>
    intro k h
    cases k with
    | zero => exact ⟨t, rfl⟩
    | succ k => exact ih (Nat.lt_of_succ_lt_succ h)
theorem rangeL {β : Type} (n : Nat) (b : β) (f : Nat → β → Sem (ForInStep β)) : forIn [:n] b f = forIn (List.range' 0 n 1) b f := by
  rw [Std.Legacy.Range.forIn_eq_forIn_range']
  have hsz : ([:n] : Std.Legacy.Range).size = n := by simp [Std.Legacy.Range.size]
  show forIn (List.range' 0 ([:n] : Std.Legacy.Range).size 1) b f = _
  rw [hsz]
theorem joined_from (ps : List (List UInt8)) : ∀ (k : Nat) (out : List UInt8), ((ps.map List.toArray).zipIdx k).foldl (fun out (p, i) => (if i > 0 then out ++ #[] else out) ++ p) out.toArray = (out ++ ps.flatten).toArray := by
  induction ps with
  | nil => intro k out; simp
  | cons p ps ih =>
    intro k out
    rw [List.map_cons, List.zipIdx_cons, List.foldl_cons]
    have e : ((if k > 0 then out.toArray ++ #[] else out.toArray) ++ p.toArray) = (out ++ p).toArray := by split <;> simp
    show List.foldl _ ((if k > 0 then out.toArray ++ #[] else out.toArray) ++ p.toArray) _ = _
    rw [e, ih, List.flatten_cons, List.append_assoc]
theorem joined_eq (ps : List (List UInt8)) : Bytes.joined #[] (ps.map List.toArray) = ps.flatten.toArray := joined_from ps 0 []
theorem sizes_eq : ∀ (ps : List (List UInt8)) (n : Nat), (ps.map List.toArray).foldl (fun a (b : Array UInt8) => a + b.size) n = n + ps.flatten.length
  | [], n => by simp
  | p :: ps, n => by
    rw [List.map_cons, List.foldl_cons, sizes_eq ps, List.flatten_cons, List.length_append, List.size_toArray]
    omega
theorem joinMatch {α : Type} {V : Array Value} {f : Value → α} {g : Array Value → α} (P : α → Prop) (h1 : ∀ x, V = #[x] → P (f x)) (h2 : V.size ≠ 1 → P (g V)) : P (Bytes.joinM.match_1 (fun _ => α) V f g) := by
  obtain ⟨l⟩ := V
  match l with
  | [] => exact h2 (by simp)
  | [x] => exact h1 x rfl
  | a :: b :: r => exact h2 (by simp)
theorem meets_join {l : Addr} {vs : List Value} {xs : List (List UInt8)} {t : Tok} (hv : Octs vs xs) : Meets («bytes.join» ⟨[.bytes #[] t, .ref l], []⟩) (fun A R s => s.heap.IsList l vs.toArray ∧ xs.flatten.length ≤ sizeLine ∧ ∀ t' k, R (.ok (.ret (.bytes xs.flatten.toArray t'))) { s with toks := k }) := by
  refine .of_wp fun prog w A R s hS => ?_
  obtain ⟨hl, hz, h⟩ := hS
  obtain ⟨o, ho, hc, n, hd⟩ := id hl
  unfold «bytes.join» Bytes.joinM
  refine wpAny_bind (m := selfAndOne _ _) (wpAny_pure ?_)
  have hsi : ∀ {Q : Option (Array Value) → Shared → Prop}, Q (some vs.toArray) s → wpAny (model prog w) A.in1 (seqItems? (.ref l)) Q (fun e s' => R (.error e) s') s := fun q => by
    unfold seqItems?
    refine wpAny_bind (wpAny_load ho ?_)
    rw [hd]
    exact wpAny_pure q
  show wpAny _ _ (Bytes.joinItems (.ref l) >>= _) _ _ s
  refine wpAny_bind (wpAny_bind (wpAny_typeOf hl.typeIs (wpAny_pure ?_)))
  refine wpAny_bind (hsi ?_)
  show wpAny _ _ (if (Bytes.Kind.bytes == Bytes.Kind.bytes) = true then _ else _) _ _ s
  rw [if_pos (by decide)]
  obtain ⟨V, hV⟩ : ∃ V, V = vs.toArray := ⟨_, rfl⟩
  rw [← hV] at hl hd hsi ⊢
  refine joinMatch (fun m => wpAny (model prog w) A.in1 m _ _ s) (fun x hx => ?_) (fun _ => ?_)
  · rw [hV] at hx
    have hx : vs = [x] := by have := congrArg Array.toList hx; simpa using this
    subst hx
    cases hv with
    | cons r =>
      cases r
      refine wpAny_bind (wpAny_typeOf (typeIs_bytes _ _ _) ?_)
      rw [if_pos (by decide)]
      refine wpAny_bind (wpAny_rule (wpAny_pure ⟨_, rfl, ?_⟩))
      have := h (by assumption) s.toks
      simpa using this
  · rw [hV] at hsi ⊢
    refine wpAny_bind ?_
    rw [rangeL]
    refine wpAny_forIn_list _ (fun rest b s' => s' = s ∧ ∃ k, rest = List.range' k (vs.length - k) 1 ∧ k ≤ vs.length ∧ b.1.toList = (xs.take k).map List.toArray ∧ ∀ p ∈ b.2, p.2 = none ∧ p.1.onHeap = false) _ (fun i rest b s' hI => ?_) (fun b s' hI => ?_) _ _ ⟨rfl, 0, by simp, Nat.zero_le _, by simp, fun _ hp => nomatch hp⟩
    · obtain ⟨rfl, k, hr, hk, hb, ht⟩ := hI
      have hlt : k < vs.length := by
        rcases Nat.lt_or_ge k vs.length with q | q
        · exact q
        · rw [Nat.sub_eq_zero_of_le q] at hr; cases hr
      obtain ⟨m, hm⟩ : ∃ m, vs.length - k = m + 1 := ⟨vs.length - k - 1, by omega⟩
      rw [hm, List.range'_succ] at hr
      injection hr with e1 e2
      subst e1
      obtain ⟨u, hx⟩ := hv.at_ (k := i) (by rw [← hv.len]; exact hlt)
      have hx : vs.toArray.getD i .none = .bytes (xs.getD i []).toArray u := by rw [← hx]; simp
      have hany : (Bytes.Kind.bytes == Bytes.Kind.bytearray || b.2.any fun x => x.1.onHeap) = false := by
        have e : (b.2.any fun x => x.1.onHeap) = false := by
          rw [List.any_eq_false]
          intro p hp
          rw [(ht p hp).2]
          exact Bool.false_ne_true
        rw [e]; rfl
      refine wpAny_bind (hsi ?_)
      show wpAny _ _ (if (Bytes.Kind.bytes == Bytes.Kind.bytearray || b.2.any fun x => x.1.onHeap) = true then _ else _) _ _ _
      rw [if_neg (by rw [hany]; exact Bool.false_ne_true), hx]
      refine wpAny_bind (wpAny_holding (wpAny_of_eq takeq_eq ?_))
      refine wpAny_bind (hsi ?_)
      show wpAny _ _ (if (vs.toArray.size != vs.toArray.size) = true then _ else _) _ _ _
      rw [if_neg (by simp)]
      refine wpAny_pure ⟨rfl, i + 1, ?_, by omega, ?_, ?_⟩
      · rw [e2, show vs.length - (i + 1) = m by omega]
      · show (b.1.push (xs.getD i []).toArray).toList = _
        have hl2 : i < xs.length := by rw [← hv.len]; exact hlt
        rw [Array.toList_push, hb, List.take_add_one, List.map_append, List.getElem?_eq_getElem hl2, List.getD_eq_getElem?_getD, List.getElem?_eq_getElem hl2]
        rfl
      · intro p hp
        rcases List.mem_append.mp hp with q | q
        · exact ht p q
        · rw [List.mem_singleton.mp q]; exact ⟨rfl, rfl⟩
    · obtain ⟨rfl, k, hr, hk, hb, ht⟩ := hI
      have hkn : vs.length ≤ k := by
        have := congrArg List.length hr
        rw [List.length_range', List.length_nil] at this
        omega
      have hb : b.1.toList = xs.map List.toArray := by rw [hb, List.take_of_length_le (by rw [← hv.len]; exact hkn)]
      have hsz : Array.foldl (fun x1 (x2 : Array UInt8) => x1 + x2.size) ((#[] : Array UInt8).size * (b.1.size - 1)) b.1 = xs.flatten.length := by
        rw [← Array.foldl_toList, hb, sizes_eq]
        simp
      refine wpAny_bind (wpAny_of_eq (a := #[]) rfl ?_)
      show wpAny _ _ (if Bytes.tooLong (Array.foldl (fun x1 (x2 : Array UInt8) => x1 + x2.size) ((#[] : Array UInt8).size * (b.1.size - 1)) b.1) = true then _ else _) _ _ _
      rw [hsz, if_neg (by rw [KBy.tooLong_not (by rw [sizeLine_eq] at hz; exact hz)]; exact Bool.false_ne_true)]
      refine wpAny_bind ?_
      show wpAny _ _ (mkBytes (Bytes.joined #[] b.1.toList)) _ _ _
      rw [hb, joined_eq]
      refine wpAny_mkBytes (wpAny_bind (wpAny_holding (wpAny_point ?_))) (by rw [List.size_toArray]; exact hz)
      exact wpAny_bind (joinLet (fun p hp => (ht p hp).1) (wpAny_pure ⟨_, rfl, h _ _⟩))
theorem call_join {prog : Program} {w : World} {A : Around} {E : Value → Shared → Prop} {s : Shared} {l : Addr} {vs : List Value} {xs : List (List UInt8)} {t : Tok} {Q : Value → Shared → Prop} (hv : Octs vs xs) (hl : s.heap.IsList l vs.toArray) (hz : xs.flatten.length ≤ 16777216)
    (h : ∀ t' k, Q (.bytes xs.flatten.toArray t') { s with toks := k }) : wpAny (model prog w) A (call (.builtin "bytes.join") [.bytes #[] t, .ref l]) Q E s :=
  call_meets slot_bytes_join (typeIs_bytes _ _ _) entry_bytes_join (args_bytes_join _ _) (meets_join hv) ⟨hl, by rw [sizeLine_eq]; exact hz, h⟩
theorem method_join {M : Model} {A : Around} {E : Value → Shared → Prop} {s : Shared} {b : Array UInt8} {t : Tok} {pl : Sem Bool} {Q : Value × List Value → Shared → Prop} (h : Q (.builtin "bytes.join", [.bytes b t]) s) : wpAny M A (getMethod (.bytes b t) "join" pl) Q E s := by
  with_reducible exact KBd.method_of (.bytes b t) (typeIs_bytes _ _ _) slot_bytes_join type_bytes_join KBd.noRef h
end
section

/-! the values: tuples by structure, what may change in a store -/
inductive V where
  | none
  | bool (b : Bool)
  | int (i : Int)
  | str (x : Str)
  | bytes (l : List UInt8)
  | tup (l : List V)
  | ref (i : Nat)
  | rng (a b : Int)
  | val (v : Value)

inductive Ob where
  | list (l : List V)
  | dict (l : List (Str × V))
  | cell (v : Option V)
  | inst (C : Addr) (j : Nat)
  | ns (l : List (String × V))
  | clos (params : Arguments) (body : Expr) (scope : Scope) (γ : List (String × Nat))
  | frozen (o : Obj)

def immO (o : Obj) : Bool := match o.data with
  | .seq _ _ => o.cls == .type "tuple"
  | .func _ => true
  | .fields _ => o.cls == .type "code" || o.cls == .type "range"
  | .plain => true
  | _ => false

def Mono (h h' : Heap) : Prop := ∀ b o, h.get? b = some o → immO o = true → h'.get? b = some o

mutual
/-- what a value of the heap is -/
def VR (h : Heap) (φ : List Addr) : V → Value → Prop
  | .none, v => v = .none
  | .bool b, v => v = .bool b
  | .int i, v => ∃ t, v = .int i t
  | .str x, v => ∃ t, v = .str x t
  | .bytes l, v => ∃ t, v = .bytes l.toArray t
  | .tup l, v => ∃ a vs n, v = .ref a ∧ h.get? a = some { cls := .type "tuple", data := .seq vs.toArray n } ∧ VRs h φ l vs
  | .ref i, v => ∃ a, v = .ref a ∧ φ[i]? = some a
  | .rng i j, v => ∃ a t u w, v = .ref a ∧ IsRange h a i j 1 t u w
  | .val u, v => v = u
def VRs (h : Heap) (φ : List Addr) : List V → List Value → Prop
  | [], vs => vs = []
  | x :: xs, vs => ∃ v us, vs = v :: us ∧ VR h φ x v ∧ VRs h φ xs us
end

section
variable {h h' : Heap} {φ ψ : List Addr}
mutual
theorem VR.mono (m : Mono h h') : ∀ {x : V} {v : Value}, VR h φ x v → VR h' (φ ++ ψ) x v
  | .none, _, r => r
  | .bool _, _, r => r
  | .int _, _, r => r
  | .str _, _, r => r
  | .bytes _, _, r => r
  | .tup _, _, ⟨a, vs, n, e, g, r⟩ => ⟨a, vs, n, e, m _ _ g rfl, VRs.mono m r⟩
  | .ref _, _, ⟨a, e, g⟩ => ⟨a, e, by rw [List.getElem?_append_left (List.getElem?_eq_some_iff.mp g).1]; exact g⟩
  | .rng _ _, _, ⟨a, t, u, w, e, g⟩ => ⟨a, t, u, w, e, m _ _ g rfl⟩
  | .val _, _, r => r
theorem VRs.mono (m : Mono h h') : ∀ {xs : List V} {vs : List Value}, VRs h φ xs vs → VRs h' (φ ++ ψ) xs vs
  | [], _, r => r
  | _ :: _, _, ⟨v, us, e, r, rs⟩ => ⟨v, us, e, VR.mono m r, VRs.mono m rs⟩
end
theorem VRs.nil : VRs h φ [] [] := rfl
theorem VRs.cons {x : V} {xs : List V} {v : Value} {vs : List Value} (r : VR h φ x v) (rs : VRs h φ xs vs) : VRs h φ (x :: xs) (v :: vs) := ⟨v, vs, rfl, r, rs⟩
theorem VRs.ind {P : List V → List Value → Prop} (h0 : P [] []) (h1 : ∀ x xs v vs, VR h φ x v → P xs vs → P (x :: xs) (v :: vs)) : ∀ {xs : List V} {vs : List Value}, VRs h φ xs vs → P xs vs := by
  intro xs
  induction xs with
  | nil => intro vs r; cases r; exact h0
  | cons x xs ih => rintro vs ⟨v, us, rfl, r, rs⟩; exact h1 _ _ _ _ r (ih rs)
theorem VRs.length {xs : List V} {vs : List Value} (r : VRs h φ xs vs) : vs.length = xs.length :=
  VRs.ind (P := fun xs vs => vs.length = xs.length) rfl (fun _ _ _ _ _ e => congrArg (· + 1) e) r
theorem VRs.get {xs : List V} : ∀ {vs : List Value}, VRs h φ xs vs → ∀ {i : Nat} {x : V}, xs[i]? = some x → ∃ v, vs[i]? = some v ∧ VR h φ x v := by
  induction xs with
  | nil => intro vs r i x e; cases e
  | cons y ys ih =>
    rintro vs ⟨v, us, rfl, r, rs⟩ i x e
    cases i with
    | zero => cases e; exact ⟨v, rfl, r⟩
    | succ i => exact ih rs e
theorem VRs.append {ys : List V} {us : List Value} (e : VRs h φ ys us) {xs : List V} {vs : List Value} (r : VRs h φ xs vs) : VRs h φ (xs ++ ys) (vs ++ us) :=
  VRs.ind (P := fun xs vs => VRs h φ (xs ++ ys) (vs ++ us)) e (fun _ _ _ _ a b => .cons a b) r
theorem VRs.snoc {xs : List V} {vs : List Value} {v : Value} {x : V} (r : VRs h φ xs vs) (e : VR h φ x v) : VRs h φ (xs ++ [x]) (vs ++ [v]) := VRs.append (.cons e .nil) r
theorem VRs.set {v : Value} {x : V} (e : VR h φ x v) {xs : List V} : ∀ {vs : List Value}, VRs h φ xs vs → ∀ i : Nat, VRs h φ (xs.set i x) (vs.set i v) := by
  induction xs with
  | nil => intro vs r i; cases r; exact VRs.nil
  | cons y ys ih =>
    rintro vs ⟨u, us, rfl, r, rs⟩ i
    cases i with
    | zero => exact .cons e rs
    | succ i => exact .cons r (ih rs i)
theorem VRs.drop {xs : List V} : ∀ {vs : List Value}, VRs h φ xs vs → ∀ n : Nat, VRs h φ (xs.drop n) (vs.drop n) := by
  induction xs with
  | nil => intro vs r n; cases r; cases n <;> exact VRs.nil
  | cons y ys ih =>
    rintro vs ⟨u, us, rfl, r, rs⟩ n
    cases n with
    | zero => exact .cons r rs
    | succ n => exact ih rs n
theorem VRs.take {xs : List V} : ∀ {vs : List Value}, VRs h φ xs vs → ∀ n : Nat, VRs h φ (xs.take n) (vs.take n) := by
  induction xs with
  | nil => intro vs r n; cases r; cases n <;> exact VRs.nil
  | cons y ys ih =>
    rintro vs ⟨u, us, rfl, r, rs⟩ n
    cases n with
    | zero => exact VRs.nil
    | succ n => exact .cons r (ih rs n)
end

/-- what a stretch of the run may do to the heap: the store's own addresses, the table of codes, and X, may change -/
structure Le (X : List Addr) (φ : List Addr) (h : Heap) (φ' : List Addr) (h' : Heap) : Prop where
  mono : Mono h h'
  keep : ∀ b o, h.get? b = some o → b ∉ φ → b ≠ PT → b ∉ X → h'.get? b = some o
  live : ∀ b o, h.get? b = some o → ∃ o', h'.get? b = some o'
  pre : ∃ ψ, φ' = φ ++ ψ ∧ ∀ a ∈ ψ, h.get? a = none

section
variable {X φ φ₁ φ₂ : List Addr} {h h₁ h₂ : Heap}
theorem Le.refl : Le X φ h φ h := ⟨fun _ _ e _ => e, fun _ _ e _ _ _ => e, fun _ o e => ⟨o, e⟩, [], by simp, fun _ q => nomatch q⟩
theorem Le.trans (a : Le X φ h φ₁ h₁) (b : Le X φ₁ h₁ φ₂ h₂) : Le X φ h φ₂ h₂ := by
  obtain ⟨ψ, rfl, f1⟩ := a.pre
  obtain ⟨χ, rfl, f2⟩ := b.pre
  refine ⟨fun b' o e i => b.mono _ _ (a.mono _ _ e i) i, fun b' o e n1 n2 n3 => b.keep _ _ (a.keep _ _ e n1 n2 n3) (fun q => ?_) n2 n3, fun b' o e => (a.live _ _ e).elim fun o' e' => b.live _ _ e', ψ ++ χ, by simp, fun x hx => ?_⟩
  · rcases List.mem_append.mp q with q | q
    · exact n1 q
    · rw [f1 _ q] at e; cases e
  · rcases List.mem_append.mp hx with q | q
    · exact f1 _ q
    · cases e : h.get? x with
      | none => rfl
      | some o => obtain ⟨o', e'⟩ := a.live _ _ e; rw [f2 _ q] at e'; cases e'
theorem Le.weak (a : Le [] φ h φ₁ h₁) : Le X φ h φ₁ h₁ := ⟨a.mono, fun b o e n1 n2 _ => a.keep b o e n1 n2 (fun q => nomatch q), a.live, a.pre⟩
theorem Le.of_keep (k : ∀ b o, h.get? b = some o → h₁.get? b = some o) : Le X φ h φ h₁ :=
  ⟨fun _ _ e _ => k _ _ e, fun _ _ e _ _ _ => k _ _ e, fun _ o e => ⟨o, k _ _ e⟩, [], by simp, fun _ q => nomatch q⟩
theorem Le.vr (a : Le X φ h φ₁ h₁) {v : Value} {x : V} (r : VR h φ x v) : VR h₁ φ₁ x v := by
  obtain ⟨ψ, rfl, _⟩ := a.pre
  exact r.mono a.mono
theorem Le.vrs (a : Le X φ h φ₁ h₁) {v : List Value} {x : List V} (r : VRs h φ x v) : VRs h₁ φ₁ x v := by
  obtain ⟨ψ, rfl, _⟩ := a.pre
  exact r.mono a.mono
theorem Le.at (a : Le X φ h φ₁ h₁) {i : Nat} {b : Addr} (e : φ[i]? = some b) : φ₁[i]? = some b := by
  obtain ⟨ψ, rfl, _⟩ := a.pre
  rw [List.getElem?_append_left (List.getElem?_eq_some_iff.mp e).1]; exact e
end

/-! the store over the heap -/
def KRs (h : Heap) (φ : List Addr) (kvs : List (Str × Value)) (l : List (Str × V)) : Prop := kvs.map (·.1) = l.map (·.1) ∧ VRs h φ (l.map (·.2)) (kvs.map (·.2))

def keyOf (e : DictEntry) : Option Str := match e.key with
  | .str x _ => some x
  | _ => none
def NsAt (h : Heap) (φ : List Addr) (a : Addr) (l : List (String × V)) : Prop :=
  ∃ es n, h.get? a = some (dictOf es n) ∧ es.map keyOf = l.map (fun p => some (Str.ofString p.1)) ∧ VRs h φ (l.map (·.2)) (es.map (·.val))

def CellAt (h : Heap) (φ : List Addr) (a : Addr) (v : Option V) : Prop :=
  ∃ o, h.get? a = some o ∧ match v with
    | .none => ∃ x, o.data = .cell x
    | some v => ∃ x, o.data = .cell (some x) ∧ VR h φ v x

def ObAt (w : World) (h : Heap) (φ : List Addr) (a : Addr) : Ob → Prop
  | .list l => ∃ vs n, h.get? a = some { cls := .type "list", data := .seq vs.toArray n } ∧ VRs h φ l vs
  | .dict l => ∃ kvs, h.DictOf (strKind PG w) a kvs ∧ KRs h φ kvs l
  | .cell v => CellAt h φ a v
  | .inst C j => ∃ d, h.get? a = some (instObj C d) ∧ φ[j]? = some d
  | .ns l => NsAt h φ a l
  | .clos params body scope γ => ∃ name qual cells pm c' ct, h.get? a = some (kla_obj name qual params body scope cells pm c' ct) ∧ h.CodeRec (.ref c') qual ∧
      (∀ o, h.get? c' = some o → o.cls = .type "code") ∧ ∀ x j, γ.lookup x = some j → ∃ b, φ[j]? = some b ∧ cells.lookup (Str.ofString x) = some b
  | .frozen o => h.get? a = some o

theorem Heap.DictOf.at' {w : World} {h h' : Heap} {a : Addr} {kvs : List (Str × Value)} (x : h.DictOf (strKind PG w) a kvs) (k : ∀ o, h.get? a = some o → h'.get? a = some o) : h'.DictOf (strKind PG w) a kvs := by
  obtain ⟨o, es, ep, e, r⟩ := x
  exact ⟨o, es, ep, k o e, r⟩

theorem ObAt.mono {w : World} {h h' : Heap} {φ : List Addr} (ψ : List Addr) {a : Addr} {o : Ob} (m : Mono h h') (k : ∀ o, h.get? a = some o → h'.get? a = some o) (r : ObAt w h φ a o) : ObAt w h' (φ ++ ψ) a o := by
  have at' : ∀ {i : Nat} {b : Addr}, φ[i]? = some b → (φ ++ ψ)[i]? = some b := fun e => by rw [List.getElem?_append_left (List.getElem?_eq_some_iff.mp e).1]; exact e
  cases o with
  | list xs => obtain ⟨vs, n, e, r⟩ := r; exact ⟨vs, n, k _ e, r.mono m⟩
  | dict xs => obtain ⟨kvs, d, e, r⟩ := r; exact ⟨kvs, Heap.DictOf.at' d k, e, r.mono m⟩
  | cell v =>
    obtain ⟨o, e, r⟩ := r
    refine ⟨o, k _ e, ?_⟩
    cases v with
    | none => exact r
    | some v => obtain ⟨x, d, r⟩ := r; exact ⟨x, d, r.mono m⟩
  | inst C j => obtain ⟨d, e, q⟩ := r; exact ⟨d, k _ e, at' q⟩
  | frozen o => exact k _ r
  | ns l => obtain ⟨es, n, e, q, r⟩ := r; exact ⟨es, n, k _ e, q, r.mono m⟩
  | clos params body scope γ =>
    obtain ⟨name, qual, cells, pm, c', ct, e, hc, hcc, r⟩ := r
    obtain ⟨c₂, oc, vs, t, e2, hoc, hd, hv⟩ := id hc
    cases e2
    have hk := m _ _ hoc (by simp [immO, hd, hcc _ hoc])
    refine ⟨name, qual, cells, pm, c', ct, k _ e, ⟨_, oc, vs, t, rfl, hk, hd, hv⟩, fun o ho => ?_, fun x j q => ?_⟩
    · rw [hk] at ho; cases ho; exact hcc _ hoc
    · obtain ⟨b, q1, q2⟩ := r x j q; exact ⟨b, at' q1, q2⟩
theorem ObAt.le {X : List Addr} {w : World} {h h' : Heap} {φ φ' : List Addr} {a : Addr} {o : Ob} (l : Le X φ h φ' h') (k : ∀ o, h.get? a = some o → h'.get? a = some o) (r : ObAt w h φ a o) : ObAt w h' φ' a o := by
  obtain ⟨ψ, rfl, _⟩ := l.pre
  exact r.mono ψ l.mono k
theorem ObAt.mono0 {w : World} {h h' : Heap} {φ : List Addr} {a : Addr} {o : Ob} (m : Mono h h') (k : ∀ o, h.get? a = some o → h'.get? a = some o) (r : ObAt w h φ a o) : ObAt w h' φ a o := by
  have := r.mono [] m k
  rwa [List.append_nil] at this
theorem VR.mono0 {h h' : Heap} {φ : List Addr} {x : V} {v : Value} (m : Mono h h') (r : VR h φ x v) : VR h' φ x v := by
  have := r.mono (ψ := []) m
  rwa [List.append_nil] at this
theorem VRs.mono0 {h h' : Heap} {φ : List Addr} {x : List V} {v : List Value} (m : Mono h h') (r : VRs h φ x v) : VRs h' φ x v := by
  have := r.mono (ψ := []) m
  rwa [List.append_nil] at this
/-- what is later than Le, but for an address that was not there -/
theorem Le.but {X φ φ' : List Addr} {h h₁ h₂ : Heap} {I : Addr} (l : Le X φ h φ' h₁) (k : ∀ b o, b ≠ I → h₁.get? b = some o → h₂.get? b = some o) (n : h.get? I = none) : Le X φ h φ' h₂ :=
  have ne : ∀ {b : Addr} {o : Obj}, h.get? b = some o → b ≠ I := fun e q => by rw [q, n] at e; cases e
  ⟨fun b o e i => k b o (ne e) (l.mono b o e i), fun b o e a1 a2 a3 => k b o (ne e) (l.keep b o e a1 a2 a3), fun b o e => (l.live b o e).elim fun o' e' => ⟨o', k b o' (ne e) e'⟩, l.pre⟩
end
section

/-- what stands around: the world, the top's facts, the heap the law began with, the frames -/
structure Cx where
  w : World
  mean : ExcName → Option Value
  mg : Str → Option Value
  mb : Str → Option Value
  loose : List Str
  h₀ : Heap
  A : Around

structure Cx.OK (c : Cx) (n : Nat) : Prop where
  K : (PK c.w.params).In c.h₀
  T : Top topProg c.loose c.mean c.mg c.mb c.h₀
  hh : c.A.handled = none
  dp : c.A.depth + n < recursionLimit
  un : c.A.units + (8 * n + 200) < cLine
  hP : c.h₀.get? PT = none
  sy : ∃ o, c.h₀.get? sysModules = some o
  fn : ∀ d ∈ recsOf PV, ∃ a o pm code doc, c.mg d.name = some (.ref a) ∧ c.h₀.get? a = some o ∧ o.data = .func (docDef d.name d.params d.body d.scope pm code doc) ∧ c.h₀.CodeRec code d.name

/-- the codes of the lambdas that were met -/
def TabR (h : Heap) : Prop := ∃ ps, h.get? PT = some (tabObj ps) ∧ TriplesOk ps.toList ∧ ∀ pos cv, codeAmong pos ps.toList = some cv → ∃ c', cv = .ref c' ∧ h.CodeRec (.ref c') lamQual ∧ ∀ o, h.get? c' = some o → o.cls = .type "code"

structure RS (c : Cx) (h : Heap) (φ : List Addr) (σ : List Ob) : Prop where
  base : ∀ b o, c.h₀.get? b = some o → h.get? b = some o
  len : φ.length = σ.length
  nd : φ.Nodup
  at_ : ∀ (i : Nat) (a : Addr) (o : Ob), φ[i]? = some a → σ[i]? = some o → ObAt c.w h φ a o
  off : ∀ a ∈ φ, c.h₀.get? a = none ∧ a ≠ PT ∧ ∃ o, h.get? a = some o
  tab : TabR h

/-- what is fixed of a frame: the calls that may still be made, its scope, its cells, its code, its name -/
structure Fn where
  n : Nat
  sc : Scope
  γ : List (String × Nat)
  cd : Value
  qual : Str

structure RL (c : Cx) (env : Env) (F : Fn) (ρ : List (String × V)) (h : Heap) (φ : List Addr) : Prop where
  sc : env.scope = F.sc
  gl : env.globals = mainGlobals
  bl : env.builtins = builtinsNs
  cd : env.code = F.cd
  ql : env.qual = F.qual
  L0 : c.h₀.get? env.locals = none
  LP : env.locals ≠ PT
  Lφ : env.locals ∉ φ
  loc : ∃ m, h.Ns env.locals m ∧ ∀ x v, ρ.lookup x = some v → ∃ u, m (Str.ofString x) = some u ∧ VR h φ v u
  cel : ∀ x j, F.γ.lookup x = some j → ∃ a, φ[j]? = some a ∧ env.cells.lookup (Str.ofString x) = some a

theorem TabR.keep {h h' : Heap} (t : TabR h) (m : Mono h h') (k : ∀ o, h.get? PT = some o → h'.get? PT = some o) : TabR h' := by
  obtain ⟨ps, e, ok, r⟩ := t
  refine ⟨ps, k _ e, ok, fun pos cv q => ?_⟩
  obtain ⟨c', rfl, hc, hcc⟩ := r pos cv q
  obtain ⟨c₂, oc, vs, t, e2, hoc, hd, hv⟩ := id hc
  cases e2
  have hk := m _ _ hoc (by simp [immO, hd, hcc _ hoc])
  exact ⟨_, rfl, ⟨_, oc, vs, t, rfl, hk, hd, hv⟩, fun o ho => by rw [hk] at ho; cases ho; exact hcc _ hoc⟩

section
variable {c : Cx} {h h' : Heap} {φ : List Addr} {σ : List Ob}
/-- nothing that stood has changed -/
theorem RS.keep (r : RS c h φ σ) (k : ∀ b o, h.get? b = some o → h'.get? b = some o) : RS c h' φ σ where
  base := fun b o e => k _ _ (r.base b o e)
  len := r.len
  nd := r.nd
  at_ := fun i a o e q => ObAt.le (Le.of_keep (X := []) k) (fun o e => k _ _ e) (r.at_ i a o e q)
  off := fun a m => ⟨(r.off a m).1, (r.off a m).2.1, (r.off a m).2.2.elim fun o e => ⟨o, k _ _ e⟩⟩
  tab := r.tab.keep (fun _ _ e _ => k _ _ e) fun _ e => k _ _ e
/-- a new thing of the store -/
theorem RS.push {a : Addr} {o : Ob} (r : RS c h φ σ) (k : ∀ b o, h.get? b = some o → h'.get? b = some o) (ha : h.get? a = Option.none) (hl : ∃ o, h'.get? a = some o)
    (e : ObAt c.w h' (φ ++ [a]) a o) : RS c h' (φ ++ [a]) (σ ++ [o]) ∧ Le [] φ h (φ ++ [a]) h' := by
  have l : Le [] φ h (φ ++ [a]) h' := ⟨fun _ _ e _ => k _ _ e, fun _ _ e _ _ _ => k _ _ e, fun _ o e => ⟨o, k _ _ e⟩, [a], rfl, fun x hx => by rw [List.mem_singleton.mp hx]; exact ha⟩
  refine ⟨⟨fun b o e => k _ _ (r.base b o e), by simp [r.len], ?_, ?_, ?_, r.tab.keep l.mono fun _ e => k _ _ e⟩, l⟩
  · refine List.nodup_append.mpr ⟨r.nd, by simp, fun x hx y hy q => ?_⟩
    rw [List.mem_singleton.mp hy] at q
    obtain ⟨_, _, o, e⟩ := r.off x hx
    rw [q, ha] at e; cases e
  · intro i b ob e1 e2
    by_cases hi : i < φ.length
    · rw [List.getElem?_append_left hi] at e1
      rw [List.getElem?_append_left (r.len ▸ hi)] at e2
      exact ObAt.le l (fun o e => k _ _ e) (r.at_ i b ob e1 e2)
    · have hi' : φ.length ≤ i := Nat.not_lt.mp hi
      rw [List.getElem?_append_right hi'] at e1
      rw [List.getElem?_append_right (r.len ▸ hi')] at e2
      have h1 : i - φ.length = 0 := by
        have := (List.getElem?_eq_some_iff.mp e1).1
        simpa using this
      rw [h1] at e1
      rw [← r.len, h1] at e2
      cases e1; cases e2
      exact e
  · intro b hb
    rcases List.mem_append.mp hb with hb | hb
    · exact ⟨(r.off b hb).1, (r.off b hb).2.1, (r.off b hb).2.2.elim fun o e => ⟨o, k _ _ e⟩⟩
    · rw [List.mem_singleton.mp hb]
      refine ⟨?_, fun q => ?_, hl⟩
      · cases q : c.h₀.get? a with
        | none => rfl
        | some o => have q' := r.base a o q; rw [ha] at q'; cases q'
      · obtain ⟨ps, e, _⟩ := r.tab
        rw [← q, ha] at e; cases e
/-- one thing of the store has changed -/
theorem RS.upd {i : Nat} {a : Addr} {o' : Ob} (r : RS c h φ σ) (e : φ[i]? = some a) (s : Heap.SameBut a h h') (im : ∀ o, h.get? a = some o → immO o = false) (n : Le [] φ h φ h' → ObAt c.w h' φ a o') (hl : ∃ o, h'.get? a = some o) :
    RS c h' φ (σ.set i o') ∧ Le [] φ h φ h' := by
  have hm := List.mem_of_getElem? e
  have k : ∀ b o, b ≠ a → h.get? b = some o → h'.get? b = some o := fun b o q e => (s.2 b q).trans e
  have l : Le [] φ h φ h' := ⟨fun b o e i => k b o (fun q => by rw [q] at e; rw [im _ e] at i; cases i) e, fun b o e n1 _ _ => k b o (fun q => n1 (q ▸ hm)) e, fun b o e => if q : b = a then q ▸ hl else ⟨o, k b o q e⟩, [], by simp, fun _ q => nomatch q⟩
  refine ⟨⟨fun b o e => k b o (fun q => ?_) (r.base b o e), by simp [r.len], r.nd, fun j b ob e1 e2 => ?_, fun b hb => ⟨(r.off b hb).1, (r.off b hb).2.1, (r.off b hb).2.2.elim fun o e => l.live _ _ e⟩,
    r.tab.keep l.mono fun _ e => k _ _ (fun q => (r.off a hm).2.1 q.symm) e⟩, l⟩
  · rw [q, (r.off a hm).1] at e; cases e
  · by_cases hij : i = j
    · subst hij
      rw [e] at e1; cases e1
      have hi : i < σ.length := r.len ▸ (List.getElem?_eq_some_iff.mp e).1
      rw [List.getElem?_set_self hi] at e2; cases e2
      exact n l
    · rw [List.getElem?_set_ne hij] at e2
      refine ObAt.le l (fun o q => k b o (fun q' => hij ?_) q) (r.at_ j b ob e1 e2)
      exact (List.getElem?_inj (List.getElem?_eq_some_iff.mp e).1 r.nd).mp (by rw [e, e1, q'])
end

section
variable {c : Cx} {env : Env} {F : Fn} {ρ : List (String × V)} {h h' : Heap} {φ φ' : List Addr}
theorem RL.le (r : RL c env F ρ h φ) (l : Le [] φ h φ' h') : RL c env F ρ h' φ' := by
  obtain ⟨m, hm, hr⟩ := r.loc
  refine ⟨r.sc, r.gl, r.bl, r.cd, r.ql, r.L0, r.LP, ?_, ⟨m, ?_, fun x v e => ?_⟩, fun x j e => ?_⟩
  · obtain ⟨ψ, rfl, f⟩ := l.pre
    intro q
    rcases List.mem_append.mp q with q | q
    · exact r.Lφ q
    · obtain ⟨o, _, _, e, _⟩ := hm
      rw [f _ q] at e; cases e
  · exact hm.at' fun o e => l.keep _ _ e r.Lφ r.LP (fun q => nomatch q)
  · obtain ⟨u, e1, e2⟩ := hr x v e; exact ⟨u, e1, l.vr e2⟩
  · obtain ⟨a, e1, e2⟩ := r.cel x j e; exact ⟨a, l.at e1, e2⟩
end

/-! the judgements -/
def WPg {α β : Type} (R : Heap → List Addr → β → α → Prop) (F : Fn) (ρ : List (String × V)) (σ : List Ob) (t : Env → Sem α) (K : β → List Ob → Prop) : Prop :=
  ∀ (c : Cx) (env : Env) (s : Shared) (φ : List Addr), c.OK F.n → F.sc.kind = .function → RS c s.heap φ σ → RL c env F ρ s.heap φ → ∀ (Q : α → Shared → Prop) (E : Value → Shared → Prop),
    (∀ a b σ' h' tk φ', K b σ' → RS c h' φ' σ' → Le [] φ s.heap φ' h' → R h' φ' b a → Q a { s with heap := h', toks := tk }) → wpAny (model PG c.w) c.A (t env) Q E s
abbrev EV (F : Fn) (ρ : List (String × V)) (σ : List Ob) (e : Expr) (K : V → List Ob → Prop) : Prop := WPg VR F ρ σ (eval e) K
abbrev EVs (F : Fn) (ρ : List (String × V)) (σ : List Ob) (pos : Pos) (es : List Expr) (K : List V → List Ob → Prop) : Prop := WPg VRs F ρ σ (fun env => spliced (backTo pos (starEach es env))) K
abbrev TST (F : Fn) (ρ : List (String × V)) (σ : List Ob) (e : Expr) (K : Bool → List Ob → Prop) : Prop := WPg (fun _ _ b a => a = b) F ρ σ (fun env => isTrue e env (eval e env)) K
def CALL (n : Nat) (σ : List Ob) (f : V) (xs : List V) (K : V → List Ob → Prop) : Prop :=
  ∀ (c : Cx) (s : Shared) (φ : List Addr), c.OK n → RS c s.heap φ σ → ∀ (g : Value) (vs : List Value), VR s.heap φ f g → VRs s.heap φ xs vs → ∀ (Q E : Value → Shared → Prop),
    (∀ a b σ' h' tk φ', K b σ' → RS c h' φ' σ' → Le [] φ s.heap φ' h' → VR h' φ' b a → Q a { s with heap := h', toks := tk }) → wpAny (model PG c.w) c.A (call g vs) Q E s

section
variable {F : Fn} {ρ : List (String × V)} {σ : List Ob}
theorem WPg.mono {α β : Type} {R : Heap → List Addr → β → α → Prop} {t : Env → Sem α} {K K' : β → List Ob → Prop} (h : WPg R F ρ σ t K) (k : ∀ b σ', K b σ' → K' b σ') : WPg R F ρ σ t K' :=
  fun c env s φ ok fk rs rl Q E q => h c env s φ ok fk rs rl Q E fun a b σ' h' tk φ' hk => q a b σ' h' tk φ' (k _ _ hk)

theorem EV.none {k : Nat} {pos : Pos} {K : V → List Ob → Prop} (h : K .none σ) : EV F ρ σ (.Constant .none k pos) K :=
  fun _ _ _ _ _ _ rs _ _ _ q => wpAny_Constant_none (q _ _ _ _ _ _ h rs .refl rfl)
theorem EV.int {i : Int} {k : Nat} {pos : Pos} {K : V → List Ob → Prop} (h : K (.int i) σ) : EV F ρ σ (.Constant (.int i) k pos) K :=
  fun _ _ _ _ _ _ rs _ _ _ q => wpAny_Constant_int (q _ _ _ _ _ _ h rs .refl ⟨_, rfl⟩)
theorem EV.str {x : Str} {k : Nat} {pos : Pos} {K : V → List Ob → Prop} (h : K (.str x) σ) : EV F ρ σ (.Constant (.str x) k pos) K :=
  fun _ _ _ _ _ _ rs _ _ _ q => Calls.Constant_str (q _ _ _ _ _ _ h rs .refl ⟨_, rfl⟩)
theorem EV.bytes {x : List UInt8} {k : Nat} {pos : Pos} {K : V → List Ob → Prop} (h : K (.bytes x) σ) : EV F ρ σ (.Constant (.bytes x) k pos) K :=
  fun _ _ _ _ _ _ rs _ _ _ q => Constant_bytes (q _ _ _ _ _ _ h rs .refl ⟨_, rfl⟩)
theorem EV.bool {b : Bool} {k : Nat} {pos : Pos} {K : V → List Ob → Prop} (h : K (.bool b) σ) : EV F ρ σ (.Constant (.bool b) k pos) K :=
  fun _ _ _ _ _ _ rs _ _ _ q => wpAny_of_eq rfl (q _ _ _ _ _ _ h rs .refl rfl)

theorem EV.loc {x : String} {pos : Pos} {v : V} {K : V → List Ob → Prop} (hk : F.sc.names.lookup (Str.ofString x) = some .local) (hv : ρ.lookup x = some v) (h : K v σ) (hd : (Str.ofString x == ("__debug__" : Str)) = false) : EV F ρ σ (.Name (Str.ofString x) pos) K :=
  fun c env s φ _ fk rs rl Q E q => by
    obtain ⟨m, hm, hr⟩ := rl.loc
    obtain ⟨u, e1, e2⟩ := hr x v hv
    exact wpAny_Name (wpAny_loadName_local (rl.sc ▸ fk) (by rw [Env.kindOf, rl.sc]; exact hk) hm e1 (q _ _ _ _ _ _ h rs .refl e2)) hd
theorem EV.cell {x : String} {pos : Pos} {j : Nat} {v : V} {K : V → List Ob → Prop} (hk : F.sc.names.lookup (Str.ofString x) = some .cell ∨ F.sc.names.lookup (Str.ofString x) = some .free) (hj : F.γ.lookup x = some j) (hv : σ[j]? = some (.cell (some v))) (h : K v σ)
    (hd : (Str.ofString x == ("__debug__" : Str)) = false) (hn : (Str.ofString x == ("__classdict__" : Str)) = false) : EV F ρ σ (.Name (Str.ofString x) pos) K :=
  fun c env s φ _ fk rs rl Q E q => by
    obtain ⟨a, e1, e2⟩ := rl.cel x j hj
    obtain ⟨o, e3, u, e4, e5⟩ := rs.at_ j a _ e1 hv
    have fin := q _ _ _ s.heap s.toks _ h rs .refl e5
    have kk : env.kindOf (Str.ofString x) = F.sc.names.lookup (Str.ofString x) := by rw [Env.kindOf, rl.sc]
    refine wpAny_Name ?_ hd
    rcases hk with hk | hk
    · exact wpAny_loadName_cell (rl.sc ▸ fk) (kk.trans hk) e2 ⟨o, e3, e4⟩ fin
    · exact wpAny_loadName_free (rl.sc ▸ fk) (kk.trans hk) e2 ⟨o, e3, e4⟩ fin hn
theorem EV.glob {x : Str} {pos : Pos} {v : Value} {K : V → List Ob → Prop} (hk : F.sc.names.lookup x = some .globalImplicit) (e : ∀ w : World, nsIn (PK w.params) mainGlobals x = some (some v)) (h : K (.val v) σ)
    (hd : (x == ("__debug__" : Str)) = false) : EV F ρ σ (.Name x pos) K :=
  fun c env s φ ok fk rs rl Q E q =>
    Name_function_global (rl.sc ▸ fk) (by rw [Env.kindOf, rl.sc]; exact hk) (loadGlobal_global (by rw [rl.gl]; exact ok.T.g.keeps rs.base) (mg_of ok.K ok.T.g (e _)) (q _ _ _ _ _ _ h rs .refl rfl)) hd
theorem EV.boot {x : Str} {pos : Pos} {v : Value} {K : V → List Ob → Prop} (hk : F.sc.names.lookup x = some .globalImplicit) (e : ∀ w : World, nsIn (PK w.params) mainGlobals x = some Option.none) (hv : bootBuiltins x = some v) (hn : x ≠ "__name__") (h : K (.val v) σ)
    (hd : (x == ("__debug__" : Str)) = false) : EV F ρ σ (.Name x pos) K :=
  fun c env s φ ok fk rs rl Q E q =>
    Name_function_global (rl.sc ▸ fk) (by rw [Env.kindOf, rl.sc]; exact hk) (loadGlobal_builtin (by rw [rl.gl]; exact ok.T.g.keeps rs.base) (mg_none_of ok.K ok.T.g (e _)) (by rw [rl.bl]; exact ok.T.b.keeps rs.base)
      ((ok.T.builtins x hn).trans hv) (q _ _ _ _ _ _ h rs .refl rfl)) hd

end
end
section

section
variable {F : Fn} {ρ : List (String × V)} {σ : List Ob}

/-! what follows, by name -/
section
variable (F : Fn) (ρ : List (String × V))
abbrev TH (e : Expr) (K : V → V → List Ob → Prop) : V → List Ob → Prop := fun a σ => EV F ρ σ e (K a)
abbrev KCons (v : V) (K : List V → List Ob → Prop) : List V → List Ob → Prop := fun vs σ => K (v :: vs) σ
abbrev KE (pos : Pos) (es : List Expr) (K : List V → List Ob → Prop) : V → List Ob → Prop := fun v σ => EVs F ρ σ pos es (KCons v K)
abbrev KTup (K : V → List Ob → Prop) : List V → List Ob → Prop := fun xs σ => Nat.ble xs.length 1000 = true ∧ K (.tup xs) σ
abbrev KLst (K : V → List Ob → Prop) : List V → List Ob → Prop := fun xs σ => Nat.ble xs.length 1000 = true ∧ K (.ref σ.length) (σ ++ [.list xs])
abbrev KNeg (K : V → List Ob → Prop) : V → List Ob → Prop := fun a σ => ∃ i, a = .int i ∧ K (.int (-i)) σ
abbrev KI (a b : Expr) (K : V → List Ob → Prop) : Bool → List Ob → Prop := fun q σ => (q = true → EV F ρ σ a K) ∧ (q = false → EV F ρ σ b K)
end
theorem KTup.of {σ : List Ob} {xs : List V} {K : V → List Ob → Prop} (e : Nat.ble xs.length 1000 = true) (h : K (.tup xs) σ) : KTup K xs σ := ⟨e, h⟩
theorem KLst.of {σ : List Ob} {xs : List V} {K : V → List Ob → Prop} (e : Nat.ble xs.length 1000 = true) (h : K (.ref σ.length) (σ ++ [.list xs])) : KLst K xs σ := ⟨e, h⟩
abbrev KNot (K : Bool → List Ob → Prop) : Bool → List Ob → Prop := fun b σ => K (!b) σ

theorem EVs.nil {pos : Pos} {K : List V → List Ob → Prop} (h : K [] σ) : EVs F ρ σ pos [] K :=
  fun _ _ _ _ _ _ rs _ _ _ q => spliced_none (q _ _ _ _ _ _ h rs .refl rfl)
theorem EVs.cons {pos : Pos} {e : Expr} {es : List Expr} {K : List V → List Ob → Prop} (h : EV F ρ σ e (KE F ρ pos es K))
    (hs : ∀ env, starEach (e :: es) env = (false, eval e env) :: starEach es env) : EVs F ρ σ pos (e :: es) K :=
  fun c env s φ ok fk rs rl Q E q => spliced_more (h c env s φ ok fk rs rl _ _ fun a v σ₁ h₁ tk₁ φ₁ k₁ rs₁ l₁ r₁ =>
    k₁ c env ⟨h₁, s.gens, s.drawn, tk₁, s.os⟩ φ₁ ok fk rs₁ (rl.le l₁) _ _ fun as vs σ₂ h₂ tk₂ φ₂ k₂ rs₂ l₂ r₂ => q _ _ _ _ _ _ k₂ rs₂ (l₁.trans l₂) (.cons (l₂.vr r₁) r₂)) (hs env)

theorem noneAt {h : Heap} : h.get? h.objs.size = none := Heap.get?_none_of_le (Nat.le_refl _)
theorem EV.tuple {es : List Expr} {k : Nat} {pos : Pos} {K : V → List Ob → Prop} (h : EVs F ρ σ pos es (KTup K)) : EV F ρ σ (.Tuple es k pos) K :=
  fun c env s φ ok fk rs rl Q E q => Tuple_ (h c env s φ ok fk rs rl _ _ fun as xs σ₁ h₁ tk₁ φ₁ k₁ rs₁ l₁ r₁ => by
    have kk : ∀ b o, h₁.get? b = some o → (h₁.push { cls := .type "tuple", data := .seq as.toArray }).get? b = some o := fun b o e => Heap.get?_push_of_some _ e
    refine wpAny_newObj_type (q (.ref h₁.objs.size) _ _ _ tk₁ φ₁ k₁.2 (rs₁.keep kk) (l₁.trans (.of_keep kk)) ⟨_, as, _, rfl, Heap.get?_push_size _ rfl, (Le.of_keep (X := []) kk).vrs r₁⟩) ?_
    show as.toArray.size ≤ sizeLine
    rw [List.size_toArray, VRs.length r₁, sizeLine_eq]
    exact Nat.le_trans (Nat.le_of_ble_eq_true k₁.1) (by decide))
theorem newList_R {c : Cx} {s : Shared} {φ : List Addr} {vs : List Value} {xs : List V} {Q : Value → Shared → Prop} {E : Value → Shared → Prop} (rs : RS c s.heap φ σ) (r : VRs s.heap φ xs vs) (hz : xs.length ≤ 16777216)
    (q : ∀ a h', RS c h' (φ ++ [a]) (σ ++ [.list xs]) → Le [] φ s.heap (φ ++ [a]) h' → Q (.ref a) { s with heap := h' }) : wpAny (model PG c.w) c.A (newList vs) Q E s := by
  have kk : ∀ b o, s.heap.get? b = some o → (s.heap.push { cls := .type "list", data := .seq vs.toArray }).get? b = some o := fun b o e => Heap.get?_push_of_some _ e
  have m : VRs (s.heap.push { cls := .type "list", data := .seq vs.toArray }) (φ ++ [s.heap.objs.size]) xs vs := r.mono fun b o e _ => kk b o e
  obtain ⟨rs', l⟩ := rs.push (a := s.heap.objs.size) (o := .list xs) kk noneAt ⟨_, Heap.get?_push_size _ rfl⟩ ⟨vs, 0, Heap.get?_push_size _ rfl, m⟩
  refine wpAny_newObj_type (q _ _ rs' l) ?_
  show vs.toArray.size ≤ sizeLine
  rw [List.size_toArray, VRs.length r, sizeLine_eq]
  exact hz
theorem newRef {φ : List Addr} {a : Addr} {h : Heap} (e : φ.length = σ.length) : VR h (φ ++ [a]) (.ref σ.length) (.ref a) := ⟨a, rfl, by rw [← e]; simp⟩
theorem EV.list {es : List Expr} {pos : Pos} {K : V → List Ob → Prop} (h : EVs F ρ σ pos es (KLst K)) : EV F ρ σ (.List es pos) K :=
  fun c env s φ ok fk rs rl Q E q => List_ (h c env s φ ok fk rs rl _ _ fun as xs σ₁ h₁ tk₁ φ₁ k₁ rs₁ l₁ r₁ =>
    newList_R (s := ⟨h₁, s.gens, s.drawn, tk₁, s.os⟩) rs₁ r₁ (Nat.le_trans (Nat.le_of_ble_eq_true k₁.1) (by decide)) fun a h' rs' l' => q _ _ _ _ _ _ k₁.2 rs' (l₁.trans l') (newRef rs₁.len))

/-! operators -/
def Bin (op : Operator) (a b v : V) : Prop :=
  ∀ (w : World) (A : Around) (E : Value → Shared → Prop) (s : Shared) (φ : List Addr) (x y : Value), VR s.heap φ a x → VR s.heap φ b y → ∀ Q : Value → Shared → Prop, (∀ u tk, VR s.heap φ v u → Q u { s with toks := tk }) → wpAny (model PG w) A (binaryOp op x y) Q E s
theorem Bin.addI (i j : Int) : Bin .Add (.int i) (.int j) (.int (i + j)) := fun _ _ _ _ _ _ _ ⟨_, e⟩ ⟨_, e'⟩ _ q => by subst e e'; exact add_int (q _ _ ⟨_, rfl⟩)
theorem Bin.subI (i j : Int) : Bin .Sub (.int i) (.int j) (.int (i - j)) := fun _ _ _ _ _ _ _ ⟨_, e⟩ ⟨_, e'⟩ _ q => by subst e e'; exact sub_int (q _ _ ⟨_, rfl⟩)
theorem Bin.mulI (i j : Int) (h : IntMulOk i j) : Bin .Mult (.int i) (.int j) (.int (i * j)) := fun _ _ _ _ _ _ _ ⟨_, e⟩ ⟨_, e'⟩ _ q => by subst e e'; exact PyProof.Rows.mul_int (q _ _ ⟨_, rfl⟩) h
theorem Bin.fdivI (i j : Int) (h : j ≠ 0) (h2 : Builtin.divisionGoesByPylong i j = false) : Bin .FloorDiv (.int i) (.int j) (.int (i.fdiv j)) := fun _ _ _ _ _ _ _ ⟨_, e⟩ ⟨_, e'⟩ _ q => by subst e e'; exact floordiv_int h (q _ _ ⟨_, rfl⟩) (.inl h2)
theorem Bin.fmodI (i j : Int) (h : j ≠ 0) : Bin .Mod (.int i) (.int j) (.int (i.fmod j)) := fun _ _ _ _ _ _ _ ⟨_, e⟩ ⟨_, e'⟩ _ q => by subst e e'; exact mod_int' h (q _ _ ⟨_, rfl⟩)
theorem Bin.powI (i j : Int) (h : 0 ≤ j) (h1 : j ≤ 1000000) (h2 : i.natAbs < 2 ^ 64) : Bin .Pow (.int i) (.int j) (.int (i ^ j.toNat)) := fun _ _ _ _ _ _ _ ⟨_, e⟩ ⟨_, e'⟩ _ q => by subst e e'; exact pow_int_small h h1 h2 (q _ _ ⟨_, rfl⟩)
theorem Bin.addB (x y : List UInt8) (h : x.length + y.length ≤ 16777216) : Bin .Add (.bytes x) (.bytes y) (.bytes (x ++ y)) := fun _ _ _ _ _ _ _ ⟨_, e⟩ ⟨_, e'⟩ _ q => by
  subst e e'
  exact KBy.add_bytes (by simpa using h) fun t k => q _ _ ⟨t, by simp⟩
theorem Bin.mulB (x : List UInt8) (n : Int) (h : x ≠ []) (h1 : -1048576 ≤ n) (h2 : n ≤ 1048576) (h3 : x.length ≤ 16) : Bin .Mult (.bytes x) (.int n) (.bytes (List.replicate n.toNat x).flatten) := fun _ _ _ _ _ _ _ ⟨_, e⟩ ⟨_, e'⟩ _ q => by
  subst e e'
  exact PySem.W.bytes_mul_any h h1 h2 h3 fun t k => q _ _ ⟨t, rfl⟩
abbrev KB (op : Operator) (K : V → List Ob → Prop) : V → V → List Ob → Prop := fun a b σ => ∃ v, Bin op a b v ∧ K v σ
theorem KB.addI {i j : Int} {K : V → List Ob → Prop} (h : K (.int (i + j)) σ) : KB .Add K (.int i) (.int j) σ := ⟨_, Bin.addI i j, h⟩
theorem KB.subI {i j : Int} {K : V → List Ob → Prop} (h : K (.int (i - j)) σ) : KB .Sub K (.int i) (.int j) σ := ⟨_, Bin.subI i j, h⟩
theorem KB.addB {x y : List UInt8} {K : V → List Ob → Prop} (hz : x.length + y.length ≤ 16777216) (h : K (.bytes (x ++ y)) σ) : KB .Add K (.bytes x) (.bytes y) σ := ⟨_, Bin.addB x y hz, h⟩
theorem EV.bin {l r : Expr} {op : Operator} {pos : Pos} {K : V → List Ob → Prop} (h : EV F ρ σ l (TH F ρ r (KB op K))) : EV F ρ σ (.BinOp l op r pos) K :=
  fun c env s φ ok fk rs rl Q E q => wpAny_BinOp (h c env s φ ok fk rs rl _ _ fun x a σ₁ h₁ tk₁ φ₁ k₁ rs₁ l₁ r₁ =>
    k₁ c env ⟨h₁, s.gens, s.drawn, tk₁, s.os⟩ φ₁ ok fk rs₁ (rl.le l₁) _ _ fun y b σ₂ h₂ tk₂ φ₂ ⟨v, hb, kv⟩ rs₂ l₂ r₂ =>
      hb _ _ _ ⟨h₂, s.gens, s.drawn, tk₂, s.os⟩ φ₂ _ _ (l₂.vr r₁) r₂ _ fun u tk ru => q u v σ₂ h₂ tk φ₂ kv rs₂ (l₁.trans l₂) ru)
theorem KNeg.of {i : Int} {K : V → List Ob → Prop} (h : K (.int (-i)) σ) : KNeg K (.int i) σ := ⟨i, rfl, h⟩
theorem EV.neg {e : Expr} {pos : Pos} {K : V → List Ob → Prop} (h : EV F ρ σ e (KNeg K)) : EV F ρ σ (.UnaryOp .USub e pos) K :=
  fun c env s φ ok fk rs rl Q E q => UnaryOp_ (h c env s φ ok fk rs rl _ _ fun x a σ₁ h₁ tk₁ φ₁ ⟨i, e, k⟩ rs₁ l₁ r₁ => by
    subst e
    obtain ⟨t, rfl⟩ := r₁
    exact PyProof.Rows.neg_int (q _ _ _ _ _ _ k rs₁ l₁ ⟨_, rfl⟩))

/-! tests -/
def Truth (a : V) (b : Bool) : Prop := ∀ (w : World) (A : Around) (E : Value → Shared → Prop) (s : Shared) (φ : List Addr) (x : Value), VR s.heap φ a x → ∀ Q : Bool → Shared → Prop, Q b s → wpAny (model PG w) A (truthy x) Q E s
theorem Truth.bool (b : Bool) : Truth (.bool b) b := fun _ _ _ _ _ _ e _ q => by cases e; exact wpAny_truthy_bool q
def Cmp (n : Nat) (op : CmpOp) (σ : List Ob) (a b : V) (r : Bool) : Prop :=
  ∀ (c : Cx) (s : Shared) (φ : List Addr), c.OK n → RS c s.heap φ σ → ∀ x y : Value, VR s.heap φ a x → VR s.heap φ b y → ∀ (Q E : Value → Shared → Prop), Q (.bool r) s → wpAny (model PG c.w) c.A (compareOp op x y) Q E s
section
variable {n : Nat}
theorem Cmp.eqI (i j : Int) : Cmp n .Eq σ (.int i) (.int j) (i == j) := fun _ _ _ _ _ _ _ ⟨_, e⟩ ⟨_, e'⟩ _ _ q => by subst e e'; exact PyProof.Rows.eq_int q
theorem Cmp.neI (i j : Int) : Cmp n .NotEq σ (.int i) (.int j) (i != j) := fun _ _ _ _ _ _ _ ⟨_, e⟩ ⟨_, e'⟩ _ _ q => by subst e e'; exact PyProof.Rows.ne_int q
theorem Cmp.ltI (i j : Int) : Cmp n .Lt σ (.int i) (.int j) (decide (i < j)) := fun _ _ _ _ _ _ _ ⟨_, e⟩ ⟨_, e'⟩ _ _ q => by subst e e'; exact PyProof.Rows.lt_int q
theorem Cmp.leI (i j : Int) : Cmp n .LtE σ (.int i) (.int j) (decide (i ≤ j)) := fun _ _ _ _ _ _ _ ⟨_, e⟩ ⟨_, e'⟩ _ _ q => by subst e e'; exact PyProof.Rows.le_int q
theorem Cmp.gtI (i j : Int) : Cmp n .Gt σ (.int i) (.int j) (decide (j < i)) := fun _ _ _ _ _ _ _ ⟨_, e⟩ ⟨_, e'⟩ _ _ q => by subst e e'; exact PyProof.Rows.gt_int q
theorem Cmp.geI (i j : Int) : Cmp n .GtE σ (.int i) (.int j) (decide (j ≤ i)) := fun _ _ _ _ _ _ _ ⟨_, e⟩ ⟨_, e'⟩ _ _ q => by subst e e'; exact PyProof.Rows.ge_int q
theorem Cmp.eqS (x y : Str) : Cmp n .Eq σ (.str x) (.str y) (x == y) := fun _ _ _ _ _ _ _ ⟨_, e⟩ ⟨_, e'⟩ _ _ q => by subst e e'; exact PyProof.Rows.eq_str q
theorem Cmp.neS (x y : Str) : Cmp n .NotEq σ (.str x) (.str y) (x != y) := fun _ _ _ _ _ _ _ ⟨_, e⟩ ⟨_, e'⟩ _ _ q => by subst e e'; exact PyProof.Rows.ne_str q
theorem Cmp.eqB (x y : List UInt8) : Cmp n .Eq σ (.bytes x) (.bytes y) (x == y) := fun _ _ _ _ _ _ _ ⟨_, e⟩ ⟨_, e'⟩ _ _ q => by subst e e'; exact eq_bytes q
theorem Cmp.neB (x y : List UInt8) : Cmp n .NotEq σ (.bytes x) (.bytes y) (x != y) := fun _ _ _ _ _ _ _ ⟨_, e⟩ ⟨_, e'⟩ _ _ q => by subst e e'; exact ne_bytes q
def V.isNone : V → Bool
  | .none => true
  | _ => false
theorem vNone {h : Heap} {φ : List Addr} {a : V} {x : Value} (r : VR h φ a x) (hv : ∀ v, a ≠ .val v) : (x == Value.none) = a.isNone := by
  cases a with
  | none => cases r; rfl
  | bool b => cases r; rfl
  | int i => obtain ⟨_, rfl⟩ := r; rfl
  | str i => obtain ⟨_, rfl⟩ := r; rfl
  | bytes i => obtain ⟨_, rfl⟩ := r; rfl
  | tup l => obtain ⟨_, _, _, rfl, _⟩ := r; rfl
  | ref i => obtain ⟨_, rfl, _⟩ := r; rfl
  | rng i j => obtain ⟨_, _, _, _, rfl, _⟩ := r; rfl
  | val v => exact absurd rfl (hv v)
theorem Cmp.isN (a : V) (hv : ∀ v, a ≠ .val v) : Cmp n .Is σ a .none a.isNone := fun _ _ _ _ _ _ _ r e _ _ q => by
  cases e
  exact is_none_gen (by rw [vNone r hv]; exact q)
theorem Cmp.isntN (a : V) (hv : ∀ v, a ≠ .val v) : Cmp n .IsNot σ a .none (!a.isNone) := fun _ _ _ _ _ _ _ r e _ _ q => by
  cases e
  exact isnot_none_gen (by rw [vNone r hv]; exact q)
end

abbrev KC (n : Nat) (op : CmpOp) (K : V → List Ob → Prop) : V → V → List Ob → Prop := fun a b σ => ∃ q, Cmp n op σ a b q ∧ K (.bool q) σ
abbrev KCt (n : Nat) (op : CmpOp) (K : Bool → List Ob → Prop) : V → V → List Ob → Prop := fun a b σ => ∃ q, Cmp n op σ a b q ∧ K q σ
abbrev KCh (F : Fn) (ρ : List (String × V)) (o₁ o₂ : CmpOp) (r₂ : Expr) (K : Bool → List Ob → Prop) : V → V → List Ob → Prop := fun a b σ => ∃ q, Cmp F.n o₁ σ a b q ∧ (q = false → K false σ) ∧ (q = true → EV F ρ σ r₂ (KCt F.n o₂ K b))
theorem KC.of {n : Nat} {op : CmpOp} {a b : V} {q : Bool} {K : V → List Ob → Prop} (c : Cmp n op σ a b q) (h : K (.bool q) σ) : KC n op K a b σ := ⟨q, c, h⟩
theorem KCt.of {n : Nat} {op : CmpOp} {a b : V} {q : Bool} {K : Bool → List Ob → Prop} (c : Cmp n op σ a b q) (h : K q σ) : KCt n op K a b σ := ⟨q, c, h⟩
theorem KCh.of {o₁ o₂ : CmpOp} {r₂ : Expr} {a b : V} {q : Bool} {K : Bool → List Ob → Prop} (c : Cmp F.n o₁ σ a b q) (h0 : q = false → K false σ) (h1 : q = true → EV F ρ σ r₂ (KCt F.n o₂ K b)) : KCh F ρ o₁ o₂ r₂ K a b σ := ⟨q, c, h0, h1⟩
theorem EV.cmp {l r : Expr} {op : CmpOp} {pos : Pos} {K : V → List Ob → Prop} (h : EV F ρ σ l (TH F ρ r (KC F.n op K))) (hb : behindInMarks op r = false) : EV F ρ σ (.Compare l [op] [r] pos) K :=
  fun c env s φ ok fk rs rl Q E q => wpAny_Compare1 (h c env s φ ok fk rs rl _ _ fun x a σ₁ h₁ tk₁ φ₁ k₁ rs₁ l₁ r₁ =>
    k₁ c env ⟨h₁, s.gens, s.drawn, tk₁, s.os⟩ φ₁ ok fk rs₁ (rl.le l₁) _ _ fun y b σ₂ h₂ tk₂ φ₂ ⟨v, hb, kv⟩ rs₂ l₂ r₂ =>
      hb c ⟨h₂, s.gens, s.drawn, tk₂, s.os⟩ φ₂ ok rs₂ _ _ (l₂.vr r₁) r₂ _ _ (q _ _ _ _ _ _ kv rs₂ (l₁.trans l₂) rfl)) hb
theorem TST.cmp {l r : Expr} {op : CmpOp} {pos : Pos} {K : Bool → List Ob → Prop} (h : EV F ρ σ l (TH F ρ r (KCt F.n op K))) (hb : behindInMarks op r = false) : TST F ρ σ (.Compare l [op] [r] pos) K :=
  fun c env s φ ok fk rs rl Q E q => wpAny_isTrue_Compare1 (h c env s φ ok fk rs rl _ _ fun x a σ₁ h₁ tk₁ φ₁ k₁ rs₁ l₁ r₁ =>
    k₁ c env ⟨h₁, s.gens, s.drawn, tk₁, s.os⟩ φ₁ ok fk rs₁ (rl.le l₁) _ _ fun y b σ₂ h₂ tk₂ φ₂ ⟨v, hb, kv⟩ rs₂ l₂ r₂ =>
      hb c ⟨h₂, s.gens, s.drawn, tk₂, s.os⟩ φ₂ ok rs₂ _ _ (l₂.vr r₁) r₂ _ _ (wpAny_truthy_bool (q _ _ _ _ _ _ kv rs₂ (l₁.trans l₂) rfl))) hb
theorem TST.chain {l r₁ r₂ : Expr} {o₁ o₂ : CmpOp} {pos : Pos} {K : Bool → List Ob → Prop}
    (h : EV F ρ σ l (TH F ρ r₁ (KCh F ρ o₁ o₂ r₂ K)))
    (hb : lastMarks [o₁, o₂] [r₁, r₂] = false) : TST F ρ σ (.Compare l [o₁, o₂] [r₁, r₂] pos) K :=
  fun c env s φ ok fk rs rl Q E q => isTrue_chain (h c env s φ ok fk rs rl _ _ fun x a σ₁ h₁ tk₁ φ₁ k₁ rs₁ l₁ r₁ => by
    show wpAny _ _ (testChain pos x [o₁, o₂] [eval _ env, eval _ env]) _ _ _
    unfold testChain
    refine wpAny_bind (wpAny_holding (k₁ c env ⟨h₁, s.gens, s.drawn, tk₁, s.os⟩ φ₁ ok fk rs₁ (rl.le l₁) _ _ fun y b σ₂ h₂ tk₂ φ₂ ⟨v, hb, k0, k1⟩ rs₂ l₂ r₂ => ?_))
    refine wpAny_bind (wpAny_standAt (wpAny_bind (wpAny_holding (hb c ⟨h₂, s.gens, s.drawn, tk₂, s.os⟩ φ₂ ok rs₂ _ _ (l₂.vr r₁) r₂ _ _ (wpAny_bind (wpAny_release (wpAny_bind (wpAny_holding (wpAny_truthy_bool ?_)))))))))
    cases v with
    | false => exact wpAny_pure (q _ _ _ _ _ _ (k0 rfl) rs₂ (l₁.trans l₂) rfl)
    | true =>
      simp only [if_true]
      unfold testChain
      refine wpAny_bind (wpAny_holding (k1 rfl c env ⟨h₂, s.gens, s.drawn, tk₂, s.os⟩ φ₂ ok fk rs₂ (rl.le (l₁.trans l₂)) _ _ fun z d σ₃ h₃ tk₃ φ₃ ⟨p, hp, kp⟩ rs₃ l₃ r₃ => ?_))
      refine wpAny_bind (wpAny_standAt (wpAny_bind (wpAny_operating (hp c ⟨h₃, s.gens, s.drawn, tk₃, s.os⟩ φ₃ ok rs₃ _ _ (l₃.vr r₂) r₃ _ _ (wpAny_holding (wpAny_truthy_bool (q _ _ _ _ _ _ kp rs₃ ((l₁.trans l₂).trans l₃) rfl)))))))) hb
theorem TST.not {e : Expr} {pos : Pos} {K : Bool → List Ob → Prop} (h : TST F ρ σ e (KNot K)) : TST F ρ σ (.UnaryOp .Not e pos) K :=
  fun c env s φ ok fk rs rl Q E q => isTrue_not (h c env s φ ok fk rs rl _ _ fun x b σ₁ h₁ tk₁ φ₁ k₁ rs₁ l₁ r₁ => by cases r₁; exact q _ _ _ _ _ _ k₁ rs₁ l₁ rfl)
abbrev KTr (K : Bool → List Ob → Prop) : V → List Ob → Prop := fun a σ => ∃ b, Truth a b ∧ K b σ
theorem KTr.bool {b : Bool} {K : Bool → List Ob → Prop} (h : K b σ) : KTr K (.bool b) σ := ⟨b, Truth.bool b, h⟩
theorem TST.plain {e : Expr} {K : Bool → List Ob → Prop} (h : EV F ρ σ e (KTr K))
    (hp : ∀ env, isTrue e env (eval e env) = (do let v ← eval e env; standAt e.pos; holding [v] (truthy v))) : TST F ρ σ e K :=
  fun c env s φ ok fk rs rl Q E q => isTrue_plain (h c env s φ ok fk rs rl _ _ fun x a σ₁ h₁ tk₁ φ₁ ⟨b, hb, kb⟩ rs₁ l₁ r₁ => hb _ _ _ ⟨h₁, s.gens, s.drawn, tk₁, s.os⟩ φ₁ _ r₁ _ (q _ _ _ _ _ _ kb rs₁ l₁ rfl)) (hp env)
def TL (op : BoolOp) (pos : Pos) (W : Env → Sem Value) (F : Fn) (ρ : List (String × V)) (σ : List Ob) (xs : List Expr) (K : Bool → List Ob → Prop) : Prop := WPg (fun _ _ b a => a = b) F ρ σ (fun env => isTrue (.BoolOp op xs pos) env (W env)) K
theorem TST.lift {op : BoolOp} {xs : List Expr} {pos : Pos} {K : Bool → List Ob → Prop} (h : TL op pos (eval (.BoolOp op xs pos)) F ρ σ xs K) : TST F ρ σ (.BoolOp op xs pos) K := h
section
variable {pos : Pos} {W : Env → Sem Value} {x : Expr} {xs : List Expr} {K : Bool → List Ob → Prop}
abbrev KTA (op : BoolOp) (s : Bool) (pos : Pos) (W : Env → Sem Value) (F : Fn) (ρ : List (String × V)) (xs : List Expr) (K : Bool → List Ob → Prop) : Bool → List Ob → Prop := fun b σ => (b = s → K s σ) ∧ (b = (!s) → TL op pos W F ρ σ xs K)
theorem no_ft {p : Prop} {b s : Bool} (e : b = s) (z : b = (!s)) : p := by subst e; cases b <;> cases z
theorem KTA.stop {op : BoolOp} {s b : Bool} (e : b = s) (h : K s σ) : KTA op s pos W F ρ xs K b σ := ⟨fun _ => h, no_ft e⟩
theorem KTA.go {op : BoolOp} {s b : Bool} (e : b = (!s)) (h : TL op pos W F ρ σ xs K) : KTA op s pos W F ρ xs K b σ := ⟨fun z => no_ft z e, fun _ => h⟩
theorem TL.andN (h : K true σ) : TL .And pos W F ρ σ [] K := fun _ _ _ _ _ _ rs _ _ _ q => isTrue_and_nil (q _ _ _ _ _ _ h rs .refl rfl)
theorem TL.orN (h : K false σ) : TL .Or pos W F ρ σ [] K := fun _ _ _ _ _ _ rs _ _ _ q => isTrue_or_nil (q _ _ _ _ _ _ h rs .refl rfl)
theorem TL.and (h : TST F ρ σ x (KTA .And false pos W F ρ xs K)) : TL .And pos W F ρ σ (x :: xs) K :=
  fun c env s φ ok fk rs rl Q E q => isTrue_and (h c env s φ ok fk rs rl _ _ fun a b σ₁ h₁ tk₁ φ₁ k₁ rs₁ l₁ r₁ => by
    cases r₁
    cases a with
    | false => exact q _ _ _ _ _ _ (k₁.1 rfl) rs₁ l₁ rfl
    | true => exact k₁.2 rfl c env ⟨h₁, s.gens, s.drawn, tk₁, s.os⟩ φ₁ ok fk rs₁ (rl.le l₁) _ _ fun a b σ₂ h₂ tk₂ φ₂ k₂ rs₂ l₂ r₂ => q _ _ _ _ _ _ k₂ rs₂ (l₁.trans l₂) r₂)
theorem TL.or (h : TST F ρ σ x (KTA .Or true pos W F ρ xs K)) : TL .Or pos W F ρ σ (x :: xs) K :=
  fun c env s φ ok fk rs rl Q E q => isTrue_or (h c env s φ ok fk rs rl _ _ fun a b σ₁ h₁ tk₁ φ₁ k₁ rs₁ l₁ r₁ => by
    cases r₁
    cases a with
    | true => exact q _ _ _ _ _ _ (k₁.1 rfl) rs₁ l₁ rfl
    | false => exact k₁.2 rfl c env ⟨h₁, s.gens, s.drawn, tk₁, s.os⟩ φ₁ ok fk rs₁ (rl.le l₁) _ _ fun a b σ₂ h₂ tk₂ φ₂ k₂ rs₂ l₂ r₂ => q _ _ _ _ _ _ k₂ rs₂ (l₁.trans l₂) r₂)
end
theorem EV.ifx {t a b : Expr} {pos : Pos} {K : V → List Ob → Prop} (h : TST F ρ σ t (KI F ρ a b K)) : EV F ρ σ (.IfExp t a b pos) K :=
  fun c env s φ ok fk rs rl Q E q => IfExp_ (h c env s φ ok fk rs rl _ _ fun x v σ₁ h₁ tk₁ φ₁ k₁ rs₁ l₁ r₁ => by
    cases r₁
    have fin := fun a b σ₂ h₂ tk₂ φ₂ k₂ rs₂ l₂ r₂ => q a b σ₂ h₂ tk₂ φ₂ k₂ rs₂ (l₁.trans l₂) r₂
    cases x with
    | true => exact k₁.1 rfl c env ⟨h₁, s.gens, s.drawn, tk₁, s.os⟩ φ₁ ok fk rs₁ (rl.le l₁) _ _ fin
    | false => exact k₁.2 rfl c env ⟨h₁, s.gens, s.drawn, tk₁, s.os⟩ φ₁ ok fk rs₁ (rl.le l₁) _ _ fin)
theorem EV.one {op : BoolOp} {e : Expr} {pos : Pos} {K : V → List Ob → Prop} (h : EV F ρ σ e K) : EV F ρ σ (.BoolOp op [e] pos) K :=
  fun c env s φ ok fk rs rl Q E q => BoolOp_one (h c env s φ ok fk rs rl _ _ q)
abbrev KAnd (F : Fn) (ρ : List (String × V)) (xs : List Expr) (pos : Pos) (K : V → List Ob → Prop) : V → List Ob → Prop := fun v σ => ∃ b, Truth v b ∧ (b = false → K v σ) ∧ (b = true → EV F ρ σ (.BoolOp .And xs pos) K)
theorem KAnd.bool {xs : List Expr} {pos : Pos} {b : Bool} {K : V → List Ob → Prop} (h0 : b = false → K (.bool b) σ) (h1 : b = true → EV F ρ σ (.BoolOp .And xs pos) K) : KAnd F ρ xs pos K (.bool b) σ := ⟨b, Truth.bool b, h0, h1⟩
theorem KAnd.no {xs : List Expr} {pos : Pos} {b : Bool} {K : V → List Ob → Prop} (e : b = false) (h : K (.bool false) σ) : KAnd F ρ xs pos K (.bool b) σ := ⟨b, Truth.bool b, fun _ => e ▸ h, no_ft e⟩
theorem KAnd.yes {xs : List Expr} {pos : Pos} {b : Bool} {K : V → List Ob → Prop} (e : b = true) (h : EV F ρ σ (.BoolOp .And xs pos) K) : KAnd F ρ xs pos K (.bool b) σ := ⟨b, Truth.bool b, fun z => no_ft z e, fun _ => h⟩
theorem EV.and {x y : Expr} {xs : List Expr} {pos : Pos} {K : V → List Ob → Prop} (h : EV F ρ σ x (KAnd F ρ (y :: xs) pos K)) : EV F ρ σ (.BoolOp .And (x :: y :: xs) pos) K :=
  fun c env s φ ok fk rs rl Q E q => BoolOp_and (h c env s φ ok fk rs rl _ _ fun a v σ₁ h₁ tk₁ φ₁ ⟨b, hb, k0, k1⟩ rs₁ l₁ r₁ => hb _ _ _ ⟨h₁, s.gens, s.drawn, tk₁, s.os⟩ φ₁ _ r₁ _ (by
    cases b with
    | false => exact q _ _ _ _ _ _ (k0 rfl) rs₁ l₁ r₁
    | true => exact k1 rfl c env ⟨h₁, s.gens, s.drawn, tk₁, s.os⟩ φ₁ ok fk rs₁ (rl.le l₁) _ _ fun a b σ₂ h₂ tk₂ φ₂ k₂ rs₂ l₂ r₂ => q _ _ _ _ _ _ k₂ rs₂ (l₁.trans l₂) r₂))
end
end
section

/-- a cut, as Python clips it -/
def cut {α : Type} (l : List α) (lo hi : Option Int) : List α := (l.drop (kms_lo lo l.length)).take (kms_hi hi l.length - kms_lo lo l.length)

section
variable {F : Fn} {ρ : List (String × V)} {σ : List Ob}

/-! an item -/
def Sub (n : Nat) (σ : List Ob) (a b v : V) : Prop :=
  ∀ (c : Cx) (s : Shared) (φ : List Addr), c.OK n → RS c s.heap φ σ → ∀ x y : Value, VR s.heap φ a x → VR s.heap φ b y → ∀ (value slice : Expr) (Q E : Value → Shared → Prop), (∀ o i, subscripted slice false o i = operate [o, i] (getItem o i)) →
    (∀ (d : Array UInt8) t r, letTemporaryGo value (.bytes d t) r = pure ()) →
    (∀ u tk, VR s.heap φ v u → Q u { s with toks := tk }) → wpAny (model PG c.w) c.A (subscriptTail value slice x y) Q E s
section
variable {n : Nat}
theorem Sub.list {j : Nat} {i : Int} {l : List V} {v : V} (e : σ[j]? = some (.list l)) (h0 : 0 ≤ i) (h1 : i < 9223372036854775808) (h2 : l[i.toNat]? = some v) : Sub n σ (.ref j) (.int i) v := by
  rintro c s φ ok rs x y ⟨a, rfl, ha⟩ ⟨t, rfl⟩ value slice Q E hs _ q
  obtain ⟨vs, k, g, r⟩ := rs.at_ j a _ ha e
  obtain ⟨u, e1, e2⟩ := r.get h2
  have hl : s.heap.IsList a vs.toArray := ⟨_, g, rfl, k, rfl⟩
  exact tail_any hl.typeIs slot_list_getitem.lookup (wpAny_getItem_list hl h0 (by omega) (by simpa using e1) (q u s.toks e2)) (hs _ _)
theorem Sub.tup {i : Nat} {l : List V} {v : V} (hi : i < 1000) (h2 : l[i]? = some v) : Sub n σ (.tup l) (.int i) v := by
  rintro c s φ ok rs x y ⟨a, vs, k, rfl, g, r⟩ ⟨t, rfl⟩ value slice Q E hs _ q
  obtain ⟨u, e1, e2⟩ := r.get h2
  have hl : i < vs.length := (List.getElem?_eq_some_iff.mp e1).1
  have ht : IsTup s.heap a vs.toArray := ⟨_, g, rfl, k, rfl⟩
  refine item_tupleT ht (by omega) (by omega) ?_ e1 (q u s.toks e2) (hs _ _)
  have h3 : ¬ ((i : Int) < 0) := by omega
  have h4 : (i : Int) < vs.length := by omega
  simp [seqIndex?, h3, h4]
theorem Sub.bytes {i : Int} {l : List UInt8} (hz : l.length ≤ 16777216) (h0 : 0 ≤ i) (h1 : i < l.length) : Sub n σ (.bytes l) (.int i) (.int ((l.getD i.toNat 0).toNat)) := by
  rintro c s φ ok rs x y ⟨tx, rfl⟩ ⟨t, rfl⟩ value slice Q E hs ht q
  refine KBw.item_K rfl (by rw [KBw.ints_length]; simp; omega) h0 (by rw [KBw.ints_length]; simpa using h1) (fun t' k _ _ => ?_) (hs _ _) (ht _ _)
  have e : (KBw.bInts l.toArray).getD i.toNat 0 = ((l.getD i.toNat 0).toNat : Int) := by
    rw [KBw.ints_list, ← KBw.getD_ints]
  rw [e]
  exact q _ _ ⟨t', rfl⟩
theorem vAt {h : Heap} {φ : List Addr} {k : Str} {v : V} : ∀ {kvs : List (Str × Value)} {l : List (Str × V)}, KRs h φ kvs l → l.lookup k = some v → ∃ u, valueAt kvs k = some u ∧ VR h φ v u
  | [], l, ⟨e, _⟩, q => by
    cases l with
    | nil => cases q
    | cons _ _ => cases e
  | (y, u) :: kvs, l, ⟨e, r⟩, q => by
    cases l with
    | nil => cases e
    | cons p l =>
      obtain ⟨z, w⟩ := p
      simp only [List.map_cons, List.cons.injEq] at e
      obtain ⟨e1, e2⟩ := e
      obtain ⟨u', us, e3, r1, r2⟩ := r
      cases e3
      rw [List.lookup_cons] at q
      by_cases hk : k = z
      · subst hk
        simp at q
        subst q
        exact ⟨u, by simp [valueAt, e1], r1⟩
      · have hk' : (k == z) = false := by simpa using hk
        rw [hk'] at q
        obtain ⟨u', h1, h2⟩ := vAt (kvs := kvs) ⟨e2, r2⟩ q
        refine ⟨u', ?_, h2⟩
        have : ¬ y = k := fun x => hk (by rw [← x, e1])
        simpa [valueAt, List.find?_cons, this] using h1
theorem Sub.dict {j : Nat} {k : Str} {l : List (Str × V)} {v : V} (e : σ[j]? = some (.dict l)) (h : l.lookup k = some v) : Sub n σ (.ref j) (.str k) v := by
  rintro c s φ ok rs x y ⟨a, rfl, ha⟩ ⟨t, rfl⟩ value slice Q E hs _ q
  obtain ⟨kvs, hd, r⟩ := rs.at_ j a _ ha e
  obtain ⟨u, e1, e2⟩ := vAt r h
  exact tail_any hd.typeIs slot_dict_getitem.lookup (wpAny_getItem_of (strKind_is _ _ k t) hd.mapOf e1 (q u _ e2)) (hs _ _)
end
abbrev KS (n : Nat) (K : V → List Ob → Prop) : V → V → List Ob → Prop := fun a b σ => ∃ v, Sub n σ a b v ∧ K v σ
theorem KS.of {n : Nat} {a b v : V} {K : V → List Ob → Prop} (s : Sub n σ a b v) (h : K v σ) : KS n K a b σ := ⟨v, s, h⟩
theorem KS.t0 {n : Nat} {l : List V} {v : V} {K : V → List Ob → Prop} (e : l[0]? = some v) (h : K v σ) : KS n K (.tup l) (.int 0) σ := ⟨v, Sub.tup (i := 0) (by decide) e, h⟩
theorem KS.t1 {n : Nat} {l : List V} {v : V} {K : V → List Ob → Prop} (e : l[1]? = some v) (h : K v σ) : KS n K (.tup l) (.int 1) σ := ⟨v, Sub.tup (i := 1) (by decide) e, h⟩
theorem KS.t2 {n : Nat} {l : List V} {v : V} {K : V → List Ob → Prop} (e : l[2]? = some v) (h : K v σ) : KS n K (.tup l) (.int 2) σ := ⟨v, Sub.tup (i := 2) (by decide) e, h⟩
theorem KS.t3 {n : Nat} {l : List V} {v : V} {K : V → List Ob → Prop} (e : l[3]? = some v) (h : K v σ) : KS n K (.tup l) (.int 3) σ := ⟨v, Sub.tup (i := 3) (by decide) e, h⟩
theorem KS.t4 {n : Nat} {l : List V} {v : V} {K : V → List Ob → Prop} (e : l[4]? = some v) (h : K v σ) : KS n K (.tup l) (.int 4) σ := ⟨v, Sub.tup (i := 4) (by decide) e, h⟩
theorem KS.t5 {n : Nat} {l : List V} {v : V} {K : V → List Ob → Prop} (e : l[5]? = some v) (h : K v σ) : KS n K (.tup l) (.int 5) σ := ⟨v, Sub.tup (i := 5) (by decide) e, h⟩
theorem EV.sub {o i : Expr} {pos : Pos} {K : V → List Ob → Prop} (h : EV F ρ σ o (TH F ρ i (KS F.n K))) (hs : ∀ x y, subscripted i false x y = operate [x, y] (getItem x y))
    (ht : ∀ (d : Array UInt8) t r, letTemporaryGo o (.bytes d t) r = pure ()) : EV F ρ σ (.Subscript o i pos) K :=
  fun c env s φ ok fk rs rl Q E q => Subscript_ (h c env s φ ok fk rs rl _ _ fun x a σ₁ h₁ tk₁ φ₁ k₁ rs₁ l₁ r₁ =>
    k₁ c env ⟨h₁, s.gens, s.drawn, tk₁, s.os⟩ φ₁ ok fk rs₁ (rl.le l₁) _ _ fun y b σ₂ h₂ tk₂ φ₂ ⟨v, hb, kv⟩ rs₂ l₂ r₂ =>
      hb c ⟨h₂, s.gens, s.drawn, tk₂, s.os⟩ φ₂ ok rs₂ _ _ (l₂.vr r₁) r₂ _ _ _ _ hs ht fun u tk r => q _ _ _ _ _ _ kv rs₂ (l₁.trans l₂) r)

/-! a cut -/
def PRT (F : Fn) (ρ : List (String × V)) (σ : List Ob) (o : Option Expr) (K : Option Int → List Ob → Prop) : Prop := WPg (fun _ _ b a => IsPart a b) F ρ σ (evalPart o) K
theorem PRT.none {K : Option Int → List Ob → Prop} (h : K Option.none σ) : PRT F ρ σ Option.none K := fun _ _ _ _ _ _ rs _ _ _ q => evalPart_none_step (q _ _ _ _ _ _ h rs .refl .none)
abbrev KP (K : Option Int → List Ob → Prop) : V → List Ob → Prop := fun a σ => ∃ i, a = .int i ∧ K (Option.some i) σ
theorem KP.of {i : Int} {K : Option Int → List Ob → Prop} (h : K (Option.some i) σ) : KP K (.int i) σ := ⟨i, rfl, h⟩
theorem PRT.some {e : Expr} {K : Option Int → List Ob → Prop} (h : EV F ρ σ e (KP K)) : PRT F ρ σ (Option.some e) K :=
  fun c env s φ ok fk rs rl Q E q => evalPart_some_step (h c env s φ ok fk rs rl _ _ fun x a σ₁ h₁ tk₁ φ₁ ⟨i, e, k⟩ rs₁ l₁ r₁ => by
    subst e
    obtain ⟨t, rfl⟩ := r₁
    exact q _ _ _ _ _ _ k rs₁ l₁ (.int i t))
theorem cut_eq (b : List UInt8) (lo hi : Option Int) : KBy.picked b.toArray lo hi = (cut b lo hi).toArray := by
  unfold KBy.picked Builtin.Bytes.sliced cut
  rw [kms_bounds]
  simp only [sliceRange_one, pick_run, List.size_toArray]
abbrev KCB2 (x : List UInt8) (l : Option Int) (K : V → List Ob → Prop) : Option Int → List Ob → Prop := fun u σ => x.length ≤ 16777216 ∧ K (.bytes (cut x l u)) σ
abbrev KCB1 (F : Fn) (ρ : List (String × V)) (hi : Option Expr) (x : List UInt8) (K : V → List Ob → Prop) : Option Int → List Ob → Prop := fun l σ => PRT F ρ σ hi (KCB2 x l K)
abbrev KCB (F : Fn) (ρ : List (String × V)) (lo hi : Option Expr) (K : V → List Ob → Prop) : V → List Ob → Prop := fun a σ => ∃ x, a = .bytes x ∧ PRT F ρ σ lo (KCB1 F ρ hi x K)
theorem KCB.of {lo hi : Option Expr} {x : List UInt8} {K : V → List Ob → Prop} (h : PRT F ρ σ lo (KCB1 F ρ hi x K)) : KCB F ρ lo hi K (.bytes x) σ := ⟨x, rfl, h⟩
theorem EV.cutB {o : Expr} {lo hi : Option Expr} {p pos : Pos} {K : V → List Ob → Prop}
    (h : EV F ρ σ o (KCB F ρ lo hi K))
    (ht : ∀ (d : Array UInt8) t r, letTemporaryGo o (.bytes d t) r = pure ()) : EV F ρ σ (.Subscript o (.Slice lo hi Option.none p) pos) K :=
  fun c env s φ ok fk rs rl Q E q => Subscript_ (h c env s φ ok fk rs rl _ _ fun x a σ₁ h₁ tk₁ φ₁ ⟨xs, e, k₁⟩ rs₁ l₁ r₁ => by
    subst e
    obtain ⟨t, rfl⟩ := r₁
    refine wpAny_Slice (k₁ c env ⟨h₁, s.gens, s.drawn, tk₁, s.os⟩ φ₁ ok fk rs₁ (rl.le l₁) _ _ fun l lo' σ₂ h₂ tk₂ φ₂ k₂ rs₂ l₂ r₂ =>
      k₂ c env ⟨h₂, s.gens, s.drawn, tk₂, s.os⟩ φ₂ ok fk rs₂ (rl.le (l₁.trans l₂)) _ _ fun u hi' σ₃ h₃ tk₃ φ₃ k₃ rs₃ l₃ r₃ => evalPart_none_step ?_)
    have kk : ∀ b o, h₃.get? b = some o → (h₃.push { cls := .type "slice", data := .fields #[l, u, .none] }).get? b = some o := fun b o e => Heap.get?_push_of_some _ e
    refine tail_of_ItemOn ⟨"bytes", _, FB.slot_bytes_getitem.lookup, typeIs_bytes _ _ _, getItem_meets (typeIs_bytes _ _ _) (by decide) FB.slot_bytes_getitem FB.entry_bytes_getitem (FB.args_bytes_getitem_2 _ _) (KBc.meets_slice2 _ t _ r₂ r₃)
      ⟨Heap.IsSliceOf.new _ _ _ _, ?_, fun t' k => ?_⟩⟩ rfl (ht _ _)
    · refine Nat.le_trans (KBc.size_picked_le _ _ _) ?_
      rw [sizeLine_eq]
      simpa using k₃.1
    · rw [cut_eq]
      exact q _ _ _ _ _ _ k₃.2 (rs₃.keep kk) (((l₁.trans l₂).trans l₃).trans (.of_keep kk)) ⟨t', rfl⟩)
theorem VRs.cut {h : Heap} {φ : List Addr} {xs : List V} {vs : List Value} (r : VRs h φ xs vs) (lo hi : Option Int) : VRs h φ (cut xs lo hi) (kms_pick vs lo hi) := by
  unfold Mine.cut kms_pick
  rw [r.length]
  exact (r.drop _).take _
/-- a list of the store, or one of ints that stands as it was -/
inductive LST (σ : List Ob) (j : Nat) : List V → Prop
  | list {x : List V} (e : σ[j]? = some (.list x)) : LST σ j x
  | froz {o : Obj} {us : List Value} {k : Nat} {ns : List Int} (e : σ[j]? = some (.frozen o)) (hc : o.cls = .type "list") (hd : o.data = .seq us.toArray k) (hi : IntsAre us ns) : LST σ j (ns.map .int)
theorem VRs.ints {h : Heap} {φ : List Addr} : ∀ {us : List Value} {ns : List Int}, IntsAre us ns → VRs h φ (ns.map .int) us
  | _, _, .nil => VRs.nil
  | _, _, .cons n t r => .cons ⟨t, rfl⟩ (VRs.ints r)
abbrev KCL2 (j : Nat) (l : Option Int) (K : V → List Ob → Prop) : Option Int → List Ob → Prop := fun u σ => ∃ x, LST σ j x ∧ x.length ≤ 16777216 ∧ K (.ref σ.length) (σ ++ [.list (cut x l u)])
abbrev KCL1 (F : Fn) (ρ : List (String × V)) (hi : Option Expr) (j : Nat) (K : V → List Ob → Prop) : Option Int → List Ob → Prop := fun l σ => PRT F ρ σ hi (KCL2 j l K)
abbrev KCL (F : Fn) (ρ : List (String × V)) (lo hi : Option Expr) (K : V → List Ob → Prop) : V → List Ob → Prop := fun a σ => ∃ j, a = .ref j ∧ PRT F ρ σ lo (KCL1 F ρ hi j K)
theorem KCL.of {lo hi : Option Expr} {j : Nat} {K : V → List Ob → Prop} (h : PRT F ρ σ lo (KCL1 F ρ hi j K)) : KCL F ρ lo hi K (.ref j) σ := ⟨j, rfl, h⟩
theorem EV.cutL {o : Expr} {lo hi : Option Expr} {p pos : Pos} {K : V → List Ob → Prop}
    (h : EV F ρ σ o (KCL F ρ lo hi K)) : EV F ρ σ (.Subscript o (.Slice lo hi Option.none p) pos) K :=
  fun c env s φ ok fk rs rl Q E q => Subscript_ (h c env s φ ok fk rs rl _ _ fun x a σ₁ h₁ tk₁ φ₁ ⟨j, e, k₁⟩ rs₁ l₁ r₁ => by
    subst e
    obtain ⟨b, rfl, hb⟩ := r₁
    refine wpAny_Slice (k₁ c env ⟨h₁, s.gens, s.drawn, tk₁, s.os⟩ φ₁ ok fk rs₁ (rl.le l₁) _ _ fun l lo' σ₂ h₂ tk₂ φ₂ k₂ rs₂ l₂ r₂ =>
      k₂ c env ⟨h₂, s.gens, s.drawn, tk₂, s.os⟩ φ₂ ok fk rs₂ (rl.le (l₁.trans l₂)) _ _ fun u hi' σ₃ h₃ tk₃ φ₃ k₃ rs₃ l₃ r₃ => evalPart_none_step ?_)
    obtain ⟨xs, e3, hz, k₃⟩ := k₃
    have kk : ∀ b o, h₃.get? b = some o → (h₃.push { cls := .type "slice", data := .fields #[l, u, .none] }).get? b = some o := fun b o e => Heap.get?_push_of_some _ e
    obtain ⟨vs, hl₃, r⟩ : ∃ vs : List Value, h₃.IsList b vs.toArray ∧ VRs h₃ φ₃ xs vs := by
      cases e3 with
      | list e => obtain ⟨vs, n, g, r⟩ := rs₃.at_ j b _ (l₃.at (l₂.at hb)) e; exact ⟨vs, ⟨_, g, rfl, n, rfl⟩, r⟩
      | froz e hc hd hi => exact ⟨_, ⟨_, rs₃.at_ j b _ (l₃.at (l₂.at hb)) e, hc, _, hd⟩, VRs.ints hi⟩
    have hl : (h₃.push { cls := .type "slice", data := .fields #[l, u, .none] }).IsList b vs.toArray := hl₃.at fun o e => kk _ _ e
    refine tail_any (Heap.IsList.typeIs (s := ⟨h₃.push _, s.gens, s.drawn, tk₃, s.os⟩) hl) slot_list_getitem.lookup (wpAny_getItem_list_slice hl (Heap.IsSliceOf.new ..) r₂ r₃ .none (by simp) ?_ (by rw [List.size_toArray, r.length, sizeLine_eq]; exact hz)) rfl
    rw [kms_pick_eq]
    show Q (.ref (h₃.push _).objs.size) _
    have rs₄ := rs₃.keep kk
    generalize hH : h₃.push { cls := .type "slice", data := .fields #[l, u, .none] } = H at kk rs₄ hl
    have k2 : ∀ b o, H.get? b = some o → (H.push { cls := .type "list", data := .seq (kms_pick vs lo' hi').toArray }).get? b = some o := fun b o e => Heap.get?_push_of_some _ e
    obtain ⟨rs₅, l₅⟩ := rs₄.push (a := H.objs.size) (o := .list (Mine.cut xs lo' hi')) k2 noneAt ⟨_, Heap.get?_push_size _ rfl⟩ ⟨kms_pick vs lo' hi', 0, Heap.get?_push_size _ rfl, (r.cut lo' hi').mono fun b o e _ => k2 _ _ (kk _ _ e)⟩
    exact q _ _ _ _ _ _ k₃ rs₅ ((((l₁.trans l₂).trans l₃).trans (.of_keep kk)).trans l₅) (newRef rs₃.len))
end
end
section

theorem ofString_inj {a b : String} (h : Str.ofString a = Str.ofString b) : a = b := by
  rw [Str.ofString_eq_byList] at h
  unfold Str.ofStringByList at h
  have h1 : a.toList.map Char.toNat = b.toList.map Char.toNat := by have := congrArg (fun s : Str => s.cps.toList) h; simpa using this
  have h2 : a.toList = b.toList := (List.map_inj_right fun x y e => Char.toNat_inj.mp e).mp h1
  exact String.toList_inj.mp h2

def upd (x : String) (v : V) : List (String × V) → List (String × V)
  | [] => [(x, v)]
  | (y, u) :: r => if y = x then (y, v) :: r else (y, u) :: upd x v r
theorem lookup_upd {x y : String} {v : V} : ∀ {ρ : List (String × V)}, (upd x v ρ).lookup y = if y = x then some v else ρ.lookup y
  | [] => by
    by_cases h : y = x
    · simp [upd, h]
    · have h' : (y == x) = false := by simpa using h
      simp [upd, h, List.lookup_cons, h']
  | (z, u) :: r => by
    unfold upd
    by_cases hz : z = x
    · subst hz
      by_cases h : y = z
      · simp [h]
      · have h' : (y == z) = false := by simpa using h
        simp [h, List.lookup_cons, h']
    · rw [if_neg hz, List.lookup_cons, List.lookup_cons, lookup_upd]
      by_cases h : y = z
      · subst h
        simp [hz]
      · have h' : (y == z) = false := by simpa using h
        simp [h']

/-- how a block ends -/
inductive Fl where
  | next
  | brk
  | cont
  | ret (v : V)
def FlR (h : Heap) (φ : List Addr) : Fl → Flow → Prop
  | .next, f => f = .next
  | .brk, f => f = .brk
  | .cont, f => f = .cont
  | .ret v, f => ∃ u, f = .ret u ∧ VR h φ v u

def EXg {α β : Type} (R : Heap → List Addr → β → α → Prop) (F : Fn) (ρ : List (String × V)) (σ : List Ob) (t : Env → Sem α) (K : β → List (String × V) → List Ob → Prop) : Prop :=
  ∀ (c : Cx) (env : Env) (s : Shared) (φ : List Addr), c.OK F.n → F.sc.kind = .function → RS c s.heap φ σ → RL c env F ρ s.heap φ → ∀ (Q : α → Shared → Prop) (E : Value → Shared → Prop),
    (∀ a b ρ' σ' h' tk φ', K b ρ' σ' → RS c h' φ' σ' → RL c env F ρ' h' φ' → Le [env.locals] φ s.heap φ' h' → R h' φ' b a → Q a { s with heap := h', toks := tk }) → wpAny (model PG c.w) c.A (t env) Q E s
abbrev EX (F : Fn) (ρ : List (String × V)) (σ : List Ob) (ss : List Stmt) (K : Fl → List (String × V) → List Ob → Prop) : Prop := EXg FlR F ρ σ (execs ss) K
abbrev EX1 (F : Fn) (ρ : List (String × V)) (σ : List Ob) (st : Stmt) (K : Fl → List (String × V) → List Ob → Prop) : Prop := EXg FlR F ρ σ (exec st) K
/-- what a target does with a value -/
def ASG (F : Fn) (ρ : List (String × V)) (σ : List Ob) (t : Expr) (v : V) (K : List (String × V) → List Ob → Prop) : Prop :=
  ∀ (c : Cx) (env : Env) (s : Shared) (φ : List Addr), c.OK F.n → F.sc.kind = .function → RS c s.heap φ σ → RL c env F ρ s.heap φ → ∀ u, VR s.heap φ v u → ∀ (Q : Unit → Shared → Prop) (E : Value → Shared → Prop),
    (∀ ρ' σ' h' tk φ', K ρ' σ' → RS c h' φ' σ' → RL c env F ρ' h' φ' → Le [env.locals] φ s.heap φ' h' → Q () { s with heap := h', toks := tk }) → wpAny (model PG c.w) c.A (assign t env u) Q E s

section
variable {c : Cx} {env : Env} {F : Fn} {ρ : List (String × V)} {h h' : Heap} {φ φ' : List Addr} {σ : List Ob}
/-- the frame's own names have changed, nothing else -/
theorem RS.names {ρ' : List (String × V)} {m' : Str → Option Value} (rs : RS c h φ σ) (rl : RL c env F ρ h φ) (s : Heap.SameBut env.locals h h') (hn : h'.Ns env.locals m') (hr : ∀ x v, ρ'.lookup x = some v → ∃ u, m' (Str.ofString x) = some u ∧ VR h φ v u) :
    RS c h' φ σ ∧ RL c env F ρ' h' φ ∧ Le [env.locals] φ h φ h' := by
  obtain ⟨m, ⟨oL, es, ep, eL, dL, _⟩, _⟩ := rl.loc
  have k : ∀ b o, b ≠ env.locals → h.get? b = some o → h'.get? b = some o := fun b o q e => (s.2 b q).trans e
  have hl : ∃ o, h'.get? env.locals = some o := let ⟨o, _, _, e, _⟩ := hn; ⟨o, e⟩
  have l : Le [env.locals] φ h φ h' := ⟨fun b o e i => k b o (fun q => by rw [q, eL] at e; cases e; simp [immO, dL] at i) e, fun b o e _ _ n => k b o (fun q => n (by simp [q])) e, fun b o e => if q : b = env.locals then q ▸ hl else ⟨o, k b o q e⟩, [], by simp, fun _ q => nomatch q⟩
  refine ⟨⟨fun b o e => k b o (fun q => by rw [q, rl.L0] at e; cases e) (rs.base b o e), rs.len, rs.nd, fun i a o e q => ObAt.le l (fun o' e' => k _ _ (fun z => rl.Lφ (z ▸ List.mem_of_getElem? e)) e') (rs.at_ i a o e q),
    fun a m => ⟨(rs.off a m).1, (rs.off a m).2.1, (rs.off a m).2.2.elim fun o e => l.live _ _ e⟩, rs.tab.keep l.mono fun _ e => k _ _ (fun z => rl.LP z.symm) e⟩,
    ⟨rl.sc, rl.gl, rl.bl, rl.cd, rl.ql, rl.L0, rl.LP, rl.Lφ, ⟨m', hn, fun x v e => ?_⟩, rl.cel⟩, l⟩
  obtain ⟨u, e1, e2⟩ := hr x v e
  exact ⟨u, e1, l.vr e2⟩
/-- a later heap, the frame's own names as they are -/
theorem RL.keep {X : List Addr} (rl : RL c env F ρ h φ) (l : Le X φ h φ' h') (k : ∀ o, h.get? env.locals = some o → h'.get? env.locals = some o) : RL c env F ρ h' φ' := by
  obtain ⟨m, hm, hr⟩ := rl.loc
  refine ⟨rl.sc, rl.gl, rl.bl, rl.cd, rl.ql, rl.L0, rl.LP, ?_, ⟨m, hm.at' k, fun x v e => ?_⟩, fun x j e => ?_⟩
  · obtain ⟨ψ, rfl, f⟩ := l.pre
    intro q
    rcases List.mem_append.mp q with q | q
    · exact rl.Lφ q
    · obtain ⟨o, _, _, e, _⟩ := hm
      rw [f _ q] at e; cases e
  · obtain ⟨u, e1, e2⟩ := hr x v e; exact ⟨u, e1, l.vr e2⟩
  · obtain ⟨a, e1, e2⟩ := rl.cel x j e; exact ⟨a, l.at e1, e2⟩
end

section
variable {F : Fn} {ρ : List (String × V)} {σ : List Ob}
theorem store_loc {x : String} {v : V} {c : Cx} {env : Env} {s : Shared} {φ : List Addr} {u : Value} {Q : Unit → Shared → Prop} {E : Value → Shared → Prop} (fk : F.sc.kind = .function) (rs : RS c s.heap φ σ) (rl : RL c env F ρ s.heap φ)
    (hk : F.sc.names.lookup (Str.ofString x) = some .local) (r : VR s.heap φ v u)
    (q : ∀ h' tk, RS c h' φ σ → RL c env F (upd x v ρ) h' φ → Le [env.locals] φ s.heap φ h' → Q () { s with heap := h', toks := tk }) : wpAny (model PG c.w) c.A (storeName env (Str.ofString x) u) Q E s := by
  obtain ⟨m, hm, hr⟩ := rl.loc
  refine wpAny_storeName_local (by rw [Env.kindOf, rl.sc]; exact hk) hm (fun h' hn hs => ?_) (by rw [rl.sc, fk]; rfl)
  have hr' : ∀ y w, (upd x v ρ).lookup y = some w → ∃ u', (if Str.ofString y = Str.ofString x then some u else m (Str.ofString y)) = some u' ∧ VR s.heap φ w u' := fun y w e => by
    rw [lookup_upd] at e
    by_cases hy : y = x
    · rw [if_pos hy] at e
      cases e
      exact ⟨u, by simp [hy], r⟩
    · rw [if_neg hy] at e
      obtain ⟨w', e1, e2⟩ := hr y w e
      exact ⟨w', by rw [if_neg fun z => hy (ofString_inj z)]; exact e1, e2⟩
  obtain ⟨rs', rl', l⟩ := rs.names rl hs hn hr'
  exact q _ _ rs' rl' l
theorem store_cel {x : String} {v : V} {j : Nat} {o : Option V} {c : Cx} {env : Env} {s : Shared} {φ : List Addr} {u : Value} {Q : Unit → Shared → Prop} {E : Value → Shared → Prop} (fk : F.sc.kind = .function) (rs : RS c s.heap φ σ) (rl : RL c env F ρ s.heap φ)
    (hk : F.sc.names.lookup (Str.ofString x) = some .cell) (hj : F.γ.lookup x = some j) (ho : σ[j]? = some (.cell o)) (r : VR s.heap φ v u)
    (q : ∀ h' tk, RS c h' φ (σ.set j (.cell (some v))) → RL c env F ρ h' φ → Le [env.locals] φ s.heap φ h' → Q () { s with heap := h', toks := tk }) : wpAny (model PG c.w) c.A (storeName env (Str.ofString x) u) Q E s := by
  obtain ⟨a, e1, e2⟩ := rl.cel x j hj
  obtain ⟨oc, e3, e5⟩ := rs.at_ j a _ e1 ho
  have hd : ∃ v₀, oc.data = .cell v₀ := by
    cases o with
    | none => exact e5
    | some w => obtain ⟨x, d, _⟩ := e5; exact ⟨_, d⟩
  obtain ⟨v₀, hd⟩ := hd
  refine wpAny_storeName_cell (rl.sc ▸ fk) (by rw [Env.kindOf, rl.sc]; exact hk) e2 ⟨oc, e3, hd⟩ fun h' ⟨o', g, d'⟩ hs => ?_
  obtain ⟨rs', l⟩ := rs.upd (o' := .cell (some v)) e1 hs (fun o' z => by rw [e3] at z; cases z; simp [immO, hd]) (fun l => ⟨o', g, u, d', l.vr r⟩) ⟨_, g⟩
  exact q h' s.toks rs' (rl.le l) l.weak
end
end
section

section
variable {F : Fn} {ρ : List (String × V)} {σ : List Ob}

/-! names stored -/
def STO (F : Fn) (ρ : List (String × V)) (σ : List Ob) (x : Str) (v : V) (K : List (String × V) → List Ob → Prop) : Prop :=
  ∀ (c : Cx) (env : Env) (s : Shared) (φ : List Addr), c.OK F.n → F.sc.kind = .function → RS c s.heap φ σ → RL c env F ρ s.heap φ → ∀ u, VR s.heap φ v u → ∀ (Q : Unit → Shared → Prop) (E : Value → Shared → Prop),
    (∀ ρ' σ' h' tk φ', K ρ' σ' → RS c h' φ' σ' → RL c env F ρ' h' φ' → Le [env.locals] φ s.heap φ' h' → Q () { s with heap := h', toks := tk }) → wpAny (model PG c.w) c.A (storeName env x u) Q E s
theorem STO.loc {x : String} {v : V} {K : List (String × V) → List Ob → Prop} (hk : F.sc.names.lookup (Str.ofString x) = some .local) (h : K (upd x v ρ) σ) : STO F ρ σ (Str.ofString x) v K :=
  fun _ _ _ _ _ fk rs rl _ r _ _ q => store_loc fk rs rl hk r fun _ _ rs' rl' l => q _ _ _ _ _ h rs' rl' l
theorem STO.cel {x : String} {v : V} {j : Nat} {o : Option V} {K : List (String × V) → List Ob → Prop} (hk : F.sc.names.lookup (Str.ofString x) = some .cell) (hj : F.γ.lookup x = some j) (ho : σ[j]? = some (.cell o)) (h : K ρ (σ.set j (.cell (some v)))) :
    STO F ρ σ (Str.ofString x) v K := fun _ _ _ _ _ fk rs rl _ r _ _ q => store_cel fk rs rl hk hj ho r fun _ _ rs' rl' l => q _ _ _ _ _ h rs' rl' l

theorem Le.locs {env : Env} {c : Cx} {h h' : Heap} {φ φ' : List Addr} {K : Prop} (_ : RL c env F ρ h φ) (_ : Le [] φ h φ' h') (k : K) : K := k

/-! items stored -/
def SET (n : Nat) (σ : List Ob) (a b v : V) (K : List Ob → Prop) : Prop :=
  ∀ (c : Cx) (s : Shared) (φ : List Addr), c.OK n → RS c s.heap φ σ → ∀ x y u : Value, VR s.heap φ a x → VR s.heap φ b y → VR s.heap φ v u → ∀ (Q : Unit → Shared → Prop) (E : Value → Shared → Prop),
    (∀ σ' h' tk, K σ' → RS c h' φ σ' → Le [] φ s.heap φ h' → Q () { s with heap := h', toks := tk }) → wpAny (model PG c.w) c.A (setItem x y u) Q E s
theorem SET.list {n j : Nat} {i : Int} {l : List V} {v : V} {K : List Ob → Prop} (e : σ[j]? = some (.list l)) (h0 : 0 ≤ i) (h1 : i < l.length) (h2 : l.length < 16777216) (h : K (σ.set j (.list (l.set i.toNat v)))) : SET n σ (.ref j) (.int i) v K := by
  rintro c s φ ok rs x y u ⟨a, rfl, ha⟩ ⟨t, rfl⟩ rv Q E q
  obtain ⟨vs, k, g, r⟩ := rs.at_ j a _ ha e
  have hl : s.heap.IsList a vs.toArray := ⟨_, g, rfl, k, rfl⟩
  have hz := r.length
  have g' := Heap.get?_update_self (Obj.mapSeq (·.setIfInBounds i.toNat u)) g (by simp [Obj.mapSeq, Obj.isFreed])
  have e' : Obj.mapSeq (·.setIfInBounds i.toNat u) ({ cls := .type "list", data := .seq vs.toArray k } : Obj) = { cls := .type "list", data := .seq (vs.set i.toNat u).toArray k } := by simp [Obj.mapSeq]
  rw [e'] at g'
  have up := rs.upd (o' := .list (l.set i.toNat v)) ha (Heap.SameBut.update ..) (fun o z => by rw [g] at z; cases z; rfl) (fun l' => ⟨vs.set i.toNat u, _, g', VRs.set (l'.vr rv) (l'.vrs r) _⟩) ⟨_, g'⟩
  exact ki_setAt g h0 (by omega) (by simp [hz]; omega) (q _ _ _ h up.1 up.2)
def putD (k : Str) (v : V) (l : List (Str × V)) : List (Str × V) := if l.any (fun p => p.1 = k) then l.map (fun p => if p.1 = k then (p.1, v) else p) else l ++ [(k, v)]
theorem KRs.put {h : Heap} {φ : List Addr} {k : Str} {v : V} {u : Value} {kvs : List (Str × Value)} {l : List (Str × V)} (r : KRs h φ kvs l) (e : VR h φ v u) : KRs h φ (stored kvs k u) (putD k v l) := by
  obtain ⟨r1, r2⟩ := r
  have ha : kvs.any (fun p => p.1 = k) = l.any (fun p => p.1 = k) := by
    have : ∀ {β : Type} (m : List (Str × β)), m.any (fun p => decide (p.1 = k)) = (m.map (·.1)).any fun x => decide (x = k) := fun m => by rw [List.any_map]; rfl
    rw [this, this, r1]
  unfold stored putD
  rw [ha]
  by_cases hk : (l.any fun p => p.1 = k) = true
  · rw [if_pos hk, if_pos hk]
    clear ha hk
    induction l generalizing kvs with
    | nil =>
      cases kvs with
      | nil => exact ⟨rfl, VRs.nil⟩
      | cons _ _ => cases r1
    | cons p l ih =>
      cases kvs with
      | nil => cases r1
      | cons p' kvs =>
        simp only [List.map_cons, List.cons.injEq] at r1
        obtain ⟨u', us, e3, q1, q2⟩ := r2
        cases e3
        obtain ⟨i1, i2⟩ := ih r1.2 q2
        refine ⟨?_, ?_⟩
        · simp only [List.map_cons, i1, List.cons.injEq, and_true]
          by_cases h1 : p.1 = k
          · simp [h1, r1.1]
          · simp [h1, r1.1]
        · simp only [List.map_cons]
          by_cases h1 : p.1 = k
          · have h2 : p'.1 = k := r1.1.trans h1
            simp only [h1, h2, if_true]
            exact .cons e i2
          · have h2 : ¬ p'.1 = k := fun x => h1 (r1.1.symm.trans x)
            simp only [h1, h2, if_false]
            exact .cons q1 i2
  · rw [if_neg hk, if_neg hk]
    exact ⟨by simp [r1], by simpa using r2.snoc e⟩
theorem SET.dict {n j : Nat} {k : Str} {l : List (Str × V)} {v : V} {K : List Ob → Prop} (e : σ[j]? = some (.dict l)) (hz : l.length ≤ 1000) (h : K (σ.set j (.dict (putD k v l)))) : SET n σ (.ref j) (.str k) v K := by
  rintro c s φ ok rs x y u ⟨a, rfl, ha⟩ ⟨t, rfl⟩ rv Q E q
  obtain ⟨kvs, hd, r⟩ := rs.at_ j a _ ha e
  have hn : kvs.length = l.length := by have := congrArg List.length r.1; simpa using this
  refine wpAny_setItem_pairs (strKind_is _ _ k t) hd (fun h' hd' hs => ?_) (by rw [hn, sizeLine_eq]; omega)
  have hi : ∀ o, s.heap.get? a = some o → immO o = false := fun o z => by
    obtain ⟨o', es, ep, g, _, d, _⟩ := hd
    rw [g] at z; cases z
    simp [immO, d]
  obtain ⟨rs', l'⟩ := rs.upd (o' := .dict (putD k v l)) ha hs hi (fun l' => ⟨_, hd', KRs.put ⟨r.1, l'.vrs r.2⟩ (l'.vr rv)⟩) (let ⟨o, _, _, g, _⟩ := hd'; ⟨o, g⟩)
  exact q _ h' _ h rs' l'

/-! targets -/
theorem ASG.name {x : Str} {p : Pos} {v : V} {K : List (String × V) → List Ob → Prop} (h : STO F ρ σ x v K) : ASG F ρ σ (.Name x p) v K := fun c env s φ ok fk rs rl u r Q E q => wpAny_assign_Name (h c env s φ ok fk rs rl u r Q E q)
def ASGs (F : Fn) : List Expr → List V → List (String × V) → List Ob → (List (String × V) → List Ob → Prop) → Prop
  | [], [], ρ, σ, K => K ρ σ
  | t :: ts, v :: vs, ρ, σ, K => ASG F ρ σ t v fun ρ' σ' => ASGs F ts vs ρ' σ' K
  | _, _, _, _, _ => False
abbrev KAs (F : Fn) (ts : List Expr) (vs : List V) (K : List (String × V) → List Ob → Prop) : List (String × V) → List Ob → Prop := fun ρ σ => ASGs F ts vs ρ σ K
theorem ASGs.cons {t : Expr} {ts : List Expr} {v : V} {vs : List V} {K : List (String × V) → List Ob → Prop} (h : ASG F ρ σ t v (KAs F ts vs K)) : ASGs F (t :: ts) (v :: vs) ρ σ K := h
theorem ASGs.nil {K : List (String × V) → List Ob → Prop} (h : K ρ σ) : ASGs F [] [] ρ σ K := h
theorem ASGs.run {c : Cx} {env : Env} (ok : c.OK F.n) (fk : F.sc.kind = .function) : ∀ {ts : List Expr} {vs : List V} {us : List Value} {ρ : List (String × V)} {σ : List Ob} {K : List (String × V) → List Ob → Prop} {s : Shared} {φ : List Addr} {Q : Unit → Shared → Prop} {E : Value → Shared → Prop},
    ASGs F ts vs ρ σ K → RS c s.heap φ σ → RL c env F ρ s.heap φ → VRs s.heap φ vs us →
    (∀ ρ' σ' h' tk φ', K ρ' σ' → RS c h' φ' σ' → RL c env F ρ' h' φ' → Le [env.locals] φ s.heap φ' h' → Q () { s with heap := h', toks := tk }) → wpAny (model PG c.w) c.A (assignInOrder (ts.map fun t => assign t env) us) Q E s
  | [], [], us, ρ, σ, K, s, φ, Q, E, h, rs, rl, r, q => by
    cases r
    exact wpAny_pure (q ρ σ s.heap s.toks φ h rs rl .refl)
  | [], _ :: _, _, _, _, _, _, _, _, _, h, _, _, _, _ => h.elim
  | _ :: _, [], _, _, _, _, _, _, _, _, h, _, _, _, _ => h.elim
  | t :: ts, v :: vs, us, ρ, σ, K, s, φ, Q, E, h, rs, rl, r, q => by
    obtain ⟨u, us, rfl, r1, r2⟩ := r
    refine wpAny_bind (wpAny_holding (h c env s φ ok fk rs rl u r1 _ _ fun ρ' σ' h' tk φ' k rs' rl' l => ?_))
    exact ASGs.run ok fk (s := ⟨h', s.gens, s.drawn, tk, s.os⟩) k rs' rl' (l.vrs r2) fun ρ'' σ'' h'' tk' φ'' k' rs'' rl'' l' => q _ _ _ _ _ k' rs'' rl'' (l.trans l')
theorem ASG.tup {ts : List Expr} {n : Nat} {p : Pos} {vs : List V} {K : List (String × V) → List Ob → Prop} (h : ASGs F ts vs ρ σ K) (hn : ts.length = vs.length) (he : ∀ env, assignEach ts env = ts.map fun t => (false, assign t env)) : ASG F ρ σ (.Tuple ts n p) (.tup vs) K := by
  rintro c env s φ ok fk rs rl u ⟨a, us, k, rfl, g, r⟩ Q E q
  refine assign_Tuple_tuple ok.hh ⟨_, g, rfl, k, rfl⟩ (by rw [he]; simp [hn, r.length]) (by rw [he]; simp) fun h' hx => ?_
  have kk : ∀ b o, s.heap.get? b = some o → h'.get? b = some o := fun b o e => hx b o (fun z => by rw [z, noneAt] at e; cases e) e
  have l : Le [env.locals] φ s.heap φ h' := .of_keep kk
  rw [he, List.map_map]
  exact ASGs.run ok fk (s := ⟨h', s.gens, s.drawn, s.toks, s.os⟩) h (rs.keep kk) (rl.le (.of_keep kk)) (l.vrs r) fun ρ' σ' h'' tk φ' k rs' rl' l' => q _ _ _ _ _ k rs' rl' (l.trans l')
abbrev KSet (F : Fn) (v : V) (K : List Ob → Prop) : V → V → List Ob → Prop := fun a b σ => SET F.n σ a b v K
theorem ASG.sub {o i : Expr} {p : Pos} {v : V} {K : List (String × V) → List Ob → Prop} (h : EV F ρ σ o (TH F ρ i (KSet F v (K ρ)))) : ASG F ρ σ (.Subscript o i p) v K :=
  fun c env s φ ok fk rs rl u r Q E q => by
    rw [assign_Subscript]
    refine wpAny_bind (wpAny_holding (h c env s φ ok fk rs rl _ _ fun x a σ₁ h₁ tk₁ φ₁ k₁ rs₁ l₁ r₁ => wpAny_bind (wpAny_holding (k₁ c env ⟨h₁, s.gens, s.drawn, tk₁, s.os⟩ φ₁ ok fk rs₁ (rl.le l₁) _ _ fun y b σ₂ h₂ tk₂ φ₂ k₂ rs₂ l₂ r₂ =>
      wpAny_bind (wpAny_standAt (wpAny_bind (wpAny_holding (k₂ c ⟨h₂, s.gens, s.drawn, tk₂, s.os⟩ φ₂ ok rs₂ _ _ _ (l₂.vr r₁) r₂ ((l₁.trans l₂).vr r) _ _ fun σ₃ h₃ tk₃ k₃ rs₃ l₃ => wpAny_release (q _ _ _ _ _ k₃ rs₃ (rl.le ((l₁.trans l₂).trans l₃)) ((l₁.trans l₂).trans l₃).weak)))))))))
end
end
section

section
variable {F : Fn} {ρ : List (String × V)} {σ : List Ob}

theorem EX.nil {K : Fl → List (String × V) → List Ob → Prop} (h : K .next ρ σ) : EX F ρ σ [] K :=
  fun _ _ _ _ _ _ rs rl _ _ q => wpAny_execs_nil (q _ .next _ _ _ _ _ h rs rl .refl rfl)
def SEQ (F : Fn) (ss : List Stmt) (K : Fl → List (String × V) → List Ob → Prop) : Fl → List (String × V) → List Ob → Prop
  | .next, ρ, σ => EX F ρ σ ss K
  | f, ρ, σ => K f ρ σ
theorem SEQ.next {ss : List Stmt} {K : Fl → List (String × V) → List Ob → Prop} (h : EX F ρ σ ss K) : SEQ F ss K .next ρ σ := h
theorem SEQ.ret {ss : List Stmt} {K : Fl → List (String × V) → List Ob → Prop} {v : V} (h : K (.ret v) ρ σ) : SEQ F ss K (.ret v) ρ σ := h
theorem SEQ.brk {ss : List Stmt} {K : Fl → List (String × V) → List Ob → Prop} (h : K .brk ρ σ) : SEQ F ss K .brk ρ σ := h
theorem EX.cons {st : Stmt} {ss : List Stmt} {K : Fl → List (String × V) → List Ob → Prop} (h : EX1 F ρ σ st (SEQ F ss K)) : EX F ρ σ (st :: ss) K :=
  fun c env s φ ok fk rs rl Q E q => wpAny_execs_cons (h c env s φ ok fk rs rl _ _ fun f fl ρ₁ σ₁ h₁ tk₁ φ₁ k₁ rs₁ rl₁ l₁ r₁ => by
    cases fl with
    | next => cases r₁; exact k₁ c env ⟨h₁, s.gens, s.drawn, tk₁, s.os⟩ φ₁ ok fk rs₁ rl₁ _ _ fun f fl ρ₂ σ₂ h₂ tk₂ φ₂ k₂ rs₂ rl₂ l₂ r₂ => q _ _ _ _ _ _ _ k₂ rs₂ rl₂ (l₁.trans l₂) r₂
    | brk => cases r₁; exact q _ .brk _ _ _ _ _ k₁ rs₁ rl₁ l₁ rfl
    | cont => cases r₁; exact q _ .cont _ _ _ _ _ k₁ rs₁ rl₁ l₁ rfl
    | ret v => obtain ⟨u, rfl, r⟩ := r₁; exact q _ (.ret v) _ _ _ _ _ k₁ rs₁ rl₁ l₁ ⟨u, rfl, r⟩)
abbrev KRet (ρ : List (String × V)) (K : Fl → List (String × V) → List Ob → Prop) : V → List Ob → Prop := fun v σ => K (.ret v) ρ σ
abbrev KX (ρ : List (String × V)) (K : Fl → List (String × V) → List Ob → Prop) : V → List Ob → Prop := fun _ σ => K .next ρ σ
abbrev KIf (F : Fn) (ρ : List (String × V)) (a b : List Stmt) (K : Fl → List (String × V) → List Ob → Prop) : Bool → List Ob → Prop := fun q σ => (q = true → EX F ρ σ a K) ∧ (q = false → EX F ρ σ b K)
abbrev KSt (F : Fn) (ρ : List (String × V)) (x : Str) (K : Fl → List (String × V) → List Ob → Prop) : V → List Ob → Prop := fun v σ => STO F ρ σ x v (K .next)
abbrev KSA (F : Fn) (ρ : List (String × V)) (t : Expr) (K : Fl → List (String × V) → List Ob → Prop) : V → List Ob → Prop := fun v σ => ASG F ρ σ t v (K .next)
abbrev KSS (F : Fn) (ρ : List (String × V)) (o i : Expr) (K : Fl → List (String × V) → List Ob → Prop) : V → List Ob → Prop := fun v σ => EV F ρ σ o (TH F ρ i (KSet F v (K .next ρ)))
theorem KIf.yes {a b : List Stmt} {K : Fl → List (String × V) → List Ob → Prop} {q : Bool} (e : q = true) (h : EX F ρ σ a K) : KIf F ρ a b K q σ := ⟨fun _ => h, fun z => (by rw [e] at z; cases z)⟩
theorem KIf.no {a b : List Stmt} {K : Fl → List (String × V) → List Ob → Prop} {q : Bool} (e : q = false) (h : EX F ρ σ b K) : KIf F ρ a b K q σ := ⟨fun z => (by rw [e] at z; cases z), fun _ => h⟩
theorem KI.yes {a b : Expr} {K : V → List Ob → Prop} {q : Bool} (e : q = true) (h : EV F ρ σ a K) : KI F ρ a b K q σ := ⟨fun _ => h, fun z => (by rw [e] at z; cases z)⟩
theorem KI.no {a b : Expr} {K : V → List Ob → Prop} {q : Bool} (e : q = false) (h : EV F ρ σ b K) : KI F ρ a b K q σ := ⟨fun z => (by rw [e] at z; cases z), fun _ => h⟩
theorem env_sc {env : Env} (h : env.scope = F.sc) : { env with scope := F.sc } = env := by rw [← h]
theorem EX1.ret {e : Expr} {pos : Pos} {K : Fl → List (String × V) → List Ob → Prop} (h : EV F ρ σ e (KRet ρ K)) : EX1 F ρ σ (.Return (some e) pos) K :=
  fun c env s φ ok fk rs rl Q E q => wpAny_Return_some (h c env s φ ok fk rs rl _ _ fun _ v _ _ _ _ k₁ rs₁ l₁ r₁ => q _ (.ret v) _ _ _ _ _ k₁ rs₁ (rl.le l₁) l₁.weak ⟨_, rfl, r₁⟩)
theorem EX1.brk {pos : Pos} {K : Fl → List (String × V) → List Ob → Prop} (h : K .brk ρ σ) : EX1 F ρ σ (.Break pos) K :=
  fun _ _ _ _ _ _ rs rl _ _ q => wpAny_Break (q _ .brk _ _ _ _ _ h rs rl .refl rfl)
theorem EX1.expr {e : Expr} {pos : Pos} {K : Fl → List (String × V) → List Ob → Prop} (h : EV F ρ σ e (KX ρ K)) (hs : ∀ env, swapsWith e none pos.line env = pure false) : EX1 F ρ σ (.Expr e pos) K :=
  fun c env s φ ok fk rs rl Q E q => wpAny_Expr_any (h c env s φ ok fk rs rl _ _ fun _ _ _ _ _ _ k₁ rs₁ l₁ _ => q _ .next _ _ _ _ _ k₁ rs₁ (rl.le l₁) l₁.weak rfl) (by unfold interactive; rw [rl.sc, fk]; rfl) (hs env)
theorem EX1.if {t : Expr} {a b : List Stmt} {pos : Pos} {K : Fl → List (String × V) → List Ob → Prop} (h : TST F ρ σ t (KIf F ρ a b K)) : EX1 F ρ σ (.If t a b pos) K :=
  fun c env s φ ok fk rs rl Q E q => wpAny_If (h c env s φ ok fk rs rl _ _ fun x v σ₁ h₁ tk₁ φ₁ k₁ rs₁ l₁ r₁ => by
    cases r₁
    have fin := fun f fl ρ₂ σ₂ h₂ tk₂ φ₂ k₂ rs₂ rl₂ l₂ r₂ => q f fl ρ₂ σ₂ h₂ tk₂ φ₂ k₂ rs₂ rl₂ (l₁.weak.trans l₂) r₂
    cases x with
    | true => exact k₁.1 rfl c env ⟨h₁, s.gens, s.drawn, tk₁, s.os⟩ φ₁ ok fk rs₁ (rl.le l₁) _ _ fin
    | false => exact k₁.2 rfl c env ⟨h₁, s.gens, s.drawn, tk₁, s.os⟩ φ₁ ok fk rs₁ (rl.le l₁) _ _ fin)
theorem EX1.set {x : Str} {p pos : Pos} {e : Expr} {K : Fl → List (String × V) → List Ob → Prop} (h : EV F ρ σ e (KSt F ρ x K)) (hs : ∀ env, swapsWith e (some (.Name x p)) pos.line env = pure false) : EX1 F ρ σ (.Assign [.Name x p] e pos) K :=
  fun c env s φ ok fk rs rl Q E q => wpAny_Assign_Name (h c env s φ ok fk rs rl _ _ fun u v σ₁ h₁ tk₁ φ₁ k₁ rs₁ l₁ r₁ =>
    k₁ c env ⟨h₁, s.gens, s.drawn, tk₁, s.os⟩ φ₁ ok fk rs₁ (rl.le l₁) _ r₁ _ _ fun ρ₂ σ₂ h₂ tk₂ φ₂ k₂ rs₂ rl₂ l₂ => q _ .next _ _ _ _ _ k₂ rs₂ rl₂ (l₁.weak.trans l₂) rfl) (hs env)
theorem EX1.setT {ts : List Expr} {n : Nat} {p pos : Pos} {e : Expr} {K : Fl → List (String × V) → List Ob → Prop} (h : EV F ρ σ e (KSA F ρ (.Tuple ts n p) K)) (hs : ∀ env, swapsWithSole [.Tuple ts n p] e pos.line env = pure false)
    (hw : ∀ env : Env, swappedStores [.Tuple ts n p] e { env with scope := F.sc } = pure none) : EX1 F ρ σ (.Assign [.Tuple ts n p] e pos) K :=
  fun c env s φ ok fk rs rl Q E q => Assign_Tuple (h c env s φ ok fk rs rl _ _ fun u v σ₁ h₁ tk₁ φ₁ k₁ rs₁ l₁ r₁ =>
    k₁ c env ⟨h₁, s.gens, s.drawn, tk₁, s.os⟩ φ₁ ok fk rs₁ (rl.le l₁) _ r₁ _ _ fun ρ₂ σ₂ h₂ tk₂ φ₂ k₂ rs₂ rl₂ l₂ => q _ .next _ _ _ _ _ k₂ rs₂ rl₂ (l₁.weak.trans l₂) rfl) (hs env) (env_sc rl.sc ▸ hw env)
theorem EX1.setS {o i : Expr} {p pos : Pos} {e : Expr} {K : Fl → List (String × V) → List Ob → Prop} (h : EV F ρ σ e (KSS F ρ o i K))
    (hs : ∀ env, swapsWith e (some (.Subscript o i p)) pos.line env = pure false) : EX1 F ρ σ (.Assign [.Subscript o i p] e pos) K :=
  fun c env s φ ok fk rs rl Q E q => wpAny_Assign_Subscript (h c env s φ ok fk rs rl _ _ fun u v σ₁ h₁ tk₁ φ₁ k₁ rs₁ l₁ r₁ =>
    k₁ c env ⟨h₁, s.gens, s.drawn, tk₁, s.os⟩ φ₁ ok fk rs₁ (rl.le l₁) _ _ fun x a σ₂ h₂ tk₂ φ₂ k₂ rs₂ l₂ r₂ =>
    k₂ c env ⟨h₂, s.gens, s.drawn, tk₂, s.os⟩ φ₂ ok fk rs₂ (rl.le (l₁.trans l₂)) _ _ fun y b σ₃ h₃ tk₃ φ₃ k₃ rs₃ l₃ r₃ =>
    k₃ c ⟨h₃, s.gens, s.drawn, tk₃, s.os⟩ φ₃ ok rs₃ _ _ _ (l₃.vr r₂) r₃ ((l₂.trans l₃).vr r₁) _ _ fun σ₄ h₄ tk₄ k₄ rs₄ l₄ => q _ .next _ _ _ _ _ k₄ rs₄ (rl.le (((l₁.trans l₂).trans l₃).trans l₄)) (((l₁.trans l₂).trans l₃).trans l₄).weak rfl) (hs env)
/-- two or three names at once: they are stored from behind -/
def STOs (F : Fn) : List Str → List V → List (String × V) → List Ob → (List (String × V) → List Ob → Prop) → Prop
  | [], [], ρ, σ, K => K ρ σ
  | x :: xs, v :: vs, ρ, σ, K => STO F ρ σ x v fun ρ' σ' => STOs F xs vs ρ' σ' K
  | _, _, _, _, _ => False
theorem STOs.run {c : Cx} {env : Env} (ok : c.OK F.n) (fk : F.sc.kind = .function) : ∀ {ts : List Str} {vs : List V} {us : List Value} {ρ : List (String × V)} {σ : List Ob} {K : List (String × V) → List Ob → Prop} {s : Shared} {φ : List Addr} {Q : Unit → Shared → Prop} {E : Value → Shared → Prop},
    STOs F ts vs ρ σ K → RS c s.heap φ σ → RL c env F ρ s.heap φ → VRs s.heap φ vs us →
    (∀ ρ' σ' h' tk φ', K ρ' σ' → RS c h' φ' σ' → RL c env F ρ' h' φ' → Le [env.locals] φ s.heap φ' h' → Q () { s with heap := h', toks := tk }) → wpAny (model PG c.w) c.A (assignInOrder (ts.map fun t => bindName env t) us) Q E s
  | [], [], us, ρ, σ, K, s, φ, Q, E, h, rs, rl, r, q => by
    cases r
    exact wpAny_pure (q ρ σ s.heap s.toks φ h rs rl .refl)
  | [], _ :: _, _, _, _, _, _, _, _, _, h, _, _, _, _ => h.elim
  | _ :: _, [], _, _, _, _, _, _, _, _, h, _, _, _, _ => h.elim
  | t :: ts, v :: vs, us, ρ, σ, K, s, φ, Q, E, h, rs, rl, r, q => by
    obtain ⟨u, us, rfl, r1, r2⟩ := r
    refine wpAny_bind (wpAny_holding (wpAny_bindName (h c env s φ ok fk rs rl u r1 _ _ fun ρ' σ' h' tk φ' k rs' rl' l => ?_)))
    exact STOs.run ok fk (s := ⟨h', s.gens, s.drawn, tk, s.os⟩) k rs' rl' (l.vrs r2) fun ρ'' σ'' h'' tk' φ'' k' rs'' rl'' l' => q _ _ _ _ _ k' rs'' rl'' (l.trans l')
theorem VRs.rev {h : Heap} {φ : List Addr} {xs : List V} {vs : List Value} (r : VRs h φ xs vs) : VRs h φ xs.reverse vs.reverse :=
  VRs.ind (P := fun xs vs => VRs h φ xs.reverse vs.reverse) VRs.nil (fun x xs v vs a b => by rw [List.reverse_cons, List.reverse_cons]; exact VRs.snoc b a) r
abbrev KSw (F : Fn) (ρ : List (String × V)) (xs : List Str) (K : Fl → List (String × V) → List Ob → Prop) : V → List Ob → Prop := fun v σ => ∃ vs, v = .tup vs ∧ vs.length = xs.length ∧ STOs F xs.reverse vs.reverse ρ σ (K .next)
theorem KSw.of {xs : List Str} {vs : List V} {K : Fl → List (String × V) → List Ob → Prop} (hl : vs.length = xs.length) (h : STOs F xs.reverse vs.reverse ρ σ (K .next)) : KSw F ρ xs K (.tup vs) σ := ⟨vs, rfl, hl, h⟩
abbrev KSto (F : Fn) (x : Str) (v : V) (K : List (String × V) → List Ob → Prop) : List (String × V) → List Ob → Prop := fun ρ σ => STO F ρ σ x v K
theorem KSw.two {x y : Str} {u v : V} {K : Fl → List (String × V) → List Ob → Prop} (h : STO F ρ σ y v (KSto F x u (K .next))) : KSw F ρ [x, y] K (.tup [u, v]) σ := ⟨_, rfl, rfl, h⟩
theorem KSw.three {x y z : Str} {u v w : V} {K : Fl → List (String × V) → List Ob → Prop} (h : STO F ρ σ z w (KSto F y v (KSto F x u (K .next)))) : KSw F ρ [x, y, z] K (.tup [u, v, w]) σ := ⟨_, rfl, rfl, h⟩
theorem EX1.swap {ts : List Expr} {n : Nat} {p pos : Pos} {e : Expr} {xs : List Str} {K : Fl → List (String × V) → List Ob → Prop} (h : EV F ρ σ e (KSw F ρ xs K)) (hs : ∀ env, swapsWithSole [.Tuple ts n p] e pos.line env = pure false)
    (hw : ∀ env : Env, swappedStores [.Tuple ts n p] e { env with scope := F.sc } = pure (some xs)) : EX1 F ρ σ (.Assign [.Tuple ts n p] e pos) K :=
  fun c env s φ ok fk rs rl Q E q => Assign_Tuple_swapped (h c env s φ ok fk rs rl _ _ fun u v σ₁ h₁ tk₁ φ₁ ⟨vs, e, hl, k₁⟩ rs₁ l₁ r₁ => by
    subst e
    obtain ⟨a, us, k, rfl, g, r⟩ := r₁
    have hu : xs.length = us.toArray.size := by rw [List.size_toArray, r.length, hl]
    rw [hu]
    refine wpAny_unpackItems_tuple ok.hh ⟨_, g, rfl, k, rfl⟩ fun h' hx => ?_
    have kk : ∀ b o, h₁.get? b = some o → h'.get? b = some o := fun b o e => hx b o (fun z => by rw [z, noneAt] at e; cases e) e
    have l : Le [] φ₁ h₁ φ₁ h' := .of_keep kk
    exact STOs.run ok fk (s := ⟨h', s.gens, s.drawn, tk₁, s.os⟩) k₁ (rs₁.keep kk) (rl.le (l₁.trans l)) (VRs.rev (l.vrs r)) fun ρ' σ' h'' tk φ' k rs' rl' l' => q _ .next _ _ _ _ _ k rs' rl' ((l₁.trans l).weak.trans l') rfl) (hs env) (env_sc rl.sc ▸ hw env)
end
end
section

/-! what a loop walks over -/
structure Iter (c : Cx) (I : Addr) (xs : List V) (tl : Bool) (G : List Ob → Prop) (St : Nat → Heap → List Addr → Prop) : Prop where
  le : ∀ {X : List Addr} {k : Nat} {h h' : Heap} {φ φ' : List Addr}, St k h φ → Le X φ h φ' h' → (∀ o, h.get? I = some o → h'.get? I = some o) → St k h' φ'
  ob : ∀ {k : Nat} {h : Heap} {φ : List Addr}, St k h φ → ∃ o, h.get? I = some o ∧ immO o = false
  go : ∀ {k : Nat} {s : Shared} {φ : List Addr} {target : Expr} {v : Value} {Q : Unit → Shared → Prop} {E : Value → Shared → Prop}, St k s.heap φ → ((∀ it v, letOwnedTupleGo target it v = pure ()) ∨ tl = true) → Q () s → wpAny (model PG c.w) c.A (letOwnedTupleGo target (.ref I) v) Q E s
  item : ∀ {k : Nat} {s : Shared} {φ : List Addr} {σ : List Ob} {x : V} {Q : Option Value → Shared → Prop} {E : Value → Shared → Prop}, xs[k]? = some x → St k s.heap φ → RS c s.heap φ σ → G σ →
    (∀ u h' tk, VR s.heap φ x u → St (k + 1) h' φ → (∀ b o, b ≠ I → s.heap.get? b = some o → h'.get? b = some o) → Q (some u) { s with heap := h', toks := tk }) → wpAny (model PG c.w) c.A (pyNext (.ref I)) Q E s
  done : ∀ {s : Shared} {φ : List Addr} {σ : List Ob} {Q : Option Value → Shared → Prop} {E : Value → Shared → Prop}, St xs.length s.heap φ → RS c s.heap φ σ → G σ →
    (∀ h' tk, (∀ b o, b ≠ I → s.heap.get? b = some o → h'.get? b = some o) → Q none { s with heap := h', toks := tk }) → wpAny (model PG c.w) c.A (pyNext (.ref I)) Q E s
  self : ∀ {k : Nat} {s : Shared} {φ : List Addr} {Q : Value → Shared → Prop} {E : Value → Shared → Prop}, St k s.heap φ → Q (.ref I) s → wpAny (model PG c.w) c.A (pyIter (.ref I)) Q E s
def SRC (n : Nat) (σ : List Ob) (v : V) (xs : List V) (tl : Bool) (G : List Ob → Prop) : Prop :=
  ∀ (c : Cx) (s : Shared) (φ : List Addr), c.OK n → RS c s.heap φ σ → ∀ u, VR s.heap φ v u → ∀ (Q E : Value → Shared → Prop),
    (∀ I h' St, Iter c I xs tl G St → St 0 h' φ → (∀ b o, s.heap.get? b = some o → h'.get? b = some o) → s.heap.get? I = none → Q (.ref I) { s with heap := h' }) → wpAny (model PG c.w) c.A (pyIter u) Q E s

section
variable {n : Nat} {σ : List Ob}
theorem SRC.list {j : Nat} {xs : List V} (e : σ[j]? = some (.list xs)) : SRC n σ (.ref j) xs true fun σ' => σ'[j]? = some (.list xs) := by
  rintro c s φ ok rs u ⟨a, rfl, ha⟩ Q E q
  have lst : ∀ {s' : Shared} {φ' : List Addr} {σ' : List Ob}, RS c s'.heap φ' σ' → φ'[j]? = some a → σ'[j]? = some (.list xs) → ∃ vs : List Value, s'.heap.IsList a vs.toArray ∧ VRs s'.heap φ' xs vs := fun rs e1 e2 => by
    obtain ⟨vs, k, g, r⟩ := rs.at_ j a _ e1 e2
    exact ⟨vs, ⟨_, g, rfl, k, rfl⟩, r⟩
  obtain ⟨vs, hl, _⟩ := lst rs ha e
  refine wpAny_pyIter_list hl (q _ _ (fun k h φ' => h.IsListIter s.heap.objs.size a k ∧ φ'[j]? = some a) ⟨?_, ?_, ?_, ?_, ?_, ?_⟩ ⟨⟨_, Heap.get?_push_size _ rfl, rfl, rfl⟩, ha⟩ (fun _ _ e => Heap.get?_push_of_some _ e) noneAt)
  · rintro X k h h' φ φ' ⟨st, e1⟩ l k'
    exact ⟨st.at k', l.at e1⟩
  · rintro k h φ ⟨⟨o, ho, hc, hd⟩, _⟩
    exact ⟨o, ho, by simp [immO, hd, hc]⟩
  · rintro k s' φ' target v Q' E' ⟨st, _⟩ _ q'
    exact letGo_listiter st q'
  · rintro k s' φ' σ' x Q' E' hx ⟨st, e1⟩ rs' g q'
    obtain ⟨vs', hl', r⟩ := lst rs' e1 g
    obtain ⟨u, e2, e3⟩ := r.get hx
    exact wpAny_pyNext_list_item st hl' (by simpa using e2) fun h' st' hs => q' u h' s'.toks e3 ⟨st', e1⟩ hs.extBut
  · rintro s' φ' σ' Q' E' ⟨st, e1⟩ rs' g q'
    obtain ⟨vs', hl', r⟩ := lst rs' e1 g
    exact wpAny_pyNext_list_end ok.hh st hl' (by simp [r.length]) fun h' hx => q' h' s'.toks hx
  · rintro k s' φ' Q' E' ⟨st, _⟩ q'
    exact wpAny_pyIter_listiter st q'
theorem SRC.tup {xs : List V} : SRC n σ (.tup xs) xs true fun _ => True := by
  rintro c s φ ok rs u ⟨a, vs, k, rfl, g, r⟩ Q E q
  have ht : s.heap.IsTuple a vs.toArray := ⟨_, g, rfl, k, rfl⟩
  refine wpAny_pyIter_tuple ht (q _ _ (fun i h φ' => h.IsTupleIter s.heap.objs.size a i ∧ h.get? a = some { cls := .type "tuple", data := .seq vs.toArray k } ∧ VRs h φ' xs vs) ⟨?_, ?_, ?_, ?_, ?_, ?_⟩
    ⟨⟨_, Heap.get?_push_size _ rfl, rfl, rfl⟩, Heap.get?_push_of_some _ g, r.mono0 fun _ _ e _ => Heap.get?_push_of_some _ e⟩ (fun _ _ e => Heap.get?_push_of_some _ e) noneAt)
  · rintro X i h h' φ φ' ⟨st, e1, r⟩ l k'
    exact ⟨st.at k', l.mono _ _ e1 rfl, l.vrs r⟩
  · rintro i h φ ⟨⟨o, ho, hc, hd⟩, _⟩
    exact ⟨o, ho, by simp [immO, hd, hc]⟩
  · rintro i s' φ' target v Q' E' ⟨st, _⟩ _ q'
    exact letGo_tupleiter st q'
  · rintro i s' φ' σ' x Q' E' hx ⟨st, e1, r⟩ rs' g' q'
    obtain ⟨u, e2, e3⟩ := r.get hx
    refine wpAny_pyNext_tuple_item st ⟨_, e1, rfl, k, rfl⟩ (by simpa using e2) fun h' st' hs => q' u h' s'.toks e3 ⟨st', hs.extBut _ _ ?_ e1, r.mono0 fun b o e i => hs.extBut _ _ ?_ e⟩ hs.extBut
    · obtain ⟨o, ho, hc, hd⟩ := st
      intro z
      rw [z, ho] at e1
      have e2 := congrArg Obj.cls (Option.some.inj e1)
      exact absurd (Value.type.inj (hc.symm.trans e2)) (by decide)
    · obtain ⟨o', ho, hc, hd⟩ := st
      intro z
      rw [z, ho] at e
      cases e
      simp [immO, hd, hc] at i
  · rintro s' φ' σ' Q' E' ⟨st, e1, r⟩ rs' g' q'
    exact wpAny_pyNext_tuple_end ok.hh st ⟨_, e1, rfl, k, rfl⟩ (by simp [r.length]) fun h' hx => q' h' s'.toks hx
  · rintro i s' φ' Q' E' ⟨st, _⟩ q'
    exact (Walks.tuple ok.hh s.heap.objs.size a (Nat.ne_of_lt (Heap.lt_size g)) vs.toArray).self i s' Q' E' ⟨st, by rename_i h; exact ⟨_, h.1, rfl, k, rfl⟩⟩ q'
/-- the ints of a range -/
def rngV (a : Int) (n : Nat) : List V := (List.range n).map fun (i : Nat) => .int (a + (i : Int))
theorem SRC.rng {a b : Int} {k : Nat} (hk : b - a ≤ k) (hk' : k = 0 ∨ b - a = k) (ha : -1048576 ≤ a) (ha' : a ≤ 1048576) (hb : -1048576 ≤ b) (hz : b ≤ 1048576) : SRC n σ (.rng a b) (rngV a k) false fun _ => True := by
  rintro c s φ ok rs u ⟨r, t, u, w, rfl, g⟩ Q E q
  have hn : Builtin.Range.rangeSize a b 1 = (k : Int) := by
    unfold Builtin.Range.rangeSize
    simp only [show (1 : Int) > 0 from by decide, if_true]
    split <;> omega
  refine wpAny_pyIter_range g ?_ (q _ _ (fun i h _ => IsRangeIter h s.heap.objs.size (a + (i : Int)) ((k : Int) - (i : Int)) 1) ⟨?_, ?_, ?_, ?_, ?_, ?_⟩ (by rw [hn]; simpa using Heap.get?_push_size _ rfl) (fun _ _ e => Heap.get?_push_of_some _ e) noneAt)
  · exact small_one (by omega) (by omega) (by omega) (by omega)
  · rintro X i h h' φ φ' st l k'
    exact k' _ st
  · rintro i h φ st
    exact ⟨_, st, rfl⟩
  · rintro i s' φ' target v Q' E' st ht q'
    rcases ht with ht | ht
    · rw [ht]; exact wpAny_pure q'
    · cases ht
  · rintro i s' φ' σ' x Q' E' hx st rs' g' q'
    have hi : i < k := by
      have := (List.getElem?_eq_some_iff.mp hx).1
      simpa [rngV] using this
    have hx' : x = .int (a + (i : Int)) := by simp [rngV, hi] at hx; exact hx.symm
    subst hx'
    refine wpAny_pyNext_range_item st (by omega) fun h' st' hs => q' _ h' _ ⟨_, rfl⟩ ?_ hs.extBut
    have e1 : a + (i : Int) + 1 = a + ((i + 1 : Nat) : Int) := by omega
    have e2 : (k : Int) - (i : Int) - 1 = (k : Int) - ((i + 1 : Nat) : Int) := by omega
    rw [e1, e2] at st'
    exact st'
  · rintro s' φ' σ' Q' E' st rs' g' q'
    have e : (rngV a k).length = k := by simp [rngV]
    rw [e] at st
    exact wpAny_pyNext_range_end ok.hh st (by omega) fun h' hx => q' h' s'.toks hx
  · rintro i s' φ' Q' E' st q'
    exact wpAny_pyIter_rangeiter st q'
def octs (l : List UInt8) : List V := l.map fun b => .int b.toNat
theorem SRC.bytes {l : List UInt8} : SRC n σ (.bytes l) (octs l) false fun _ => True := by
  rintro c s φ ok rs u ⟨t, rfl⟩ Q E q
  refine KBw.pyIter_bytes (q _ _ (fun i h _ => KBw.IsBytesIter h s.heap.objs.size l.toArray t i) ⟨?_, ?_, ?_, ?_, ?_, ?_⟩ ⟨_, Heap.get?_push_size _ rfl, rfl, rfl⟩ (fun _ _ e => Heap.get?_push_of_some _ e) noneAt)
  · rintro X i h h' φ φ' ⟨o, ho, r⟩ l k'
    exact ⟨o, k' _ ho, r⟩
  · rintro i h φ ⟨o, ho, hc, hd⟩
    exact ⟨o, ho, by simp [immO, hd, hc]⟩
  · rintro i s' φ' target v Q' E' st ht q'
    rcases ht with ht | ht
    · rw [ht]; exact wpAny_pure q'
    · cases ht
  · rintro i s' φ' σ' x Q' E' hx st rs' g' q'
    have hi : i < l.length := by
      have := (List.getElem?_eq_some_iff.mp hx).1
      simpa [octs] using this
    have hx' : x = .int (l[i].toNat : Int) := by simp [octs, hi] at hx; exact hx.symm
    subst hx'
    exact KBw.next_item st (c := l[i]) (by simp [hi]) fun h' st' hs => q' _ h' _ ⟨_, rfl⟩ st' hs.extBut
  · rintro s' φ' σ' Q' E' st rs' g' q'
    have e : (octs l).length = l.length := by simp [octs]
    rw [e] at st
    exact KBw.next_end ok.hh st (by simp) fun h' hx => q' h' s'.toks hx
  · rintro i s' φ' Q' E' st q'
    exact KBw.pyIter_self st q'
end

section
variable {c : Cx} {env : Env} {F : Fn} {ρ : List (String × V)} {h h' : Heap} {φ : List Addr} {σ : List Ob} {I : Addr}
theorem Mono.but (k : ∀ b o, b ≠ I → h.get? b = some o → h'.get? b = some o) (i : ∃ o, h.get? I = some o ∧ immO o = false) : Mono h h' := fun b o e j => k b o (fun q => by
  obtain ⟨o', e', i'⟩ := i
  rw [q, e'] at e; cases e
  rw [i'] at j; cases j) e
theorem RS.but (rs : RS c h φ σ) (k : ∀ b o, b ≠ I → h.get? b = some o → h'.get? b = some o) (m : Mono h h') (hI : I ∉ φ) (h0 : c.h₀.get? I = none) (hp : I ≠ PT) : RS c h' φ σ :=
  ⟨fun b o e => k b o (fun q => by rw [q, h0] at e; cases e) (rs.base b o e), rs.len, rs.nd, fun i a o e q => ObAt.mono0 m (fun o' e' => k _ _ (fun z => hI (z ▸ List.mem_of_getElem? e)) e') (rs.at_ i a o e q),
    fun a q => ⟨(rs.off a q).1, (rs.off a q).2.1, (rs.off a q).2.2.elim fun o e => ⟨o, k a o (fun z => hI (z ▸ q)) e⟩⟩, rs.tab.keep m fun _ e => k _ _ (fun z => hp z.symm) e⟩
theorem RL.but (rl : RL c env F ρ h φ) (k : ∀ b o, b ≠ I → h.get? b = some o → h'.get? b = some o) (m : Mono h h') (hL : env.locals ≠ I) : RL c env F ρ h' φ := by
  obtain ⟨mm, hm, hr⟩ := rl.loc
  exact ⟨rl.sc, rl.gl, rl.bl, rl.cd, rl.ql, rl.L0, rl.LP, rl.Lφ, ⟨mm, hm.at' fun o e => k _ _ hL e, fun x v e => (hr x v e).elim fun u q => ⟨u, q.1, q.2.mono0 m⟩⟩, rl.cel⟩
end
end
section

section
variable {F : Fn} {ρ : List (String × V)} {σ : List Ob}

/-! calls -/
theorem Cx.OK.in1 {c : Cx} {n : Nat} (ok : c.OK (n + 1)) (env : Env) : ({ c with A := c.A.deeper env } : Cx).OK n :=
  ⟨ok.K, ok.T, ok.hh, by have := ok.dp; show (c.A.deeper env).depth + n < _; rw [depth_deeper]; omega, by have := ok.un; show (c.A.deeper env).units + _ < _; rw [units_deeper]; omega, ok.hP, ok.sy, ok.fn⟩
def RSc {c : Cx} {A : Around} {h : Heap} {φ : List Addr} (rs : RS c h φ σ) : RS { c with A := A } h φ σ := ⟨rs.base, rs.len, rs.nd, rs.at_, rs.off, rs.tab⟩
def RSd {c : Cx} {A : Around} {h : Heap} {φ : List Addr} (rs : RS { c with A := A } h φ σ) : RS c h φ σ := ⟨rs.base, rs.len, rs.nd, rs.at_, rs.off, rs.tab⟩
/-- what changed was not there -/
theorem Le.drop {φ φ' : List Addr} {h h₁ h' : Heap} {L : Addr} (l : Le [L] φ h₁ φ' h') (k : ∀ b o, h.get? b = some o → h₁.get? b = some o) (n : h.get? L = Option.none) (f : ∀ ψ, φ' = φ ++ ψ → ∀ a ∈ ψ, h.get? a = Option.none → True) : Le [] φ h φ' h' :=
  ⟨fun b o e i => l.mono b o (k b o e) i, fun b o e n1 n2 _ => l.keep b o (k b o e) n1 n2 (fun q => by rw [List.mem_singleton.mp q, n] at e; cases e), fun b o e => l.live b o (k b o e), let ⟨ψ, e, q⟩ := l.pre; ⟨ψ, e, fun a m => by
    cases z : h.get? a with
    | none => rfl
    | some o => have := k a o z; rw [q a m] at this; cases this⟩⟩
theorem L_fresh {c : Cx} {h : Heap} {φ : List Addr} (rs : RS c h φ σ) {L : Addr} (n : h.get? L = none) : c.h₀.get? L = none ∧ L ≠ PT ∧ L ∉ φ := by
  refine ⟨?_, ?_, ?_⟩
  · cases q : c.h₀.get? L with
    | none => rfl
    | some o => have := rs.base _ _ q; rw [n] at this; cases this
  · rintro rfl
    obtain ⟨ps, e, _⟩ := rs.tab
    rw [n] at e; cases e
  · intro q
    obtain ⟨_, _, o, e⟩ := rs.off _ q
    rw [n] at e; cases e

theorem zip_none {x : String} {v : Value} : ∀ {ps : List String} {vs : List Value}, x ∉ ps → ((ps.map Str.ofString).zip vs).lookup (Str.ofString x) = Option.none
  | [], _, _ => rfl
  | _ :: _, [], _ => rfl
  | p :: ps, u :: vs, h => by
    have h1 : (Str.ofString x == Str.ofString p) = false := by simpa using fun e => h (by rw [ofString_inj e]; exact .head _)
    show List.lookup _ ((Str.ofString p, u) :: _) = _
    rw [List.lookup_cons, h1]
    exact zip_none (v := v) fun q => h (.tail _ q)
theorem mem_zip_map {x : String} {v : Value} : ∀ {ps : List String} {vs : List Value}, ((ps.map Str.ofString).zip vs).lookup (Str.ofString x) = some v → x ∈ ps
  | [], _, h => by cases h
  | _ :: _, [], h => by cases h
  | p :: ps, u :: vs, h => by
    by_cases q : x = p
    · rw [q]; exact .head _
    · have h1 : (Str.ofString x == Str.ofString p) = false := by simpa using fun e => q (ofString_inj e)
      have h : List.lookup (Str.ofString x) ((Str.ofString p, u) :: (ps.map Str.ofString).zip vs) = some v := h
      rw [List.lookup_cons, h1] at h
      exact .tail _ (mem_zip_map h)
theorem lookup_append_of_none {α β : Type} [BEq α] {k : α} {l l' : List (α × β)} (h : l.lookup k = Option.none) : (l ++ l').lookup k = l'.lookup k := by
  induction l with
  | nil => rfl
  | cons p r ih =>
    obtain ⟨a, b⟩ := p
    rw [List.cons_append, List.lookup_cons]
    rw [List.lookup_cons] at h
    split at h
    · cases h
    · exact ih h
theorem lookup_append_of_some {α β : Type} [BEq α] {k : α} {b : β} {l l' : List (α × β)} (h : l.lookup k = some b) : (l ++ l').lookup k = some b := by
  induction l with
  | nil => cases h
  | cons p r ih =>
    obtain ⟨a, c⟩ := p
    rw [List.cons_append, List.lookup_cons]
    rw [List.lookup_cons] at h
    split at h
    · exact h
    · exact ih h
/-- the parameters, by name -/
theorem bindsR {h : Heap} {φ : List Addr} {x : String} {v : V} : ∀ {ps : List String} {xs : List V} {vs : List Value}, ps.Nodup → VRs h φ xs vs → (ps.zip xs).lookup x = some v →
    ∃ u, ((ps.map Str.ofString).zip vs).reverse.lookup (Str.ofString x) = some u ∧ VR h φ v u
  | [], _, _, _, _, e => by cases e
  | _ :: _, [], _, _, _, e => by cases e
  | p :: ps, y :: xs, vs, nd, r, e => by
    obtain ⟨u, us, rfl, r1, r2⟩ := r
    have nd' := List.nodup_cons.mp nd
    show ∃ w, (List.reverse ((Str.ofString p, u) :: (ps.map Str.ofString).zip us)).lookup _ = _ ∧ _
    rw [List.reverse_cons]
    have e : List.lookup x ((p, y) :: ps.zip xs) = some v := e
    rw [List.lookup_cons] at e
    by_cases q : x = p
    · subst q
      simp only [beq_self_eq_true, Option.some.injEq] at e
      subst e
      refine ⟨u, ?_, r1⟩
      rw [lookup_append_of_none]
      · simp [List.lookup_cons]
      · have : ∀ (l : List (Str × Value)), l.lookup (Str.ofString x) = Option.none → l.reverse.lookup (Str.ofString x) = Option.none := fun l hl => by
          rw [List.lookup_eq_none_iff] at hl ⊢
          exact fun p hp => hl p (List.mem_reverse.mp hp)
        exact this _ (zip_none (v := u) nd'.1)
    · have q' : (x == p) = false := by simpa using q
      rw [q'] at e
      obtain ⟨w, e1, e2⟩ := bindsR nd'.2 r2 e
      exact ⟨w, lookup_append_of_some e1, e2⟩
def RET (K : V → List Ob → Prop) (fl : Fl) (_ : List (String × V)) (σ : List Ob) : Prop := match fl with
  | .ret v => K v σ
  | .next => K .none σ
  | _ => False
def AllLen : Nat → (List Value → Prop) → Prop
  | 0, P => P []
  | n + 1, P => ∀ a, AllLen n fun r => P (a :: r)
theorem AllLen.get : ∀ {n : Nat} {P : List Value → Prop}, AllLen n P → ∀ vs : List Value, vs.length = n → P vs
  | 0, _, h, [], _ => h
  | 0, _, _, _ :: _, e => by cases e
  | _ + 1, _, _, [], e => by cases e
  | _ + 1, _, h, a :: _, e => AllLen.get (h a) _ (by simpa using e)
theorem all_ne {names : List (Str × NameKind)} (h : (names.all fun x => x.2 != .cell) = true) : ∀ x ∈ names, x.2 ≠ .cell := fun x hx => by have := List.all_eq_true.mp h x hx; simpa using this
theorem all_loc {names : List (Str × NameKind)} {ps : List String} (h : (ps.all fun x => names.lookup (Str.ofString x) == some .local) = true) : ∀ x ∈ ps, names.lookup (Str.ofString x) = some .local := fun x hx => by have := List.all_eq_true.mp h x hx; simpa using this
def CODE (n : Nat) (σ : List Ob) (f : V) (xs : List V) (K : V → List Ob → Prop) : Prop :=
  ∀ (c : Cx) (s : Shared) (φ : List Addr), c.OK n → RS c s.heap φ σ → ∀ (g : Value) (vs : List Value), VR s.heap φ f g → VRs s.heap φ xs vs → ∀ (R : Result → Shared → Prop),
    (∀ a b σ' h' tk φ', K b σ' → RS c h' φ' σ' → Le [] φ s.heap φ' h' → VR h' φ' b a → R (.ok (.ret a)) { s with heap := h', toks := tk }) → codeAny (model PG c.w) c.A (.call g ⟨vs, []⟩) R s
theorem CODE.call {n : Nat} {f : V} {xs : List V} {K : V → List Ob → Prop} (h : CODE n σ f xs K) : CALL n σ f xs K := fun c s φ ok rs g vs r rs' Q E q => wpAny_call (h c s φ ok rs g vs r rs' _ q)
theorem RET.ret {K : V → List Ob → Prop} {v : V} (h : K v σ) : RET K (.ret v) ρ σ := h
theorem RET.next {K : V → List Ob → Prop} (h : K .none σ) : RET K .next ρ σ := h
/-- a def of the text that stands under its name -/
def FNC (f : Addr) (name qual : Str) (params : Arguments) (body : List Stmt) (scope : Scope) (C : Value → Prop) : Prop := ∀ (c : Cx) (n : Nat), c.OK n → ∃ doc pm an cdv ct oc od osl,
  c.h₀.get? f = some ⟨oc, od, .func (fnX name qual params body scope [] .none .none doc pm an cdv ct), osl⟩ ∧ c.h₀.CodeRec cdv qual ∧ C cdv
theorem FNC.top {f : Addr} {name bind : Str} {params : Arguments} {body : List Stmt} {ret : Option Expr} {scope : Scope} {ts : Option Scope} {pos : Pos} (i : Nat) (h : PV.main.body[i]? = some (.FunctionDef name params body [] ret [] scope ts bind pos))
    (e : PV.theDef name = some (params, body, scope)) (d : params.defaults = []) (k : kwLiteralsOf? params.kwonlyargs params.kw_defaults = some []) (hg : ∀ w : World, nsIn (PK w.params) mainGlobals name = some (some (.ref f))) : FNC f name name params body scope fun _ => True := fun c n ok => by
  have hm : (⟨name, params, body, scope, pos⟩ : DefRec) ∈ recsOf PV := List.mem_filterMap.mpr ⟨_, List.mem_of_getElem? h, by simp only [e, d, k]⟩
  obtain ⟨a, o, pm, code, doc, h1, h2, h3, h4⟩ := ok.fn _ hm
  have e := mg_of ok.K ok.T.g (hg c.w)
  rw [h1] at e
  cases e
  obtain ⟨oc, od, dat, osl⟩ := o
  cases h3
  exact ⟨doc, pm, none, code, .none, oc, od, osl, h2, h4, trivial⟩
theorem FNC.K {f : Addr} {name qual : Str} {params : Arguments} {body : List Stmt} {scope : Scope} {doc pm cdv ct oc : Value} {an od : Option Addr} {osl : Array (Option Value)}
    (ho : ∀ w : World, (PK w.params).lookup f = some ⟨oc, od, .func (fnX name qual params body scope [] .none .none doc pm an cdv ct), osl⟩) (hcd : ∀ w : World, codeIn (PK w.params) cdv qual = true) : FNC f name qual params body scope (· = cdv) :=
  fun c _ ok => ⟨doc, pm, an, cdv, ct, oc, od, osl, ok.K _ _ (ho c.w), codeRec_of ok.K (hcd c.w), rfl⟩
theorem CODE.def {n : Nat} {f : Addr} {xs : List V} {K : V → List Ob → Prop} {name qual : Str} {params : Arguments} {body : List Stmt} {scope : Scope} {C : Value → Prop} {ps : List String} (hf : FNC f name qual params body scope C)
    (hb : ∀ doc pm an cdv ct, AllLen xs.length fun vs => bindArgs (fnX name qual params body scope [] .none .none doc pm an cdv ct) ⟨vs, []⟩ = pure ((ps.map Str.ofString).zip vs)) (hl : (ps.all fun x => scope.names.lookup (Str.ofString x) == some .local) = true) (hn : ps.Nodup)
    (hcell : (scope.names.all fun x => x.2 != .cell) = true) (hco : scope.isCoroutine = false) (hgen : scope.isGenerator = false) (hk : scope.kind = .function)
    (h : ∀ cdv, C cdv → EX ⟨n, scope, [], cdv, qual ++ ".<locals>."⟩ (ps.zip xs) σ body (RET K)) : CODE (n + 1) σ (.val (.ref f)) xs K := by
  rintro c s φ ok rs g vs rfl r R q
  have hL := L_fresh rs noneAt
  obtain ⟨doc, pm, an, cdv, ct, oc, od, osl, hf, hcr, hC⟩ := hf c _ ok
  have hbd := (hb doc pm an cdv ct).get vs r.length
  have h := h cdv hC
  have hd : c.A.depth < recursionLimit := by have := ok.dp; omega
  refine codeAny_call_def (fd := fnX name qual params body scope [] .none .none doc pm an cdv ct) (body := body) (binds := (ps.map Str.ofString).zip vs) hd (rs.base _ _ hf) rfl (ok.T.nolimit.keeps rs.base) (hcr.keeps rs.base) rfl (.of_eq hbd) (all_ne hcell)
    (fun x hx => ?_) (fun h₁ hns kk => ?_) hco hgen hk
  · obtain ⟨y, hy⟩ := x
    have := (List.of_mem_zip hx).1
    obtain ⟨z, hz, rfl⟩ := List.mem_map.mp this
    exact all_loc hl z hz
  · generalize hen : callEnv (fnX name qual params body scope [] .none .none doc pm an cdv ct) s.heap.objs.size f = env
    have e1 : env.scope = scope := hen ▸ rfl
    have e2 : env.globals = mainGlobals := hen ▸ rfl
    have e3 : env.builtins = builtinsNs := hen ▸ rfl
    have e4 : env.code = cdv := hen ▸ rfl
    have e5 : env.qual = qual ++ ".<locals>." := hen ▸ rfl
    have e6 : env.locals = s.heap.objs.size := hen ▸ rfl
    clear hen
    refine h { c with A := c.A.deeper env } env ⟨h₁, s.gens, s.drawn, _, s.os⟩ φ (ok.in1 env) hk (RSc (rs.keep kk)) ⟨e1, e2, e3, e4, e5, e6 ▸ hL.1, e6 ▸ hL.2.1, e6 ▸ hL.2.2, ⟨_, e6 ▸ hns, fun x v e => ?_⟩, fun _ _ e => nomatch e⟩ _ _
      fun a fl ρ' σ' h' tk φ' k rs' _ l r' => ?_
    · exact bindsR hn ((Le.of_keep (X := []) kk).vrs r) e
    · have l' : Le [] φ s.heap φ' h' := Le.drop (L := s.heap.objs.size) (e6 ▸ l) kk noneAt fun _ _ _ _ _ => trivial
      cases fl with
      | next => cases r'; exact q _ _ _ _ _ _ k (RSd rs') l' rfl
      | ret v => obtain ⟨u, rfl, ru⟩ := r'; exact q _ _ _ _ _ _ k (RSd rs') l' ru
      | brk => exact k.elim
      | cont => exact k.elim
theorem CALL.def {n : Nat} {f : Addr} {xs : List V} {K : V → List Ob → Prop} {name qual : Str} {params : Arguments} {body : List Stmt} {scope : Scope} {C : Value → Prop} {ps : List String} (hf : FNC f name qual params body scope C)
    (hb : ∀ doc pm an cdv ct, AllLen xs.length fun vs => bindArgs (fnX name qual params body scope [] .none .none doc pm an cdv ct) ⟨vs, []⟩ = pure ((ps.map Str.ofString).zip vs)) (hl : (ps.all fun x => scope.names.lookup (Str.ofString x) == some .local) = true) (hn : ps.Nodup)
    (hcell : (scope.names.all fun x => x.2 != .cell) = true) (hco : scope.isCoroutine = false) (hgen : scope.isGenerator = false) (hk : scope.kind = .function)
    (h : ∀ cdv, C cdv → EX ⟨n, scope, [], cdv, qual ++ ".<locals>."⟩ (ps.zip xs) σ body (RET K)) : CALL (n + 1) σ (.val (.ref f)) xs K := (CODE.def hf hb hl hn hcell hco hgen hk h).call

/-! frames with cells -/
theorem cellsFrom_eq : ∀ (l : List (Str × NameKind)) (n : Nat) (acc : List (Str × Addr)), cellsFrom n l acc = (((l.filter (·.2 == .cell)).map (·.1)).zip (List.range' n (l.filter (·.2 == .cell)).length)).reverse ++ acc
  | [], _, _ => by simp [cellsFrom]
  | (x, k) :: r, n, acc => by
    unfold cellsFrom
    by_cases h : (k == NameKind.cell) = true
    · rw [if_pos h, cellsFrom_eq r]
      have : List.filter (fun p : Str × NameKind => p.2 == .cell) ((x, k) :: r) = (x, k) :: r.filter (·.2 == .cell) := List.filter_cons_of_pos h
      rw [this]
      simp [List.range'_succ]
    · rw [if_neg h, cellsFrom_eq r]
      have : List.filter (fun p : Str × NameKind => p.2 == .cell) ((x, k) :: r) = r.filter (·.2 == .cell) := List.filter_cons_of_neg h
      rw [this]
theorem lookup_rev {α β : Type} [BEq α] [LawfulBEq α] {k : α} {b : β} : ∀ {l : List (α × β)}, (l.map (·.1)).Nodup → l.lookup k = some b → l.reverse.lookup k = some b
  | [], _, h => by cases h
  | (a, c) :: r, nd, h => by
    have nd' := List.nodup_cons.mp nd
    rw [List.reverse_cons]
    rw [List.lookup_cons] at h
    by_cases q : (k == a) = true
    · rw [q] at h
      have e : k = a := by simpa using q
      cases h
      rw [lookup_append_of_none]
      · simp [List.lookup_cons, e]
      · rw [List.lookup_eq_none_iff]
        intro p hp
        have : p.1 ∈ r.map (·.1) := List.mem_map_of_mem (List.mem_reverse.mp hp)
        simp only [e, bne_iff_ne, ne_eq, Bool.not_eq_true, beq_eq_false_iff_ne]
        intro z
        exact nd'.1 (z ▸ this)
    · have q' : (k == a) = false := by simpa using q
      rw [q'] at h
      exact lookup_append_of_some (lookup_rev nd'.2 h)
theorem zip_lookup {β : Type} {x : String} {b : β} : ∀ {cs : List String} {l : List β}, (cs.zip l).lookup x = some b → ((cs.map Str.ofString).zip l).lookup (Str.ofString x) = some b
  | [], _, h => by cases h
  | _ :: _, [], h => by cases h
  | c :: cs, y :: l, h => by
    have h : List.lookup x ((c, y) :: cs.zip l) = some b := h
    show List.lookup _ ((Str.ofString c, y) :: _) = _
    rw [List.lookup_cons] at h ⊢
    by_cases q : x = c
    · subst q; simpa using h
    · have h1 : (x == c) = false := by simpa using q
      have h2 : (Str.ofString x == Str.ofString c) = false := by simpa using fun e => q (ofString_inj e)
      rw [h1] at h; rw [h2]
      exact zip_lookup h
theorem bind_other {k : Str → Option NameKind} {x : String} : ∀ {ps : List String} {vs : List Value} {m : Str → Option Value}, x ∉ ps →
    bindL k ((ps.map Str.ofString).zip vs) m (Str.ofString x) = m (Str.ofString x) ∧ bindC k ((ps.map Str.ofString).zip vs) m (Str.ofString x) = m (Str.ofString x)
  | [], _, _, _ => ⟨rfl, rfl⟩
  | _ :: _, [], _, _ => ⟨rfl, rfl⟩
  | p :: ps, u :: vs, m, h => by
    have h1 : ¬ Str.ofString x = Str.ofString p := fun e => h (by rw [ofString_inj e]; exact .head _)
    obtain ⟨a1, a2⟩ := bind_other (k := k) (vs := vs) (m := if k (Str.ofString p) = some .local then fun y => if y = Str.ofString p then some u else m y else m) fun q => h (.tail _ q)
    obtain ⟨b1, b2⟩ := bind_other (k := k) (vs := vs) (m := if k (Str.ofString p) = some .local then m else fun y => if y = Str.ofString p then some u else m y) fun q => h (.tail _ q)
    refine ⟨a1.trans ?_, b2.trans ?_⟩ <;> split <;> simp [h1]
theorem bindsC {h : Heap} {φ : List Addr} {k : Str → Option NameKind} {x : String} {v : V} : ∀ {ps : List String} {xs : List V} {vs : List Value} {m : Str → Option Value}, ps.Nodup → VRs h φ xs vs → (ps.zip xs).lookup x = some v →
    (k (Str.ofString x) = some .local → ∃ u, bindL k ((ps.map Str.ofString).zip vs) m (Str.ofString x) = some u ∧ VR h φ v u) ∧
    (¬ k (Str.ofString x) = some .local → ∃ u, bindC k ((ps.map Str.ofString).zip vs) m (Str.ofString x) = some u ∧ VR h φ v u)
  | [], _, _, _, _, _, e => by cases e
  | _ :: _, [], _, _, _, _, e => by cases e
  | p :: ps, y :: xs, vs, m, nd, r, e => by
    obtain ⟨u, us, rfl, r1, r2⟩ := r
    have nd' := List.nodup_cons.mp nd
    have e : List.lookup x ((p, y) :: ps.zip xs) = some v := e
    rw [List.lookup_cons] at e
    by_cases q : x = p
    · subst q
      simp only [beq_self_eq_true, Option.some.injEq] at e
      subst e
      refine ⟨fun hl => ⟨u, (bind_other nd'.1).1.trans ?_, r1⟩, fun hl => ⟨u, (bind_other nd'.1).2.trans ?_, r1⟩⟩
      · rw [if_pos hl]; simp
      · rw [if_neg hl]; simp
    · have q' : (x == p) = false := by simpa using q
      rw [q'] at e
      exact ⟨(bindsC nd'.2 r2 e).1, (bindsC nd'.2 r2 e).2⟩
/-- several new things of the store -/
theorem RS.pushes {c : Cx} {h h' : Heap} {φ : List Addr} {as : List Addr} {os : List Ob} (r : RS c h φ σ) (k : ∀ b o, h.get? b = some o → h'.get? b = some o) (hl : as.length = os.length) (nd : as.Nodup) (ha : ∀ a ∈ as, h.get? a = Option.none ∧ ∃ o, h'.get? a = some o)
    (e : ∀ (i : Nat) a o, as[i]? = some a → os[i]? = some o → ObAt c.w h' (φ ++ as) a o) : RS c h' (φ ++ as) (σ ++ os) ∧ Le [] φ h (φ ++ as) h' := by
  have l : Le [] φ h (φ ++ as) h' := ⟨fun _ _ e _ => k _ _ e, fun _ _ e _ _ _ => k _ _ e, fun _ o e => ⟨o, k _ _ e⟩, as, rfl, fun x hx => (ha x hx).1⟩
  refine ⟨⟨fun b o e => k _ _ (r.base b o e), by simp [r.len, hl], ?_, ?_, ?_, r.tab.keep l.mono fun _ e => k _ _ e⟩, l⟩
  · refine List.nodup_append.mpr ⟨r.nd, nd, fun x hx y hy q => ?_⟩
    obtain ⟨_, _, o, e⟩ := r.off x hx
    rw [q, (ha y hy).1] at e; cases e
  · intro i b ob e1 e2
    by_cases hi : i < φ.length
    · rw [List.getElem?_append_left hi] at e1
      rw [List.getElem?_append_left (r.len ▸ hi)] at e2
      exact ObAt.le l (fun o e => k _ _ e) (r.at_ i b ob e1 e2)
    · have hi' : φ.length ≤ i := Nat.not_lt.mp hi
      rw [List.getElem?_append_right hi'] at e1
      rw [List.getElem?_append_right (r.len ▸ hi'), ← r.len] at e2
      exact e _ _ _ e1 e2
  · intro b hb
    rcases List.mem_append.mp hb with hb | hb
    · exact ⟨(r.off b hb).1, (r.off b hb).2.1, (r.off b hb).2.2.elim fun o e => ⟨o, k _ _ e⟩⟩
    · exact ⟨(L_fresh r (ha b hb).1).1, (L_fresh r (ha b hb).1).2.1, (ha b hb).2⟩
theorem zip_at {β : Type} {x : String} {b : β} : ∀ {cs : List String} {l : List β}, (cs.zip l).lookup x = some b → ∃ i : Nat, cs[i]? = some x ∧ l[i]? = some b
  | [], _, h => by cases h
  | _ :: _, [], h => by cases h
  | c :: cs, y :: l, h => by
    have h : List.lookup x ((c, y) :: cs.zip l) = some b := h
    rw [List.lookup_cons] at h
    by_cases q : x = c
    · subst q; exact ⟨0, rfl, by simpa using h⟩
    · have h1 : (x == c) = false := by simpa using q
      rw [h1] at h
      obtain ⟨i, e1, e2⟩ := zip_at h
      exact ⟨i + 1, by simpa using e1, by simpa using e2⟩
theorem at_zip {β : Type} {x : String} {b : β} : ∀ {cs : List String} {l : List β} {i : Nat}, cs.Nodup → cs[i]? = some x → l[i]? = some b → (cs.zip l).lookup x = some b
  | [], _, _, _, h, _ => by cases h
  | _ :: _, [], _, _, _, h => by cases h
  | c :: cs, y :: l, i, nd, h1, h2 => by
    show List.lookup x ((c, y) :: cs.zip l) = some b
    rw [List.lookup_cons]
    have nd' := List.nodup_cons.mp nd
    cases i with
    | zero => cases h1; simpa using h2
    | succ i =>
      have hx : x ∈ cs := List.mem_of_getElem? (by simpa using h1)
      have h3 : (x == c) = false := by simp only [beq_eq_false_iff_ne]; rintro rfl; exact nd'.1 hx
      rw [h3]
      exact at_zip nd'.2 (by simpa using h1) (by simpa using h2)
theorem CALL.cells {n : Nat} {f : Addr} {xs : List V} {K : V → List Ob → Prop} {name qual : Str} {params : Arguments} {body : List Stmt} {scope : Scope} {C : Value → Prop} {ps cs : List String} (hf : FNC f name qual params body scope C)
    (hb : ∀ doc pm an cdv ct, AllLen xs.length fun vs => bindArgs (fnX name qual params body scope [] .none .none doc pm an cdv ct) ⟨vs, []⟩ = pure ((ps.map Str.ofString).zip vs)) (hn : ps.Nodup)
    (hl' : (ps.all fun x => scope.names.lookup (Str.ofString x) == some .local || (cs.contains x && scope.names.lookup (Str.ofString x) == some .cell)) = true) (hcs : (scope.names.filter (·.2 == .cell)).map (·.1) = cs.map Str.ofString) (hcn : cs.Nodup)
    (hcl' : (cs.all fun x => scope.names.lookup (Str.ofString x) == some .cell) = true) (hco : scope.isCoroutine = false) (hgen : scope.isGenerator = false) (hk : scope.kind = .function)
    (h : ∀ cdv, C cdv → EX ⟨n, scope, cs.zip (List.range' σ.length cs.length), cdv, qual ++ ".<locals>."⟩ ((ps.zip xs).filter fun p => !cs.contains p.1) (σ ++ cs.map fun x => .cell ((ps.zip xs).lookup x)) body (RET K)) : CALL (n + 1) σ (.val (.ref f)) xs K := by
  rintro c s φ ok rs g vs rfl r Q E q
  have hL := L_fresh rs noneAt
  obtain ⟨doc, pm, an, cdv, ct, oc, od, osl, hf, hcr, hC⟩ := hf c _ ok
  have hbd := (hb doc pm an cdv ct).get vs r.length
  have h := h cdv hC
  have hcl : ∀ x ∈ cs, scope.names.lookup (Str.ofString x) = some .cell := fun x hx => by have := List.all_eq_true.mp hcl' x hx; simpa using this
  have hl : ∀ x ∈ ps, scope.names.lookup (Str.ofString x) = some .local ∨ (scope.names.lookup (Str.ofString x) = some .cell ∧ x ∈ cs) := fun x hx => by
    have := List.all_eq_true.mp hl' x hx
    simp only [Bool.or_eq_true, beq_iff_eq, Bool.and_eq_true, List.contains_iff_mem] at this
    exact this.imp id fun q => ⟨q.2, q.1⟩
  have hd : c.A.depth < recursionLimit := by have := ok.dp; omega
  have hlen : (scope.names.filter (·.2 == .cell)).length = cs.length := by have := congrArg List.length hcs; simpa using this
  have hcf : cellsFrom (s.heap.objs.size + 1) scope.names [] = ((cs.map Str.ofString).zip (List.range' (s.heap.objs.size + 1) cs.length)).reverse := by rw [cellsFrom_eq, hcs, hlen, List.append_nil]
  have hnd : (((cs.map Str.ofString).zip (List.range' (s.heap.objs.size + 1) cs.length)).map (·.1)).Nodup := by
    rw [List.map_fst_zip (by simp)]
    exact hcn.map _ fun a b ne e => ne (ofString_inj e)
  have hcell : ∀ {x : String} {i : Nat}, cs[i]? = some x → (cellsFrom (s.heap.objs.size + 1) scope.names []).lookup (Str.ofString x) = some (s.heap.objs.size + 1 + i) := fun {x i} e => by
    rw [hcf]
    have hi := (List.getElem?_eq_some_iff.mp e).1
    exact lookup_rev hnd (zip_lookup (at_zip hcn e (by simp [hi])))
  refine wpAny_call (codeAny_call_cells (fd := fnX name qual params body scope [] .none .none doc pm an cdv ct) (body := body) (binds := (ps.map Str.ofString).zip vs) hd (rs.base _ _ hf) rfl (ok.T.nolimit.keeps rs.base) (hcr.keeps rs.base) rfl hbd rfl
    (fun x hx => ?_) (fun s₁ x => ?_) hco hgen hk)
  · obtain ⟨y, hy⟩ := x
    have := (List.of_mem_zip hx).1
    obtain ⟨z, hz, rfl⟩ := List.mem_map.mp this
    refine (hl z hz).imp id fun q => ⟨q.1, ?_⟩
    obtain ⟨i, hi⟩ := List.getElem?_of_mem q.2
    dsimp only
    rw [hcell hi]; rfl
  · have hkn : (callEnvC (fnX name qual params body scope [] .none .none doc pm an cdv ct) s.heap.objs.size f).kindOf = fun x => scope.names.lookup x := rfl
    generalize hen : callEnvC (fnX name qual params body scope [] .none .none doc pm an cdv ct) s.heap.objs.size f = env at x hkn
    have e1 : env.scope = scope := hen ▸ rfl
    have e2 : env.globals = mainGlobals := hen ▸ rfl
    have e3 : env.builtins = builtinsNs := hen ▸ rfl
    have e4 : env.code = cdv := hen ▸ rfl
    have e5 : env.qual = qual ++ ".<locals>." := hen ▸ rfl
    have e6 : env.locals = s.heap.objs.size := hen ▸ rfl
    have e7 : env.cells = cellsFrom (s.heap.objs.size + 1) scope.names [] := hen ▸ rfl
    clear hen
    obtain ⟨⟨⟨h₁, tk₁, rfl⟩, hns, kk, _⟩, xc, _, _⟩ := x
    rw [hkn] at hns xc
    rw [e7] at xc
    have hg : ∀ a ∈ List.range' (s.heap.objs.size + 1) cs.length, s.heap.get? a = Option.none ∧ ∃ o, h₁.get? a = some o := fun a ha => by
      obtain ⟨i, hi, rfl⟩ := List.mem_range'.mp ha
      refine ⟨Heap.get?_none_of_le (by omega), ?_⟩
      have e : cs[i]? = some cs[i] := by simp [hi]
      obtain ⟨o, ho, _⟩ := xc _ _ (hcell e)
      exact ⟨o, by simpa using ho⟩
    obtain ⟨rs', l₀⟩ := rs.pushes (as := List.range' (s.heap.objs.size + 1) cs.length) (os := cs.map fun x => .cell ((ps.zip xs).lookup x)) kk (by simp) List.nodup_range' hg fun i a o ea eo => by
      have hi : i < cs.length := by have := (List.getElem?_eq_some_iff.mp ea).1; simpa using this
      have e : cs[i]? = some cs[i] := by simp [hi]
      have ea' : a = s.heap.objs.size + 1 + i := by simp [hi] at ea; exact ea.symm
      have eo' : o = .cell ((ps.zip xs).lookup cs[i]) := by simp [hi] at eo; exact eo.symm
      subst ea' eo'
      obtain ⟨oc, hoc, hdc⟩ := xc _ _ (hcell e)
      refine ⟨oc, hoc, ?_⟩
      cases hv : (ps.zip xs).lookup cs[i] with
      | none => exact ⟨_, hdc⟩
      | some v =>
        have hnl : ¬ (fun x => scope.names.lookup x) (Str.ofString cs[i]) = some .local := by
          show ¬ scope.names.lookup _ = _
          rw [hcl _ (List.getElem_mem hi)]; decide
        obtain ⟨u, b1, b2⟩ := (bindsC (k := fun x => scope.names.lookup x) (m := fun _ => Option.none) hn r hv).2 hnl
        exact ⟨u, by rw [hdc, b1], b2.mono fun _ _ e _ => kk _ _ e⟩
    refine h { c with A := c.A.deeper env } env ⟨h₁, s.gens, s.drawn, tk₁, s.os⟩ _ (ok.in1 env) hk (RSc rs') ⟨e1, e2, e3, e4, e5, e6 ▸ hL.1, e6 ▸ hL.2.1, ?_, ⟨_, hns, fun x v e => ?_⟩, fun x j e => ?_⟩ _ _
      fun a fl ρ' σ' h' tk φ' k rs' _ l r' => ?_
    · rw [e6]
      intro q
      rcases List.mem_append.mp q with q | q
      · exact hL.2.2 q
      · obtain ⟨i, hi, e⟩ := List.mem_range'.mp q
        omega
    · have hf : ∀ (l : List (String × V)), (l.filter fun p => !cs.contains p.1).lookup x = some v → x ∉ cs ∧ l.lookup x = some v := fun l => by
        induction l with
        | nil => intro e; cases e
        | cons p l ih =>
          obtain ⟨y, u⟩ := p
          intro e
          by_cases hy : cs.contains y = true
          · rw [List.filter_cons_of_neg (by simpa using hy)] at e
            have := ih e
            refine ⟨this.1, ?_⟩
            have hne : (x == y) = false := by
              simp only [beq_eq_false_iff_ne]
              rintro rfl
              exact this.1 (by simpa using hy)
            rw [List.lookup_cons, hne]; exact this.2
          · rw [List.filter_cons_of_pos (by simpa using hy)] at e
            rw [List.lookup_cons] at e ⊢
            by_cases hxy : (x == y) = true
            · have : x = y := by simpa using hxy
              rw [hxy] at e ⊢
              exact ⟨this ▸ (by simpa using hy), e⟩
            · have hxy : (x == y) = false := by simpa using hxy
              rw [hxy] at e ⊢
              exact ih e
      obtain ⟨nx, ex⟩ := hf _ e
      obtain ⟨i, hi, _⟩ := zip_at ex
      have hxl : scope.names.lookup (Str.ofString x) = some .local := (hl x (List.mem_of_getElem? hi)).resolve_right fun q => nx q.2
      obtain ⟨u, b1, b2⟩ := (bindsC (k := fun x => scope.names.lookup x) (m := fun _ => Option.none) hn r ex).1 hxl
      exact ⟨u, b1, l₀.vr b2⟩
    · obtain ⟨i, e1, e2⟩ := zip_at e
      have hi := (List.getElem?_eq_some_iff.mp e1).1
      have ej : j = σ.length + i := by simp [hi] at e2; exact e2.symm
      subst ej
      refine ⟨s.heap.objs.size + 1 + i, ?_, by rw [e7]; exact hcell e1⟩
      rw [← rs.len, List.getElem?_append_right (by omega)]
      simp [hi]
    · have l' : Le [] φ s.heap φ' h' := by
        have l2 : Le [env.locals] φ s.heap φ' h' := l₀.weak.trans l
        rw [e6] at l2
        exact Le.drop (L := s.heap.objs.size) l2 (fun _ _ e => e) noneAt fun _ _ _ _ _ => trivial
      cases fl with
      | next => cases r'; exact q _ _ _ _ _ _ k (RSd rs') l' rfl
      | ret v => obtain ⟨u, rfl, ru⟩ := r'; exact q _ _ _ _ _ _ k (RSd rs') l' ru
      | brk => exact k.elim
      | cont => exact k.elim
end
end
section

section
variable {F : Fn} {ρ : List (String × V)} {σ : List Ob}
/-! closures -/
theorem CALL.clos {n i : Nat} {params : Arguments} {body : Expr} {scope : Scope} {γ : List (String × Nat)} {xs : List V} {K : V → List Ob → Prop} {ps : List String} (he : σ[i]? = some (.clos params body scope γ))
    (hb : ∀ name qual cells pm cdv ct, AllLen xs.length fun vs => bindArgs (kla_fn name qual params body scope cells pm cdv ct) ⟨vs, []⟩ = pure ((ps.map Str.ofString).zip vs)) (hl : (ps.all fun x => scope.names.lookup (Str.ofString x) == some .local) = true) (hn : ps.Nodup)
    (hcell : (scope.names.all fun x => x.2 != .cell) = true) (hco : scope.isCoroutine = false) (hgen : scope.isGenerator = false) (hk : scope.kind = .function)
    (h : ∀ cd qual, EV ⟨n, scope, γ, cd, qual⟩ (ps.zip xs) σ body K) : CALL (n + 1) σ (.ref i) xs K := by
  rintro c s φ ok rs g vs ⟨a, rfl, ha⟩ r Q E q
  obtain ⟨name, qual, cells, pm, c', ct, hf, hcr, _, hg⟩ := rs.at_ i a _ ha he
  have hL := L_fresh rs noneAt
  have hd : c.A.depth < recursionLimit := by have := ok.dp; omega
  refine wpAny_call (kla_callFunE (fd := kla_fn name qual params body scope cells pm (.ref c') ct) hd hf rfl hco hgen rfl hcr ?_)
  rw [(hb name qual cells pm _ ct).get vs r.length]
  refine wpAny_pure (wpAny_newFunctionEnv (all_ne hcell) (fun x hx => ?_) (fun h₁ hns hsb => ⟨(ok.T.nolimit.keeps rs.base).fresh _ hsb, ?_⟩) hk)
  · obtain ⟨y, hy⟩ := x
    have := (List.of_mem_zip hx).1
    obtain ⟨z, hz, rfl⟩ := List.mem_map.mp this
    exact all_loc hl z hz
  · have kk : ∀ b o, s.heap.get? b = some o → h₁.get? b = some o := fun b o e => hsb.extBut b o (Nat.ne_of_lt (Heap.lt_size e)) (Heap.get?_push_of_some _ e)
    generalize hen : newEnv (kla_fn name qual params body scope cells pm (.ref c') ct).scope s.heap.objs.size (kla_fn name qual params body scope cells pm (.ref c') ct).globals (kla_fn name qual params body scope cells pm (.ref c') ct).closure
      ((kla_fn name qual params body scope cells pm (.ref c') ct).qualname ++ ".<locals>.") (some a) (kla_fn name qual params body scope cells pm (.ref c') ct).code Option.none (kla_fn name qual params body scope cells pm (.ref c') ct).builtins = env
    have e1 : env.scope = scope := hen ▸ rfl
    have e2 : env.globals = mainGlobals := hen ▸ rfl
    have e3 : env.builtins = builtinsNs := hen ▸ rfl
    have e4 : env.code = .ref c' := hen ▸ rfl
    have e5 : env.qual = qual ++ ".<locals>." := hen ▸ rfl
    have e6 : env.locals = s.heap.objs.size := hen ▸ rfl
    have e7 : env.cells = cells := hen ▸ rfl
    clear hen
    refine kla_codeExpr (h (.ref c') (qual ++ ".<locals>.") { c with A := c.A.deeper env } env ⟨h₁, s.gens, s.drawn, _, s.os⟩ φ (ok.in1 env) hk (RSc (rs.keep kk)) ⟨e1, e2, e3, e4, e5, e6 ▸ hL.1, e6 ▸ hL.2.1, e6 ▸ hL.2.2, ⟨_, e6 ▸ hns, fun x v e => ?_⟩, fun x j e => ?_⟩ _ _
      fun a v σ' h' tk φ' k rs' l r' => ?_)
    · exact bindsR hn ((Le.of_keep (X := []) kk).vrs r) e
    · rw [e7]; exact hg x j e
    · exact q _ _ _ _ _ _ k (RSd rs') ((Le.of_keep kk).trans l) r'

theorem closureFor_ok {scope : Scope} {env : Env} (h : ∀ x ∈ scope.names, x.2 = .free → ∃ a, env.cells.lookup x.1 = some a) :
    ∃ cl, closureFor scope env = pure cl ∧ ∀ x, (x, NameKind.free) ∈ scope.names → cl.lookup x = env.cells.lookup x := by
  have key : ∀ (l : List (Str × NameKind)) (acc : List (Str × Addr)), (∀ x ∈ l, x.2 = .free → ∃ a, env.cells.lookup x.1 = some a) → (∀ x a, acc.lookup x = some a → env.cells.lookup x = some a) →
      ∃ cl, (forIn l acc fun (p : Str × NameKind) (cs : List (Str × Addr)) => (do if p.2 == .free then do let a ← cellOf env p.1; pure (ForInStep.yield ((p.1, a) :: cs)) else pure (ForInStep.yield cs) : Sem (ForInStep (List (Str × Addr))))) = (pure cl : Sem _) ∧
        (∀ x a, cl.lookup x = some a → env.cells.lookup x = some a) ∧ ∀ x, ((x, NameKind.free) ∈ l ∨ (acc.lookup x).isSome) → (cl.lookup x).isSome := by
    intro l
    induction l with
    | nil => intro acc _ ha; exact ⟨acc, by rw [List.forIn_nil], ha, fun x hx => by rcases hx with hx | hx; cases hx; exact hx⟩
    | cons p r ih =>
      obtain ⟨y, k⟩ := p
      intro acc hl ha
      rw [List.forIn_cons]
      have hl' : ∀ x ∈ r, x.2 = .free → ∃ a, env.cells.lookup x.1 = some a := fun x hx => hl x (.tail _ hx)
      by_cases hk : (k == NameKind.free) = true
      · obtain ⟨a, e⟩ := hl (y, k) (.head _) (beq_iff_eq.mp hk)
        have hc : cellOf env y = pure a := by unfold cellOf; rw [e]
        simp only [hk, if_true, hc, pure_bind]
        obtain ⟨cl, e1, e2, e3⟩ := ih ((y, a) :: acc) hl' (fun x b hb => by
          rw [List.lookup_cons] at hb
          by_cases hx : (x == y) = true
          · rw [hx] at hb; cases hb; rw [beq_iff_eq.mp hx]; exact e
          · have hx : (x == y) = false := by simpa using hx
            rw [hx] at hb; exact ha x b hb)
        refine ⟨cl, e1, e2, fun x hx => e3 x ?_⟩
        by_cases hxy : (x == y) = true
        · exact .inr (by rw [List.lookup_cons, hxy]; rfl)
        · have hxy' : (x == y) = false := by simpa using hxy
          rcases hx with hx | hx
          · rcases List.mem_cons.mp hx with z | z
            · cases z; simp at hxy
            · exact .inl z
          · exact .inr (by rw [List.lookup_cons, hxy']; exact hx)
      · have hk' : (k == NameKind.free) = false := by simpa using hk
        simp only [hk', Bool.false_eq_true, if_false, pure_bind]
        obtain ⟨cl, e1, e2, e3⟩ := ih acc hl' ha
        refine ⟨cl, e1, e2, fun x hx => e3 x ?_⟩
        rcases hx with hx | hx
        · rcases List.mem_cons.mp hx with z | z
          · cases z; exact absurd rfl hk
          · exact .inl z
        · exact .inr hx
  obtain ⟨cl, e1, e2, e3⟩ := key scope.names [] h (fun _ _ e => by cases e)
  refine ⟨cl, ?_, fun x hx => ?_⟩
  · unfold closureFor; simp only [e1]; rfl
  · have := e3 x (.inl hx)
    obtain ⟨a, ea⟩ := Option.isSome_iff_exists.mp this
    rw [ea, e2 x a ea]
end

section
variable {M : Model} {A : Around} {E : Value → Shared → Prop} {s : Shared} {name qual : Str} {params : Arguments} {body : Expr} {scope : Scope} {env : Env} {c P : Addr} {ps : Array Value} {pos : Pos} {firstLine : Nat} {mg : Str → Option Value}
  {clos : List (Str × Addr)} {Q : Value → Shared → Prop}
theorem make_new (hcl : closureFor scope env = pure clos) (hge0 : env.globals = mainGlobals) (hg : s.heap.Ns mainGlobals mg) (hcode : env.code = .ref c) (C : CodeHd s.heap c P) (hP : s.heap.get? P = some (tabObj ps)) (ht : TriplesOk ps.toList)
    (hnf : codeAmong pos ps.toList = none) (hgP : mainGlobals ≠ P) (hb : s.heap.BuiltinsAt mg P)
    (h : ∀ c' pm ctv h' tk, Heap.ExtBut P s.heap h' → h'.CodeRec (.ref c') qual → (∀ o, h'.get? c' = some o → o.cls = .type "code") → h'.get? P = some (tabObj (ps ++ #[rawInt pos.line, rawInt pos.col, .ref c'])) →
      Q (.ref h'.objs.size) { s with heap := h'.push (kla_obj name qual params body scope clos pm c' ctv), toks := tk }) :
    wpAny M A (makeFunction name qual params (.expr body) scope env [] [] [] pos firstLine) Q E s := by
  rw [makeFunction_eq]
  simp only [List.zip_nil_right, List.filterMap_nil, List.isEmpty_nil, if_true, pure_bind]
  obtain ⟨bm, ob, hbm, hne0, _, hneP, hbo, hcls, hdict, hdata⟩ := hb
  unfold makeTail
  rw [hcl, hge0]
  refine wpAny_bind (wpAny_pure ?_)
  have cd : ∀ {h' : Heap} {c' : Addr}, (∃ P', s.heap.objs.size ≤ P' ∧ h'.IsCode c' P' #[] ∧ h'.TableAt c' P' #[]) → ∀ o, h'.get? c' = some o → o.cls = .type "code" := fun ⟨_, _, _, ⟨⟨o, _, e1, e2, _⟩, _⟩⟩ o' e => by rw [e1] at e; cases e; exact e2
  cases clos with
  | nil =>
    simp only [List.isEmpty_nil, if_true]
    refine wpAny_bind (wpAny_pure ?_)
    refine wpAny_bind (wpAny_functionCodeX hcode (C.code hP ht) (C.tab hP) hnf fun c' h' tk hx hge hlt _ hrec htb hT => ?_)
    refine wpAny_bind (wpAny_builtinsFor (hg.extBut hx hgP) hbm hne0 (hx _ _ hneP hbo) hcls hdict hdata ?_)
    refine wpAny_bind (wpAny_nsGet (hg.extBut hx hgP) ?_)
    exact wpAny_bind (wpAny_pure (wpAny_newObj_type (h c' _ .none h' tk hx hrec (cd hT) htb.2) (by size_fits)))
  | cons q r =>
    simp only [List.isEmpty_cons, Bool.false_eq_true, if_false]
    refine wpAny_bind (wpAny_newTextTuple ?_)
    refine wpAny_bind (wpAny_functionCodeX hcode ((C.keeps fun b o e => Heap.get?_push_of_some _ e).code (Heap.get?_push_of_some _ hP) ht) ((C.keeps fun b o e => Heap.get?_push_of_some _ e).tab (Heap.get?_push_of_some _ hP)) hnf fun c' h' tk hx hge hlt _ hrec htb ⟨P', hP', hT⟩ => ?_)
    have hx' : Heap.ExtBut P s.heap h' := fun b o hb' e => hx b o hb' (Heap.get?_push_of_some _ e)
    have hP'' : s.heap.objs.size ≤ P' := Nat.le_trans (by rw [Heap.size_push]; omega) hP'
    refine wpAny_bind (wpAny_builtinsFor ((hg.push _).extBut hx hgP) hbm hne0 (hx' _ _ hneP hbo) hcls hdict hdata ?_)
    refine wpAny_bind (wpAny_nsGet ((hg.push _).extBut hx hgP) ?_)
    exact wpAny_bind (wpAny_pure (wpAny_newObj_type (h c' _ _ h' tk hx' hrec (cd ⟨P', hP'', hT⟩) htb.2) (by size_fits)))
end

section
variable {F : Fn} {ρ : List (String × V)} {σ : List Ob}
theorem codeAmong_app {pos : Pos} {a b : Int} {c cv : Value} (l : List Value) (h : TriplesOk l) (e : codeAmong pos (l ++ [rawInt a, rawInt b, c]) = some cv) : codeAmong pos l = some cv ∨ cv = c := by
  fun_induction TriplesOk l with
  | case1 =>
    simp only [List.nil_append, codeAmong, rawInt] at e
    split at e
    · exact .inr (Option.some.inj e).symm
    · cases e
  | case2 i t j u x rest ih =>
    simp only [List.cons_append, codeAmong] at e ⊢
    by_cases hc : (i == (pos.line : Int) && j == (pos.col : Int)) = true
    · rw [if_pos hc] at e ⊢; exact .inl e
    · rw [if_neg hc] at e ⊢; exact ih h e
  | case3 l h1 h2 => exact h.elim
/-- the cells that a scope takes along -/
def gam (γ : List (String × Nat)) (names : List (Str × NameKind)) : List (String × Nat) := γ.filter fun p => names.contains (Str.ofString p.1, NameKind.free)
theorem gam_get {γ : List (String × Nat)} {names : List (Str × NameKind)} {x : String} {j : Nat} (h : (gam γ names).lookup x = some j) : γ.lookup x = some j ∧ (Str.ofString x, NameKind.free) ∈ names := by
  unfold gam at h
  induction γ with
  | nil => cases h
  | cons p r ih =>
    obtain ⟨y, k⟩ := p
    by_cases hy : names.contains (Str.ofString y, NameKind.free) = true
    · rw [List.filter_cons_of_pos (p := fun p : String × Nat => names.contains (Str.ofString p.1, NameKind.free)) (a := (y, k)) hy, List.lookup_cons] at h
      rw [List.lookup_cons]
      by_cases q : (x == y) = true
      · rw [q] at h ⊢
        exact ⟨h, by rw [eq_of_beq q]; simpa using hy⟩
      · have q' : (x == y) = false := by simpa using q
        rw [q'] at h ⊢
        exact ih h
    · rw [List.filter_cons_of_neg (p := fun p : String × Nat => names.contains (Str.ofString p.1, NameKind.free)) (a := (y, k)) hy] at h
      rw [List.lookup_cons]
      by_cases q : (x == y) = true
      · have := (ih h).2
        rw [eq_of_beq q] at this
        exact absurd (by simpa using this) hy
      · have q' : (x == y) = false := by simpa using q
        rw [q']
        exact ih h
def freeOK (γ : List (String × Nat)) (names : List (Str × NameKind)) : Bool := names.all fun q => q.2 != .free || γ.any fun p => Str.ofString p.1 == q.1
theorem freeOK.get {γ : List (String × Nat)} {names : List (Str × NameKind)} (h : freeOK γ names = true) : ∀ q ∈ names, q.2 = .free → ∃ x j, q.1 = Str.ofString x ∧ γ.lookup x = some j := fun q hq hk => by
  have := List.all_eq_true.mp h q hq
  rw [hk] at this
  obtain ⟨p, hp, e⟩ := List.any_eq_true.mp (by simpa using this : (γ.any fun p => Str.ofString p.1 == q.1) = true)
  have hs : (γ.lookup p.1).isSome = true := by
    cases z : γ.lookup p.1 with
    | some _ => rfl
    | none => exact absurd (List.lookup_eq_none_iff.mp z p hp) (by simp)
  obtain ⟨j, hj⟩ := Option.isSome_iff_exists.mp hs
  exact ⟨p.1, j, (eq_of_beq e).symm, hj⟩
theorem EV.lam {params : Arguments} {body : Expr} {scope : Scope} {pos : Pos} {K : V → List Ob → Prop} (hdef : ∀ env, defaultsOf params env = ([], [])) (hcd : F.cd = .ref PC) (hq : F.qual ++ "<lambda>" = lamQual)
    (hfr : freeOK F.γ scope.names = true) (hC : ∀ w : World, codeHdIn (PK w.params) PC PT = true) (h : K (.ref σ.length) (σ ++ [.clos params body scope (gam F.γ scope.names)])) : EV F ρ σ (.Lambda params body scope pos) K := by
  intro c env s φ ok fk rs rl Q E q
  have hfree := freeOK.get hfr
  have hγ := fun x j => gam_get (γ := F.γ) (names := scope.names) (x := x) (j := j)
  generalize gam F.γ scope.names = γ' at h hγ
  refine kla_eval (hdef env) ?_
  obtain ⟨ps, hP, ht, htc⟩ := rs.tab
  obtain ⟨cl, hcl, hcr⟩ := closureFor_ok (scope := scope) (env := env) fun x hx hk => by
    obtain ⟨y, j, e, e1⟩ := hfree x hx hk
    obtain ⟨a, _, e2⟩ := rl.cel y j e1
    exact ⟨a, e ▸ e2⟩
  have hg := ok.T.g.keeps rs.base
  have C : CodeHd s.heap PC PT := (codeHd_of_K ok.K (hC c.w)).keeps rs.base
  have hq' : env.qual ++ "<lambda>" = lamQual := rl.ql ▸ hq
  rw [hq']
  have hgP : mainGlobals ≠ PT := fun z => by
    obtain ⟨o, _, _, e, _⟩ := ok.T.g
    rw [z, ok.hP] at e; cases e
  have hb : s.heap.BuiltinsAt c.mg PT := by
    obtain ⟨bm, ob, b1, b2, b3, b4, b5, b6⟩ := ok.T.bmain
    refine ⟨bm, ob, b1, b2, ?_, ?_, rs.base _ _ b3, b4, b5, b6⟩
    · rintro rfl
      obtain ⟨o, es, ep, e, hd, _⟩ := ok.T.g
      rw [e] at b3; cases b3; rw [hd] at b6; cases b6
    · rintro rfl
      rw [ok.hP] at b3; cases b3
  have hcel : ∀ x j, γ'.lookup x = some j → ∃ b, φ[j]? = some b ∧ cl.lookup (Str.ofString x) = some b := fun x j e => by
    obtain ⟨e1, e2⟩ := hγ x j e
    obtain ⟨a, e3, e4⟩ := rl.cel x j e1
    exact ⟨a, e3, (hcr _ e2).trans e4⟩
  have at' : ∀ {i : Nat} {b a : Addr}, φ[i]? = some b → (φ ++ [a])[i]? = some b := fun e => by rw [List.getElem?_append_left (List.getElem?_eq_some_iff.mp e).1]; exact e
  cases hf : codeAmong pos ps.toList with
  | some cv =>
    obtain ⟨c', rfl, hrec, hcls⟩ := htc pos cv hf
    refine kla_makeFunctionHit hcl rl.gl hg (rl.cd.trans hcd) C hP ht hf hb fun ctv h' tk kk hsz => ?_
    have k2 : ∀ (o' : Obj) b o, s.heap.get? b = some o → (h'.push o').get? b = some o := fun _ b o e => Heap.get?_push_of_some _ (kk b o e)
    have hn : s.heap.get? h'.objs.size = Option.none := Heap.get?_none_of_le hsz
    obtain ⟨c₂, oc, vs, t, e2, hoc, hd, hv⟩ := id hrec
    cases e2
    obtain ⟨rs', l⟩ := rs.push (a := h'.objs.size) (o := .clos params body scope γ') (k2 _) hn ⟨_, Heap.get?_push_size _ rfl⟩
      ⟨"<lambda>", lamQual, cl, (c.mg "__name__").getD .none, c', ctv, Heap.get?_push_size _ rfl, ⟨_, oc, vs, t, rfl, k2 _ _ _ hoc, hd, hv⟩, fun o e => by rw [k2 _ _ _ hoc] at e; cases e; exact hcls _ hoc, fun x j e => (hcel x j e).imp fun b z => ⟨at' z.1, z.2⟩⟩
    exact q _ _ _ _ _ _ h rs' l (newRef rs.len)
  | none =>
    refine make_new hcl rl.gl hg (rl.cd.trans hcd) C hP ht hf hgP hb fun c' pm ctv h' tk hx hrec hcls htb => ?_
    have hf' : s.heap.get? h'.objs.size = Option.none := by
      cases z : s.heap.get? h'.objs.size with
      | none => rfl
      | some o =>
        by_cases y : h'.objs.size = PT
        · rw [← y, noneAt] at htb; cases htb
        · have := hx _ _ y z; rw [noneAt] at this; cases this
    have k2 : ∀ (o' : Obj) b o, b ≠ PT → s.heap.get? b = some o → (h'.push o').get? b = some o := fun _ b o n e => Heap.get?_push_of_some _ (hx b o n e)
    have nP : ∀ {a}, a ∈ φ → a ≠ PT := fun m => (rs.off _ m).2.1
    generalize hH : h'.push (kla_obj "<lambda>" lamQual params body scope cl pm c' ctv) = H
    have hself : H.get? h'.objs.size = some (kla_obj "<lambda>" lamQual params body scope cl pm c' ctv) := hH ▸ Heap.get?_push_size _ rfl
    have k3 : ∀ b o, b ≠ PT → s.heap.get? b = some o → H.get? b = some o := fun b o n e => hH ▸ k2 _ b o n e
    have k4 : ∀ b o, h'.get? b = some o → H.get? b = some o := fun b o e => hH ▸ Heap.get?_push_of_some _ e
    clear hH k2
    have m : Mono s.heap H := fun b o e i => k3 b o (fun z => by rw [z, hP] at e; cases e; simp [immO] at i) e
    have l : Le [] φ s.heap (φ ++ [h'.objs.size]) H := ⟨m, fun b o e _ n _ => k3 b o n e, fun b o e => if z : b = PT then ⟨_, z ▸ k4 _ _ htb⟩ else ⟨o, k3 b o z e⟩, [h'.objs.size], rfl, fun x hx => by rw [List.mem_singleton.mp hx]; exact hf'⟩
    obtain ⟨c₂, oc, vs, t, e2, hoc, hd, hv⟩ := id hrec
    cases e2
    refine q _ _ _ H _ _ h ⟨fun b o e => k3 b o (fun z => by rw [z, ok.hP] at e; cases e) (rs.base b o e), by simp [rs.len], ?_, ?_, ?_, ?_⟩ l (newRef rs.len)
    · refine List.nodup_append.mpr ⟨rs.nd, by simp, fun x hx y hy q => ?_⟩
      rw [List.mem_singleton.mp hy] at q
      obtain ⟨_, _, o, e⟩ := rs.off x hx
      rw [q, hf'] at e; cases e
    · intro i b ob e1 e2
      by_cases hi : i < φ.length
      · rw [List.getElem?_append_left hi] at e1
        rw [List.getElem?_append_left (rs.len ▸ hi)] at e2
        exact ObAt.le l (fun o e => k3 _ _ (nP (List.mem_of_getElem? e1)) e) (rs.at_ i b ob e1 e2)
      · have hi' : φ.length ≤ i := Nat.not_lt.mp hi
        rw [List.getElem?_append_right hi'] at e1
        rw [List.getElem?_append_right (rs.len ▸ hi')] at e2
        have h1 : i - φ.length = 0 := by
          have := (List.getElem?_eq_some_iff.mp e1).1
          simpa using this
        rw [h1] at e1
        rw [← rs.len, h1] at e2
        cases e1; cases e2
        exact ⟨"<lambda>", lamQual, cl, pm, c', ctv, hself, ⟨_, oc, vs, t, rfl, k4 _ _ hoc, hd, hv⟩, fun o e => by rw [k4 _ _ hoc] at e; cases e; exact hcls _ hoc, fun x j e => (hcel x j e).imp fun b z => ⟨at' z.1, z.2⟩⟩
    · intro b hb
      rcases List.mem_append.mp hb with hb | hb
      · exact ⟨(rs.off b hb).1, (rs.off b hb).2.1, (rs.off b hb).2.2.elim fun o e => ⟨o, k3 _ _ (nP hb) e⟩⟩
      · rw [List.mem_singleton.mp hb]
        exact ⟨(L_fresh rs hf').1, (L_fresh rs hf').2.1, _, hself⟩
    · refine ⟨_, k4 _ _ htb, by rw [Array.toList_append]; exact TriplesOk_snoc _ _ _ _ ht, fun pos' cv e => ?_⟩
      rw [Array.toList_append] at e
      rcases codeAmong_app _ ht e with e | rfl
      · obtain ⟨c₃, rfl, hrec3, hcls3⟩ := htc pos' cv e
        obtain ⟨c₂, oc, vs, t, e2, hoc, hd, hv⟩ := id hrec3
        cases e2
        have hk := m _ _ hoc (by simp [immO, hd, hcls3 _ hoc])
        exact ⟨_, rfl, ⟨_, oc, vs, t, rfl, hk, hd, hv⟩, fun o ho => by rw [hk] at ho; cases ho; exact hcls3 _ hoc⟩
      · exact ⟨c', rfl, ⟨_, oc, vs, t, rfl, k4 _ _ hoc, hd, hv⟩, fun o e => by rw [k4 _ _ hoc] at e; cases e; exact hcls _ hoc⟩
end
end
section

section
variable {M : Model} {A : Around} {E : Value → Shared → Prop} {s : Shared}
theorem evalArgs_any {f : Value} {l : List (Bool × Sem Value)} {Q : Args → Shared → Prop} (hl : l.any (·.1) = false) (h : wpAny M A (spliced l) (fun vs s' => Q ⟨vs, []⟩ s') E s) : wpAny M A (evalArgs f true l []) Q E s := by
  cases l with
  | nil =>
    unfold evalArgs
    show wpAny M A (spliced [] >>= _) Q E s
    exact wpAny_bind (wpAny_mono h (fun vs s' h' => wpAny_bind (wpAny_pure (wpAny_holding (wpAny_bind (wpAny_pure (wpAny_bind (wpAny_pure (wpAny_pure h')))))))) fun _ _ x => x)
  | cons p r =>
    obtain ⟨b, x⟩ := p
    obtain rfl : b = false := by cases b with | false => rfl | true => cases hl
    exact evalArgs_plain h
theorem callWith_any {pos : Pos} {f : Value} {first : List Value} {l : List (Bool × Sem Value)} {Q : Value → Shared → Prop} (hl : l.any (·.1) = false)
    (h : wpAny M A (spliced l) (fun vs s₁ => wpAny M A (keeperOf f) (fun _ s₂ => wpAny M A (call f (first ++ vs)) Q E s₂) E s₁) E s) : wpAny M A (callWith pos f first l []) Q E s := by
  unfold callWith
  have tail : ∀ {t : Sem Value} {s₁ : Shared}, wpAny M A t Q E s₁ → wpAny M A (t >>= fun r => holding [r] point >>= fun _ => pure r) Q E s₁ :=
    fun ht => wpAny_bind (wpAny_mono ht (fun r s₂ hr => wpAny_bind (wpAny_holding (wpAny_point (wpAny_pure hr)))) fun _ _ x => x)
  refine wpAny_bind (wpAny_holding (evalArgs_any hl (wpAny_mono h (fun vs s₁ h₁ => wpAny_bind (wpAny_standAt ?_)) fun _ _ x => x)))
  simp only [hl, List.any_nil, Bool.or_false]
  refine wpAny_bind (wpAny_mono h₁ (fun k s₂ h₂ => ?_) fun _ _ x => x)
  cases k with
  | frame =>
    dsimp only
    split
    · exact tail h₂
    · exact tail (by unfold callMarked; exact Calls.wpAny_keep h₂)
  | boundFrame =>
    dsimp only
    split
    · exact tail h₂
    · exact tail (by unfold callMarked; exact Calls.wpAny_keep h₂)
  | machine => exact tail h₂
  | caller => exact tail (wpAny_operating h₂)
end

section
variable {F : Fn} {ρ : List (String × V)} {σ : List Ob} {n : Nat}
/-- what a call looks at ahead -/
def KPR (n : Nat) (σ : List Ob) (f : V) : Prop := ∀ (c : Cx) (s : Shared) (φ : List Addr), c.OK n → RS c s.heap φ σ → ∀ g, VR s.heap φ f g → ∀ (Q : Keeper → Shared → Prop) (E : Value → Shared → Prop), (∀ k, Q k s) → wpAny (model PG c.w) c.A (keeperOf g) Q E s
theorem KPR.bi {i : String} : KPR n σ (.val (.builtin i)) := fun _ _ _ _ _ _ e _ _ q => by cases e; exact wpAny_pure (q _)
theorem KPR.ty {i : String} : KPR n σ (.val (.type i)) := fun _ _ _ _ _ _ e _ _ q => by cases e; exact wpAny_pure (q _)
theorem KPR.fn {f : Addr} {name qual : Str} {params : Arguments} {body : List Stmt} {scope : Scope} {C : Value → Prop} (h : FNC f name qual params body scope C) : KPR n σ (.val (.ref f)) := fun c _ _ ok rs _ e _ _ q => by
  cases e
  obtain ⟨_, _, _, _, _, _, _, _, hf, _⟩ := h c _ ok
  unfold keeperOf
  exact wpAny_bind (wpAny_load (rs.base _ _ hf) (wpAny_pure (q _)))
theorem KPR.clos {i : Nat} {params : Arguments} {body : Expr} {scope : Scope} {γ : List (String × Nat)} (he : σ[i]? = some (.clos params body scope γ)) : KPR n σ (.ref i) := fun c _ _ ok rs _ ⟨a, e, ha⟩ _ _ q => by
  subst e
  obtain ⟨_, _, _, _, _, _, hf, _⟩ := rs.at_ i a _ ha he
  unfold keeperOf
  exact wpAny_bind (wpAny_load hf (wpAny_pure (q _)))
theorem KPR.cls {C : Addr} {oc : Value} {od : Option Addr} {cd : ClassData} {osl : Array (Option Value)} (h : ∀ w : World, (PK w.params).lookup C = some ⟨oc, od, .cls cd, osl⟩) (h2 : ∀ w : World, makesIn (PK w.params) C = true) : KPR n σ (.val (.ref C)) := fun c _ _ ok rs _ e _ _ q => by
  cases e
  unfold keeperOf
  refine wpAny_bind (wpAny_load (rs.base _ _ (ok.K _ _ (h c.w))) ?_)
  have Y := makes_of (M := model PG c.w) (h := _) (fun a o e => rs.base a o (ok.K a o e)) (h2 c.w)
  dsimp only
  exact wpAny_bind (Y.call.here (wpAny_pure (q _)))

abbrev KA (n : Nat) (f : V) (K : V → List Ob → Prop) : List V → List Ob → Prop := fun xs σ => KPR n σ f ∧ CALL n σ f xs K
abbrev KF (F : Fn) (ρ : List (String × V)) (pos : Pos) (args : List Expr) (K : V → List Ob → Prop) : V → List Ob → Prop := fun f σ => EVs F ρ σ pos args (KA F.n f K)
theorem KA.bi {i : String} {xs : List V} {K : V → List Ob → Prop} (h : CALL n σ (.val (.builtin i)) xs K) : KA n (.val (.builtin i)) K xs σ := ⟨KPR.bi, h⟩
theorem KA.ty {i : String} {xs : List V} {K : V → List Ob → Prop} (h : CALL n σ (.val (.type i)) xs K) : KA n (.val (.type i)) K xs σ := ⟨KPR.ty, h⟩
theorem KA.fn {f : Addr} {name qual : Str} {params : Arguments} {body : List Stmt} {scope : Scope} {C : Value → Prop} {xs : List V} {K : V → List Ob → Prop} (e : FNC f name qual params body scope C) (h : CALL n σ (.val (.ref f)) xs K) : KA n (.val (.ref f)) K xs σ := ⟨KPR.fn e, h⟩
theorem EV.call {func : Expr} {args : List Expr} {pos : Pos} {K : V → List Ob → Prop} (h : EV F ρ σ func (KF F ρ pos args K))
    (hp : ∀ env, (backTo pos (starEach args env)).any (·.1) = false) (he : ∀ env, eval (.Call func args [] pos) env = (do callWith pos (← eval func env) [] (backTo pos (starEach args env)) (backToKw pos (keywordEach [] env)))) : EV F ρ σ (.Call func args [] pos) K :=
  fun c env s φ ok fk rs rl Q E q => Call_ (h c env s φ ok fk rs rl _ _ fun g f σ₁ h₁ tk₁ φ₁ k₁ rs₁ l₁ r₁ => callWith_any (hp env)
    (k₁ c env ⟨h₁, s.gens, s.drawn, tk₁, s.os⟩ φ₁ ok fk rs₁ (rl.le l₁) _ _ fun vs xs σ₂ h₂ tk₂ φ₂ ⟨kp, k₂⟩ rs₂ l₂ r₂ =>
      kp c ⟨h₂, s.gens, s.drawn, tk₂, s.os⟩ φ₂ ok rs₂ g (l₂.vr r₁) _ _ fun _ => k₂ c ⟨h₂, s.gens, s.drawn, tk₂, s.os⟩ φ₂ ok rs₂ g vs (l₂.vr r₁) r₂ _ _ fun a b σ₃ h₃ tk₃ φ₃ k₃ rs₃ l₃ r₃ => q _ _ _ _ _ _ k₃ rs₃ ((l₁.trans l₂).trans l₃) r₃)) (he env)

/-- what stands behind a dot, called -/
def MTH (n : Nat) (σ : List Ob) (o : V) (name : Str) (f : V) (first : List V) : Prop := ∀ (c : Cx) (s : Shared) (φ : List Addr), c.OK n → RS c s.heap φ σ → ∀ ov, VR s.heap φ o ov → ∀ (pl : Sem Bool) (Q : Value × List Value → Shared → Prop) (E : Value → Shared → Prop),
  (∀ g fs tk, VR s.heap φ f g → VRs s.heap φ first fs → Q (g, fs) { s with toks := tk }) → wpAny (model PG c.w) c.A (getMethod ov name pl) Q E s
abbrev KMA (n : Nat) (f : V) (first : List V) (K : V → List Ob → Prop) : List V → List Ob → Prop := fun xs σ => KPR n σ f ∧ CALL n σ f (first ++ xs) K
abbrev KM (F : Fn) (ρ : List (String × V)) (name : Str) (pos : Pos) (args : List Expr) (K : V → List Ob → Prop) : V → List Ob → Prop := fun x σ => ∃ f first, MTH F.n σ x name f first ∧ EVs F ρ σ pos args (KMA F.n f first K)
theorem KM.of {name : Str} {pos : Pos} {args : List Expr} {x f : V} {first : List V} {K : V → List Ob → Prop} (m : MTH F.n σ x name f first) (h : EVs F ρ σ pos args (KMA F.n f first K)) : KM F ρ name pos args K x σ := ⟨f, first, m, h⟩
theorem EV.meth {o : Expr} {name : Str} {args : List Expr} {apos pos : Pos} {K : V → List Ob → Prop} {pl : Env → Sem Bool} (h : EV F ρ σ o (KM F ρ name pos args K))
    (hp : ∀ env, (backTo pos (starEach args env)).any (·.1) = false)
    (he : ∀ env, eval (.Call (.Attribute o name apos) args [] pos) env = (do
      let ov ← eval o env
      standAt apos.atName
      let (f, first) ← holding [ov] (getMethod ov name (pl env))
      callWith pos f first (backTo pos (starEach args env)) [])) : EV F ρ σ (.Call (.Attribute o name apos) args [] pos) K :=
  fun c env s φ ok fk rs rl Q E q => MethodCall_ (h c env s φ ok fk rs rl _ _ fun ov x σ₁ h₁ tk₁ φ₁ ⟨f, first, k₀, k₁⟩ rs₁ l₁ r₁ =>
    k₀ c ⟨h₁, s.gens, s.drawn, tk₁, s.os⟩ φ₁ ok rs₁ ov r₁ _ _ _ fun g fs tk₀ rg rf => callWith_any (hp env)
    (k₁ c env ⟨h₁, s.gens, s.drawn, tk₀, s.os⟩ φ₁ ok fk rs₁ (rl.le l₁) _ _ fun vs xs σ₂ h₂ tk₂ φ₂ ⟨kp, k₂⟩ rs₂ l₂ r₂ =>
      kp c ⟨h₂, s.gens, s.drawn, tk₂, s.os⟩ φ₂ ok rs₂ g (l₂.vr rg) _ _ fun _ => k₂ c ⟨h₂, s.gens, s.drawn, tk₂, s.os⟩ φ₂ ok rs₂ g (fs ++ vs) (l₂.vr rg) (VRs.append r₂ (l₂.vrs rf)) _ _ fun a b σ₃ h₃ tk₃ φ₃ k₃ rs₃ l₃ r₃ => q _ _ _ _ _ _ k₃ rs₃ ((l₁.trans l₂).trans l₃) r₃)) (he env)
theorem MTH.append {j : Nat} {l : List V} (e : σ[j]? = some (.list l)) : MTH n σ (.ref j) "append" (.val (.builtin "list.append")) [.ref j] := fun c s φ ok rs ov ⟨a, e', ha⟩ pl Q E q => by
  subst e'
  obtain ⟨vs, k, g, r⟩ := rs.at_ j a _ ha e
  exact Calls.getMethod_list_append g rfl rfl (q _ _ s.toks rfl (.cons ⟨a, rfl, ha⟩ .nil))
theorem CALL.append {j : Nat} {l : List V} {v : V} {K : V → List Ob → Prop} (e : σ[j]? = some (.list l)) (hz : l.length ≤ 16777216) (h : K .none (σ.set j (.list (l ++ [v])))) : CALL n σ (.val (.builtin "list.append")) [.ref j, v] K := by
  rintro c s φ ok rs g vs rfl ⟨u, us, rfl, ⟨a, rfl, ha⟩, ⟨w, ws, rfl, rw, rws⟩⟩ Q E q
  cases rws
  obtain ⟨vs, k, g, r⟩ := rs.at_ j a _ ha e
  refine wpAny_list_append_plain ⟨k, g⟩ (fun h' hl hs => ?_) (by rw [List.size_toArray, r.length, sizeLine_eq]; exact hz)
  obtain ⟨k', hl⟩ := hl
  obtain ⟨rs', l'⟩ := rs.upd (o' := .list (l ++ [v])) ha hs (fun o z => by rw [g] at z; cases z; rfl) (fun l' => ⟨vs ++ [w], k', by rw [hl]; simp, VRs.snoc (l'.vrs r) (l'.vr rw)⟩) ⟨_, hl⟩
  exact q _ _ _ _ s.toks _ h rs' l' rfl

/-! instances -/
theorem getL_of {h : Heap} {φ : List Addr} {y : String} {v : V} : ∀ {es : List DictEntry} {l : List (String × V)}, es.map keyOf = l.map (fun p => some (Str.ofString p.1)) → VRs h φ (l.map (·.2)) (es.map (·.val)) → l.lookup y = some v →
    ∃ u, getL (Str.ofString y) es = some (some u) ∧ VR h φ v u
  | [], l, e, _, q => by
    cases l with
    | nil => cases q
    | cons _ _ => cases e
  | e :: es, l, he, r, q => by
    cases l with
    | nil => cases he
    | cons p l =>
      obtain ⟨x, w⟩ := p
      simp only [List.map_cons, List.cons.injEq] at he
      obtain ⟨u, us, e3, r1, r2⟩ := r
      cases e3
      obtain ⟨hsh, key, val⟩ := e
      have hk : ∃ t, key = .str (Str.ofString x) t := by
        have := he.1
        unfold keyOf at this
        split at this
        · rename_i z t ek; dsimp only at ek; subst ek; cases this; exact ⟨t, rfl⟩
        · cases this
      obtain ⟨t, rfl⟩ := hk
      rw [List.lookup_cons] at q
      unfold getL
      rw [List.find?_cons]
      by_cases hxy : y = x
      · subst hxy
        simp at q
        subst q
        refine ⟨val, ?_, r1⟩
        have : (Value.str (Str.ofString y) t).isStr (Str.ofString y) = true := by simp [Value.isStr]
        simp [this]
      · have h1 : (y == x) = false := by simpa using hxy
        rw [h1] at q
        have : (Value.str (Str.ofString x) t).isStr (Str.ofString y) = false := by simpa [Value.isStr] using fun z => hxy (ofString_inj z).symm
        simp only [this]
        obtain ⟨u, e1, e2⟩ := getL_of he.2 r2 q
        refine ⟨u, ?_, e2⟩
        unfold getL at e1
        split at e1
        · rename_i e' ee; rw [ee]; exact e1
        · split at e1 <;> cases e1
/-- the facts of a plain class -/
structure ClsOK (C : Addr) : Prop where
  ga : ∀ w : World, findIn (PK w.params) (.ref C) "__getattribute__" = some (some (.builtin "object.__getattribute__"))
  gk : ∀ w : World, findIn (PK w.params) (.ref C) "__getattr__" = some none
  sa : ∀ w : World, findIn (PK w.params) (.ref C) "__setattr__" = some (some (.builtin "object.__setattr__"))
  po : ∀ w : World, plainOver (PK w.params) C = true
  hd : ∀ w : World, hasDictIn (PK w.params) C = true
  mi : ∀ w : World, makesIn (PK w.params) C = true
theorem MTH.inst {i j k : Nat} {C : Addr} {l : List (String × V)} {y : String} (hC : ClsOK C) (e : σ[i]? = some (.inst C j)) (e' : σ[j]? = some (.ns l)) (h : l.lookup y = some (.ref k)) (hf : ∀ w : World, findIn (PK w.params) (.ref C) (Str.ofString y) = some none) :
    MTH n σ (.ref i) (Str.ofString y) (.ref k) [] := by
  rintro c s φ ok rs ov ⟨a, rfl, ha⟩ pl Q E q
  obtain ⟨d, hi, hd⟩ := rs.at_ i a _ ha e
  obtain ⟨es, m, hn, hk, hr⟩ := rs.at_ j d _ hd e'
  obtain ⟨u, e1, e2⟩ := getL_of hk hr h
  have X : (PK c.w.params).In s.heap := fun a o e => rs.base a o (ok.K a o e)
  have I : InstAt s.heap a (instObj C d) C (some (dictOf es m)) := ⟨hi, rfl, rfl, hn⟩
  refine method_usual X I (hC.ga _) (hC.gk _) (hf _) rfl (get_value X I (hC.ga _) (findObj_own (hC.hd _) (hf _) rfl e1) (by obtain ⟨b, rfl, _⟩ := e2; rfl) ?_)
  exact q _ _ (s.toks + 1) e2 .nil
def ATT (n : Nat) (σ : List Ob) (x : V) (name : Str) (v : V) (K : List Ob → Prop) : Prop :=
  ∀ (c : Cx) (s : Shared) (φ : List Addr), c.OK n → RS c s.heap φ σ → ∀ a u : Value, VR s.heap φ x a → VR s.heap φ v u → ∀ (Q : Unit → Shared → Prop) (E : Value → Shared → Prop),
    (∀ σ' h' tk, K σ' → RS c h' φ σ' → Le [] φ s.heap φ h' → Q () { s with heap := h', toks := tk }) → wpAny (model PG c.w) c.A (setAttr a name u) Q E s
theorem putL_new {name : Str} {hsh : Int} {key v : Value} : ∀ {es : List DictEntry}, es.any (·.key.isStr name) = false → putL name hsh key v es = es ++ [⟨hsh, key, v⟩]
  | [], _ => rfl
  | e :: r, h => by
    rw [List.any_cons, Bool.or_eq_false_iff] at h
    unfold putL
    rw [if_neg (by rw [h.1]; decide), putL_new h.2]; rfl
theorem ATT.inst {i j : Nat} {C : Addr} {l : List (String × V)} {y : String} {v : V} {K : List Ob → Prop} (hC : ClsOK C) (e : σ[i]? = some (.inst C j)) (e' : σ[j]? = some (.ns l)) (hy : l.all (fun p => p.1 != y) = true) (hz : l.length ≤ 100) (ht : ∀ w : World, takerIn (PK w.params) C (Str.ofString y) = some none)
    (h : K (σ.set j (.ns (l ++ [(y, v)])))) : ATT n σ (.ref i) (Str.ofString y) v K := by
  rintro c s φ ok rs ov u ⟨a, rfl, ha⟩ ru Q E q
  obtain ⟨d, hi, hd⟩ := rs.at_ i a _ ha e
  obtain ⟨es, m, D, hk, hr⟩ := rs.at_ j d _ hd e'
  have X : (PK c.w.params).In s.heap := fun a o e => rs.base a o (ok.K a o e)
  have I : InstAt s.heap a (instObj C d) C (some (dictOf es m)) := ⟨hi, rfl, rfl, D⟩
  have hlen : es.length = l.length := by have := congrArg List.length hk; simpa using this
  have hstr : ∀ x ∈ es, ∃ z ∈ l, ∃ t, x.key = .str (Str.ofString z.1) t := fun x hx => by
    have : keyOf x ∈ l.map (fun p => some (Str.ofString p.1)) := hk ▸ List.mem_map_of_mem hx
    obtain ⟨z, hz, ez⟩ := List.mem_map.mp this
    unfold keyOf at ez
    split at ez
    · rename_i w t ek; cases ez; exact ⟨z, hz, t, ek⟩
    · cases ez
  have hno : es.any (·.key.isStr (Str.ofString y)) = false := by
    rw [List.any_eq_false]
    intro x hx
    obtain ⟨z, hz, t, ek⟩ := hstr x hx
    rw [ek]
    have := List.all_eq_true.mp hy z hz
    simpa [Value.isStr] using fun q => (bne_iff_ne.mp this) (ofString_inj q)
  have hrk : es.any (·.refKey) = false := by
    rw [List.any_eq_false]
    intro x hx
    obtain ⟨z, hz, t, ek⟩ := hstr x hx
    simp [DictEntry.refKey, ek]
  refine set_plain X I (hC.sa _) (osa_open (s := { s with toks := s.toks + 1 }) X I (hC.po _) (ht _) fun b => ?_)
  obtain ⟨cd, hc, hd'⟩ := any_some (hC.hd c.w)
  generalize hkh : PyData.keyHash c.w.params (Str.ofString y) = kh
  have eo : Obj.putName (Str.ofString y) kh (.str (Str.ofString y) (s.toks + 1)) u (dictOf es m) = dictOf (es ++ [⟨kh, .str (Str.ofString y) (s.toks + 1), u⟩]) (putN (Str.ofString y) es m) := by rw [putName_dict, putL_new hno]
  have D' := Heap.get?_update_self (Obj.putName (Str.ofString y) kh (.str (Str.ofString y) (s.toks + 1)) u) D (by rw [eo]; rfl)
  rw [eo] at D'
  refine wpAny_bind (wpAny_pure (wpAny_bind (wpAny_bind (wpAny_loadPart hi (wpAny_bind (Looks.here (s := { s with toks := s.toks + 1 }) (looks_clsIn X hc) ?_))))))
  rw [hd']
  refine wpAny_pure (a := some d) (wpAny_bind (wpAny_pure (wpAny_bind ?_)))
  unfold nsSet
  refine wpAny_bind (wpAny_bind (wpAny_askSetting (wpAny_pure (wpAny_bind (wpAny_mkText (wpAny_bind (wpAny_loadPart D ?_)))))))
  have cc : (!es.toArray.any (·.key.isStr (Str.ofString y)) && es.toArray.any (·.refKey)) = false := by rw [List.any_toArray, List.any_toArray, hrk, Bool.and_false]
  dsimp only
  rw [aRefKeyMayBeTheName_at, cc]
  refine wpAny_updatePart D ?_
  show wpAny _ _ (lookBehind d (some (.str (Str.ofString y) 0)) >>= fun _ => ret .none) _ _ _
  have hkh' : PyData.keyHash (model PG c.w).w.params (Str.ofString y) = kh := hkh
  refine wpAny_bind (wpAny_lookBehind (o := dictOf (es ++ [⟨kh, .str (Str.ofString y) (s.toks + 1), u⟩]) (putN (Str.ofString y) es m)) ?_ (pastItsLine_dict (by rw [List.size_toArray, sizeLine_eq]; simp [hlen]; omega)) ?_)
  · subst hkh; exact D'
  obtain ⟨rs', l'⟩ := rs.upd (o' := .ns (l ++ [(y, v)])) hd (Heap.SameBut.update ..) (fun o z => by rw [D] at z; cases z; rfl) (fun l' => ⟨_, _, D', by simp [hk, keyOf], by simpa using VRs.snoc (l'.vrs hr) (l'.vr ru)⟩) ⟨_, D'⟩
  subst hkh
  exact wpAny_pure (q _ _ _ h rs' l')
abbrev KAt (F : Fn) (ρ : List (String × V)) (x : Str) (v : V) (K : Fl → List (String × V) → List Ob → Prop) : V → List Ob → Prop := fun a σ => ATT F.n σ a x v (K .next ρ)
abbrev KSAt (F : Fn) (ρ : List (String × V)) (o : Expr) (x : Str) (K : Fl → List (String × V) → List Ob → Prop) : V → List Ob → Prop := fun v σ => EV F ρ σ o (KAt F ρ x v K)
theorem EX1.setA {o e : Expr} {x : Str} {p pos : Pos} {K : Fl → List (String × V) → List Ob → Prop} (h : EV F ρ σ e (KSAt F ρ o x K))
    (hs : ∀ env, swapsWith e (some (.Attribute o x p)) pos.line env = pure false) : EX1 F ρ σ (.Assign [.Attribute o x p] e pos) K :=
  fun c env s φ ok fk rs rl Q E q => plainObj_wpAny_Assign_Attribute (h c env s φ ok fk rs rl _ _ fun u v σ₁ h₁ tk₁ φ₁ k₁ rs₁ l₁ r₁ =>
    k₁ c env ⟨h₁, s.gens, s.drawn, tk₁, s.os⟩ φ₁ ok fk rs₁ (rl.le l₁) _ _ fun x a σ₂ h₂ tk₂ φ₂ k₂ rs₂ l₂ r₂ =>
    k₂ c ⟨h₂, s.gens, s.drawn, tk₂, s.os⟩ φ₂ ok rs₂ _ _ r₂ (l₂.vr r₁) _ _ fun σ₄ h₄ tk₄ k₄ rs₄ l₄ => q _ .next _ _ _ _ _ k₄ rs₄ (rl.le ((l₁.trans l₂).trans l₄)) ((l₁.trans l₂).trans l₄).weak rfl) (hs env)
theorem CALL.make {C fI : Addr} {xs : List V} {K : V → List Ob → Prop} (hC : ClsOK C) (hi : ∀ w : World, findIn (PK w.params) (.ref C) "__init__" = some (some (.ref fI))) (hf : ∀ w : World, typeIn (PK w.params) (.ref fI) = some (.type "function"))
    (h : CODE n (σ ++ [.ns [], .inst C σ.length]) (.val (.ref fI)) (.ref (σ.length + 1) :: xs) fun v σ' => v = .none ∧ K (.ref (σ.length + 1)) σ') : CALL (n + 1) σ (.val (.ref C)) xs K := by
  rintro c s φ ok rs g vs rfl r Q E q
  have X : (PK c.w.params).In s.heap := fun a o e => rs.base a o (ok.K a o e)
  refine wpAny_call (make_core (makes_of X (hC.mi _)) (looks_findIn X (hi _)) (fun self => bind_fn X self (hf _)) (.inl rfl) ?_)
  have hs : ∀ {o : Obj}, (s.heap.push o).objs.size = s.heap.objs.size + 1 := Heap.size_push ..
  have kk : ∀ b o, s.heap.get? b = some o → ((s.heap.push emptyDict).push (instObj C s.heap.objs.size)).get? b = some o := fun b o e => Heap.get?_push_of_some _ (Heap.get?_push_of_some _ e)
  have g1 : ((s.heap.push emptyDict).push (instObj C s.heap.objs.size)).get? s.heap.objs.size = some (dictOf [] 0) := Heap.get?_push_of_some _ (Heap.get?_push_size _ rfl)
  have g2 : ((s.heap.push emptyDict).push (instObj C s.heap.objs.size)).get? (s.heap.objs.size + 1) = some (instObj C s.heap.objs.size) := by rw [← hs (o := emptyDict)]; exact Heap.get?_push_size _ rfl
  obtain ⟨rs', l⟩ := rs.pushes (as := [s.heap.objs.size, s.heap.objs.size + 1]) (os := [.ns [], .inst C σ.length]) kk rfl (by simp) (fun a ha => by
      rcases List.mem_cons.mp ha with rfl | ha
      · exact ⟨noneAt, _, g1⟩
      · rw [List.mem_singleton.mp ha]; exact ⟨Heap.get?_none_of_le (by omega), _, g2⟩) (fun i a o ea eo => by
      match i with
      | 0 => cases ea; cases eo; exact ⟨[], 0, g1, rfl, .nil⟩
      | 1 => cases ea; cases eo; exact ⟨_, g2, by rw [← rs.len]; simp⟩)
  have okA : ({ c with A := c.A.under (.builtin "type.__call__" ⟨.ref C :: vs, []⟩) } : Cx).OK n :=
    ⟨ok.K, ok.T, ok.hh, by have := ok.dp; show (c.A.under _).depth + n < _; rw [depth_under_make]; omega, by have := ok.un; show (c.A.under _).units + _ < _; rw [units_under_make]; omega, ok.hP, ok.sy, ok.fn⟩
  refine h { c with A := c.A.under (.builtin "type.__call__" ⟨.ref C :: vs, []⟩) } ⟨(s.heap.push emptyDict).push (instObj C s.heap.objs.size), s.gens, s.drawn, s.toks, s.os⟩ _ okA (RSc rs') (.ref fI) (.ref (s.heap.objs.size + 1) :: vs) rfl
    (.cons ⟨_, rfl, by rw [← rs.len]; simp⟩ (l.vrs r)) _ fun a b σ' h' tk φ' ⟨k1, k2⟩ rs₂ l₂ r₂ => ?_
  subst k1
  cases r₂
  exact ⟨rfl, q _ _ _ _ _ _ k2 (RSd rs₂) (l.trans l₂) ⟨_, rfl, l₂.at (by rw [← rs.len]; simp)⟩⟩
end
end
section

section
variable {F : Fn} {ρ : List (String × V)} {σ : List Ob}
theorem Le.out {X φ φ' : List Addr} {h h' : Heap} {I : Addr} (l : Le X φ h φ' h') (n : I ∉ φ) (a : ∃ o, h.get? I = some o) : I ∉ φ' := by
  obtain ⟨ψ, rfl, f⟩ := l.pre
  intro q
  rcases List.mem_append.mp q with q | q
  · exact n q
  · obtain ⟨o, e⟩ := a
    rw [f _ q] at e; cases e
theorem Le.old {X φ φ' : List Addr} {h h' : Heap} {I : Addr} (l : Le X φ h φ' h') (n : h'.get? I = none) : h.get? I = none := by
  cases q : h.get? I with
  | none => rfl
  | some o => obtain ⟨o', e⟩ := l.live _ _ q; rw [n] at e; cases e

/-- fewer names -/
def Fewer : List (String × V) → List (String × V) → Prop
  | [], _ => True
  | (x, v) :: r, ρ => ρ.lookup x = some v ∧ Fewer r ρ
theorem Fewer.get {ρ : List (String × V)} {x : String} {v : V} : ∀ {r : List (String × V)}, Fewer r ρ → r.lookup x = some v → ρ.lookup x = some v
  | [], _, e => by cases e
  | (y, u) :: r, ⟨h1, h2⟩, e => by
    rw [List.lookup_cons] at e
    by_cases q : (x == y) = true
    · rw [q] at e; cases e; rw [eq_of_beq q]; exact h1
    · have q' : (x == y) = false := by simpa using q
      rw [q'] at e; exact Fewer.get h2 e
theorem RL.sub {c : Cx} {env : Env} {h : Heap} {φ : List Addr} {r : List (String × V)} (rl : RL c env F ρ h φ) (s : Fewer r ρ) : RL c env F r h φ :=
  ⟨rl.sc, rl.gl, rl.bl, rl.cd, rl.ql, rl.L0, rl.LP, rl.Lφ, let ⟨m, hm, hr⟩ := rl.loc; ⟨m, hm, fun x v e => hr x v (s.get e)⟩, rl.cel⟩
/-- what follows a turn's block -/
def FK (R : List (String × V) → List Ob → Prop) (K : Fl → List (String × V) → List Ob → Prop) (fl : Fl) (ρ : List (String × V)) (σ : List Ob) : Prop := match fl with
  | .next => ∃ r, Fewer r ρ ∧ R r σ
  | .cont => ∃ r, Fewer r ρ ∧ R r σ
  | .brk => K .next ρ σ
  | .ret v => K (.ret v) ρ σ
section
variable {R : List (String × V) → List Ob → Prop} {K : Fl → List (String × V) → List Ob → Prop}
theorem FK.next {r : List (String × V)} (f : Fewer r ρ) (h : R r σ) : FK R K .next ρ σ := ⟨r, f, h⟩
theorem FK.brk (h : K .next ρ σ) : FK R K .brk ρ σ := h
theorem FK.ret {v : V} (h : K (.ret v) ρ σ) : FK R K (.ret v) ρ σ := h
end
/-! for -/
abbrev KFb (F : Fn) (body : List Stmt) (K : Fl → List (String × V) → List Ob → Prop) : List (String × V) → List Ob → Prop := fun ρ σ => EX F ρ σ body K
def FORS (F : Fn) (target : Expr) (body : List Stmt) (G : List Ob → Prop) (K : Fl → List (String × V) → List Ob → Prop) : List V → List (String × V) → List Ob → Prop
  | [], ρ, σ => G σ ∧ K .next ρ σ
  | x :: xs, ρ, σ => G σ ∧ ASG F ρ σ target x (KFb F body (FK (FORS F target body G K xs) K))
abbrev KFor (F : Fn) (ρ : List (String × V)) (target : Expr) (body : List Stmt) (K : Fl → List (String × V) → List Ob → Prop) : V → List Ob → Prop := fun v σ => ∃ xs tl G, SRC F.n σ v xs tl G ∧ ((∀ it v, letOwnedTupleGo target it v = pure ()) ∨ tl = true) ∧ ∃ r, Fewer r ρ ∧ FORS F target body G K xs r σ
theorem KFor.of {target : Expr} {body : List Stmt} {K : Fl → List (String × V) → List Ob → Prop} {v : V} {xs : List V} {tl : Bool} {G : List Ob → Prop} (s : SRC F.n σ v xs tl G) (t : (∀ it v, letOwnedTupleGo target it v = pure ()) ∨ tl = true) (r : List (String × V)) (f : Fewer r ρ) (h : FORS F target body G K xs r σ) : KFor F ρ target body K v σ := ⟨xs, tl, G, s, t, r, f, h⟩
theorem EX1.for {target iter : Expr} {body : List Stmt} {pos : Pos} {K : Fl → List (String × V) → List Ob → Prop}
    (h : EV F ρ σ iter (KFor F ρ target body K)) (hs : ∀ env x, foldedSetIterable iter env x = pure x) :
    EX1 F ρ σ (.For target iter body [] pos) K := by
  intro c env s φ ok fk rs rl Q E q
  refine wpAny_For (h c env s φ ok fk rs rl _ _ fun u v σ₁ h₁ tk₁ φ₁ ⟨xs, tl, G, hsrc, htl, r₀, hr₀, hf⟩ rs₁ l₁ r₁ => hsrc c ⟨h₁, s.gens, s.drawn, tk₁, s.os⟩ φ₁ ok rs₁ u r₁ _ _ fun I h₂ St it st0 kk hI => ?_) (hs env)
  have hI0 : s.heap.get? I = Option.none := l₁.old hI
  obtain ⟨f1, f2, f3⟩ := L_fresh rs₁ hI
  have rl₁ := rl.le l₁
  have hLI : env.locals ≠ I := by
    rintro rfl
    obtain ⟨_, ⟨o, _, _, e, _⟩, _⟩ := rl₁.loc
    rw [hI] at e; cases e
  have l₂ : Le [] φ₁ h₁ φ₁ h₂ := .of_keep kk
  refine codeAny_forLoop_any (fun n s' => ∃ k ρ' σ' h' tk φ', s' = ⟨h', s.gens, s.drawn, tk, s.os⟩ ∧ n + k = xs.length ∧ FORS F target body G K (xs.drop k) ρ' σ' ∧ RS c h' φ' σ' ∧ RL c env F ρ' h' φ' ∧ Le [env.locals] φ s.heap φ' h' ∧ St k h' φ' ∧ I ∉ φ')
    (fun n s' hI' => ?_) xs.length ⟨0, r₀, σ₁, h₂, tk₁, φ₁, rfl, rfl, hf, rs₁.keep kk, (rl₁.le l₂).sub hr₀, (l₁.trans l₂).weak, st0, f3⟩
  obtain ⟨k, ρ', σ', h', tk, φ', rfl, hn, hfor, rs', rl', l', st, fI⟩ := hI'
  have ob := it.ob st
  cases hx : xs.drop k with
  | nil =>
    rw [hx] at hfor
    obtain ⟨hG, hK⟩ := hfor
    have hk : k = xs.length := by have := congrArg List.length hx; simp at this; omega
    subst hk
    refine it.done st rs' hG fun h'' tk' kI => wpAny_execs_nil ?_
    have m := Mono.but kI ob
    exact q _ .next _ _ _ _ _ hK (rs'.but kI m fI f1 f2) (rl'.but kI m hLI) (l'.but kI hI0) rfl
  | cons x rest =>
    rw [hx] at hfor
    obtain ⟨hG, hA⟩ := hfor
    have hk : k < xs.length := by have := congrArg List.length hx; simp at this; omega
    have hxk : xs[k]? = some x := by have := congrArg (·[0]?) hx; simpa using this
    have hrest : xs.drop (k + 1) = rest := by have := congrArg (List.drop 1) hx; simpa [List.drop_drop, Nat.add_comm] using this
    refine it.item hxk st rs' hG fun u h'' tk' ru st' kI => ?_
    have m := Mono.but kI ob
    have rs'' := rs'.but kI m fI f1 f2
    have rl'' := rl'.but kI m hLI
    have l'' := l'.but kI hI0
    refine it.go st' htl ?_
    have ob' := it.ob st'
    refine hA c env ⟨h'', s.gens, s.drawn, tk', s.os⟩ φ' ok fk rs'' rl'' u (ru.mono0 m) _ _ fun ρ₁ σ₂ h₃ tk₃ φ₃ hE rs₃ rl₃ l₃ => ?_
    have kI₃ : ∀ o, h''.get? I = some o → h₃.get? I = some o := fun o e => l₃.keep I o e fI f2 (fun z => hLI (List.mem_singleton.mp z).symm)
    have st₃ := it.le st' l₃ kI₃
    have fI₃ := l₃.out fI (ob'.imp fun o z => z.1)
    have ob₃ := it.ob st₃
    refine hE c env ⟨h₃, s.gens, s.drawn, tk₃, s.os⟩ φ₃ ok fk rs₃ rl₃ _ _ fun f fl ρ₄ σ₄ h₄ tk₄ φ₄ hk₄ rs₄ rl₄ l₄ r₄ => ?_
    have st₄ := it.le st₃ l₄ fun o e => l₄.keep I o e fI₃ f2 (fun z => hLI (List.mem_singleton.mp z).symm)
    have fI₄ := l₄.out fI₃ (ob₃.imp fun o z => z.1)
    have lt := (l''.trans l₃).trans l₄
    have again : (∃ r, Fewer r ρ₄ ∧ FORS F target body G K rest r σ₄) → ∃ m, m < n ∧ ∃ k ρ' σ' h' tk φ', (⟨h₄, s.gens, s.drawn, tk₄, s.os⟩ : Shared) = ⟨h', s.gens, s.drawn, tk, s.os⟩ ∧ m + k = xs.length ∧ FORS F target body G K (xs.drop k) ρ' σ' ∧ RS c h' φ' σ' ∧ RL c env F ρ' h' φ' ∧ Le [env.locals] φ s.heap φ' h' ∧ St k h' φ' ∧ I ∉ φ' :=
      fun ⟨r, hr, z⟩ => ⟨n - 1, by omega, k + 1, r, σ₄, h₄, tk₄, φ₄, rfl, by omega, hrest ▸ z, rs₄, rl₄.sub hr, lt, st₄, fI₄⟩
    cases fl with
    | next => cases r₄; exact again hk₄
    | cont => cases r₄; exact again hk₄
    | brk => cases r₄; exact q _ .next _ _ _ _ _ hk₄ rs₄ rl₄ lt rfl
    | ret v => obtain ⟨u, rfl, r⟩ := r₄; exact q _ (.ret v) _ _ _ _ _ hk₄ rs₄ rl₄ lt ⟨u, rfl, r⟩

/-! while -/
abbrev KWh (F : Fn) (ρ : List (String × V)) (body : List Stmt) (R : List (String × V) → List Ob → Prop) (K : Fl → List (String × V) → List Ob → Prop) : Bool → List Ob → Prop := fun b σ => (b = false → K .next ρ σ) ∧ (b = true → EX F ρ σ body (FK R K))
def WHL (F : Fn) (test : Expr) (body : List Stmt) (K : Fl → List (String × V) → List Ob → Prop) : Nat → List (String × V) → List Ob → Prop
  | 0, _, _ => False
  | n + 1, ρ, σ => TST F ρ σ test (KWh F ρ body (WHL F test body K n) K)
theorem WHL.mk {test : Expr} {body : List Stmt} {K : Fl → List (String × V) → List Ob → Prop} {n : Nat} (h : TST F ρ σ test (KWh F ρ body (WHL F test body K n) K)) : WHL F test body K (n + 1) ρ σ := h
theorem KWh.no {body : List Stmt} {R : List (String × V) → List Ob → Prop} {K : Fl → List (String × V) → List Ob → Prop} {b : Bool} (e : b = false) (h : K .next ρ σ) : KWh F ρ body R K b σ := ⟨fun _ => h, no_ft e⟩
theorem KWh.yes {body : List Stmt} {R : List (String × V) → List Ob → Prop} {K : Fl → List (String × V) → List Ob → Prop} {b : Bool} (e : b = true) (h : EX F ρ σ body (FK R K)) : KWh F ρ body R K b σ := ⟨fun z => no_ft z e, fun _ => h⟩
theorem exec_While' {M : Model} {A : Around} {E : Value → Shared → Prop} {s : Shared} {env : Env} {test : Expr} {body : List Stmt} {pos : Pos} {Q : Flow → Shared → Prop}
    (h : codeAny M A (.whileLoop test body [] env) (fun r s' => match r with | .ok f => Q f s' | .error e => cameBackBy M A env E e s') s) : wpAny M A (exec (.While test body [] pos) env) Q E s :=
  wpAny_While h
theorem EX1.while {test : Expr} {body : List Stmt} {pos : Pos} {K : Fl → List (String × V) → List Ob → Prop} (h : ∃ n r, Fewer r ρ ∧ WHL F test body K n r σ) : EX1 F ρ σ (.While test body [] pos) K := by
  intro c env s φ ok fk rs rl Q E q
  obtain ⟨n, r, hr, hw⟩ := h
  refine exec_While' (codeAny_whileLoop (fun n s' => ∃ ρ' σ' h' tk φ', s' = ⟨h', s.gens, s.drawn, tk, s.os⟩ ∧ WHL F test body K n ρ' σ' ∧ RS c h' φ' σ' ∧ RL c env F ρ' h' φ' ∧ Le [env.locals] φ s.heap φ' h') (fun n s' hI => ?_) n ⟨r, σ, s.heap, s.toks, φ, rfl, hw, rs, rl.sub hr, .refl⟩)
  obtain ⟨ρ', σ', h', tk, φ', rfl, hw, rs', rl', l'⟩ := hI
  cases n with
  | zero => exact hw.elim
  | succ n =>
    refine hw c env ⟨h', s.gens, s.drawn, tk, s.os⟩ φ' ok fk rs' rl' _ _ fun x b σ₁ h₁ tk₁ φ₁ ⟨k0, k1⟩ rs₁ l₁ r₁ => ?_
    subst r₁
    have lt := l'.trans l₁.weak
    cases x with
    | false => exact wpAny_execs_nil (q _ .next _ _ _ _ _ (k0 rfl) rs₁ (rl'.le l₁) lt rfl)
    | true =>
      refine k1 rfl c env ⟨h₁, s.gens, s.drawn, tk₁, s.os⟩ φ₁ ok fk rs₁ (rl'.le l₁) _ _ fun f fl ρ₄ σ₄ h₄ tk₄ φ₄ hk₄ rs₄ rl₄ l₄ r₄ => ?_
      have lt₄ := lt.trans l₄
      cases fl with
      | next => cases r₄; obtain ⟨r, hr, hk₄⟩ := hk₄; exact ⟨n, Nat.lt_succ_self _, _, _, _, _, _, rfl, hk₄, rs₄, rl₄.sub hr, lt₄⟩
      | cont => cases r₄; obtain ⟨r, hr, hk₄⟩ := hk₄; exact ⟨n, Nat.lt_succ_self _, _, _, _, _, _, rfl, hk₄, rs₄, rl₄.sub hr, lt₄⟩
      | brk => cases r₄; exact q _ .next _ _ _ _ _ hk₄ rs₄ rl₄ lt₄ rfl
      | ret v => obtain ⟨u, rfl, r⟩ := r₄; exact q _ (.ret v) _ _ _ _ _ hk₄ rs₄ rl₄ lt₄ ⟨u, rfl, r⟩

/-! a list made by a comprehension -/
theorem compLoop_any {prog : Program} {w : World} {A : Around} {R : Result → Shared → Prop} {s : Shared} {elt target iter : Expr} {scope : Scope} {pos : Pos} {it acc : Value} {env : Env} (I : Nat → Shared → Prop)
    (turn : ∀ n s, I n s → wpAny (model prog w) A (pyNext it) (fun r s₁ => match r with
      | none => R (.ok .next) s₁
      | some v => wpAny (model prog w) A (letOwnedTupleGo target it v) (fun _ s₁' => wpAny (model prog w) A (assign target env v) (fun _ s₂ =>
          wpAny (model prog w) A (eval elt env) (fun x s₄ =>
              wpAny (model prog w) A (call (.builtin "list.append") [acc, x]) (fun _ s₅ => ∃ m, m < n ∧ I m s₅) (notedBy (model prog w) A env fun e s' => R (.error e) s') s₄) (notedBy (model prog w) A env fun e s' => R (.error e) s') s₂)
            (notedBy (model prog w) A env fun e s' => R (.error e) s') s₁') (notedBy (model prog w) A env fun e s' => R (.error e) s') s₁) (notedBy (model prog w) A env fun e s' => R (.error e) s') s)
    (n : Nat) (h : I n s) : codeAny (model prog w) A (.compLoop (.ListComp elt [⟨target, iter, [], 0⟩] scope pos) 0 it acc env) R s := by
  refine codeAny_loop rfl I (fun n s hI => ?_) n h
  show wpAny _ A ((compTurn (.ListComp elt [⟨target, iter, [], 0⟩] scope pos) 0 it acc env).onRaise (fun x => do noteFrame x env; theTreesLotGoes x)) _ _ s
  refine wpAny_noted ?_
  rw [compTurn_list]
  refine wpAny_bind (wpAny_standAt (wpAny_bind (wpAny_mono (turn n s hI) (fun r s₁ h₁ => ?_) fun _ _ h' => h')))
  cases r with
  | none => exact wpAny_pure h₁
  | some v =>
    refine wpAny_bind (wpAny_mono h₁ (fun _ s₁' h₁' => wpAny_bind (wpAny_mono h₁' (fun _ s₂ h₂ => wpAny_bind (wpAny_tests_nil ?_)) fun _ _ h' => h')) fun _ _ h' => h')
    exact wpAny_bind (wpAny_bind (wpAny_mono h₂ (fun x s₄ h₄ => wpAny_bind (wpAny_mono h₄ (fun _ s₅ h₅ => wpAny_pure (wpAny_pure ⟨rfl, h₅⟩)) fun _ _ h' => h')) fun _ _ h' => h'))
def relF (sc scope : Scope) : Scope := { scope with names := scope.names.map fun (n, k) => if (k == .free && sc.kind == .function && sc.names.lookup n == some .cell) then (n, .cell) else (n, k) }
/-- the frame of a comprehension -/
abbrev CF (F : Fn) (scope : Scope) (γ : List (String × Nat)) : Fn := ⟨F.n, relF F.sc scope, γ, F.cd, F.qual⟩
abbrev KCa (acc : List V) (R : List V → List Ob → Prop) : V → List Ob → Prop := fun v σ => acc.length ≤ 1000 ∧ R (acc ++ [v]) σ
abbrev KCe (F : Fn) (elt : Expr) (K : V → List Ob → Prop) : List (String × V) → List Ob → Prop := fun ρ σ => EV F ρ σ elt K
def CMP (F : Fn) (target elt : Expr) (G : List Ob → Prop) (K : List V → List Ob → Prop) : List V → List V → List Ob → Prop
  | [], acc, σ => G σ ∧ K acc σ
  | x :: xs, acc, σ => G σ ∧ ASG F [] σ target x (KCe F elt (KCa acc (CMP F target elt G K xs)))
structure CompOK (F : Fn) (scope : Scope) (γ' : List (String × Nat)) : Prop where
  cell : ∀ y ∈ scope.names, y.2 ≠ .cell
  kind : scope.kind = .function
  names : ∀ y ∈ scope.names, y.2 = .local → scope.names.lookup y.1 = some .local
  γ : ∀ x j, γ'.lookup x = some j → F.γ.lookup x = some j ∧ (Str.ofString x, NameKind.free) ∈ scope.names
  free : ∀ q ∈ scope.names, q.2 = .free → ∃ x j, q.1 = Str.ofString x ∧ F.γ.lookup x = some j
theorem CompOK.of {scope : Scope} (h1 : (scope.names.all fun y => y.2 != .cell) = true) (h2 : scope.kind = .function) (h3 : (scope.names.all fun y => y.2 != .local || scope.names.lookup y.1 == some .local) = true) (h4 : freeOK F.γ scope.names = true) : CompOK F scope (gam F.γ scope.names) :=
  ⟨all_ne h1, h2, fun y hy e => by have := List.all_eq_true.mp h3 y hy; rw [e] at this; simpa using this, fun _ _ => gam_get, freeOK.get h4⟩
theorem comp_core {c : Cx} {env : Env} {s : Shared} {φ : List Addr} {elt target iter : Expr} {scope : Scope} {pos : Pos} {γ' : List (String × Nat)} {K : List V → List Ob → Prop} {Q : Value → Shared → Prop} {E : Value → Shared → Prop} {use : Option (Value → Sem Unit)} {p' : Pos}
    (ok : c.OK F.n) (fk : F.sc.kind = .function) (rs : RS c s.heap φ σ) (rl : RL c env F ρ s.heap φ) (O : CompOK F scope γ') (hs : ∀ x, foldedSetIterable iter env x = pure x)
    (h : EV F ρ σ iter fun v σ₁ => ∃ xs tl G, SRC F.n σ₁ v xs tl G ∧ ((∀ it v, letOwnedTupleGo target it v = pure ()) ∨ tl = true) ∧ CMP (CF F scope γ') target elt G K xs [] σ₁)
    (q : ∀ D C vs σ' h' tk φ' m, K vs σ' → RS c h' (φ' ++ [D]) (σ' ++ [.list vs]) → Le [] φ s.heap (φ' ++ [D]) h' → φ'.length = σ'.length → h'.Ns C m → C ∉ φ' ++ [D] → C ≠ env.locals → c.h₀.get? C = none → C ≠ PT → s.heap.get? C = none →
      compPost (model PG c.w) c.A E use Q (.ref D) C (.ok .next) { s with heap := h', toks := tk }) :
    wpAny (model PG c.w) c.A (comprehension (.ListComp elt [⟨target, iter, [], 0⟩] scope pos) scope env p' (newList []) false (eval iter env) use) Q E s := by
  obtain ⟨cl, hcl, hcr⟩ := closureFor_ok (scope := scope) (env := env) fun x hx hk => by
    obtain ⟨y, j, e, e1⟩ := O.free x hx hk
    obtain ⟨a, _, e2⟩ := rl.cel y j e1
    exact ⟨a, e ▸ e2⟩
  refine wpAny_comprehension_free rfl hs hcl O.kind O.names (h c env s φ ok fk rs rl _ _ fun u v σ₁ h₁ tk₁ φ₁ ⟨xs, tl, G, hsrc, htl, hf⟩ rs₁ l₁ r₁ => hsrc c ⟨h₁, s.gens, s.drawn, tk₁, s.os⟩ φ₁ ok rs₁ u r₁ _ _ fun I h₂ St it st0 kk hI => ?_)
  refine wpAny_newObj_type (wpAny_newFunctionEnv O.cell (by intro y hy; simp at hy) (fun h₃ hns hsb => ?_) O.kind)
  dsimp only at hns hsb ⊢
  generalize hH : h₂.push { cls := .type "list", dict := Option.none, data := .seq ([] : List Value).toArray } = H at hns hsb
  have hHs : H.objs.size = h₂.objs.size + 1 := by rw [← hH, Heap.size_push]
  obtain ⟨oI, eI, iI⟩ := it.ob st0
  have hIlt : I < h₂.objs.size := Heap.lt_size eI
  have k3 : ∀ b o, h₂.get? b = some o → h₃.get? b = some o := fun b o e => hsb.extBut b o (Nat.ne_of_lt (hHs ▸ Nat.lt_succ_of_lt (Heap.lt_size e))) (Heap.get?_push_of_some _ (hH ▸ Heap.get?_push_of_some _ e))
  have hD2 : h₂.get? h₂.objs.size = Option.none := noneAt
  have hC2 : h₂.get? H.objs.size = Option.none := Heap.get?_none_of_le (by omega)
  have hD3 : h₃.get? h₂.objs.size = some { cls := .type "list", data := .seq #[] } := hsb.extBut _ _ (Nat.ne_of_lt (hHs ▸ Nat.lt_succ_self _)) (Heap.get?_push_of_some _ (hH ▸ Heap.get?_push_size _ rfl))
  have hDC : h₂.objs.size ≠ H.objs.size := by omega
  generalize hDD : h₂.objs.size = D at *
  generalize hCC : H.objs.size = C at *
  clear hsb hH hHs
  have l2 : Le [] φ₁ h₁ φ₁ h₂ := .of_keep kk
  have hD1 := l2.old hD2
  have hC1 := l2.old hC2
  obtain ⟨fI1, fI2, fI3⟩ := L_fresh rs₁ hI
  obtain ⟨fD1, fD2, fD3⟩ := L_fresh rs₁ hD1
  obtain ⟨fC1, fC2, fC3⟩ := L_fresh rs₁ hC1
  have hID : I ≠ D := Nat.ne_of_lt hIlt
  have hIC : I ≠ C := by rintro rfl; rw [hC2] at eI; cases eI
  have rs₃ := (rs₁.keep kk).keep k3
  have l₃ : Le [] φ₁ h₁ φ₁ h₃ := l2.trans (.of_keep k3)
  have st3 := it.le st0 (Le.of_keep (X := []) k3) (fun o e => k3 _ _ e)
  have hrel : relabel scope env = relF F.sc scope := by unfold relabel relF Env.kindOf; rw [rl.sc]
  have rlc : RL c { (newEnv scope C env.globals cl env.qual Option.none Value.none (some env) builtinsNs) with scope := relabel scope env } (CF F scope γ') [] h₃ φ₁ :=
    ⟨hrel, rl.gl, rl.bl, rl.cd, rl.ql, fC1, fC2, fC3, ⟨_, hns, fun x v e => nomatch e⟩, fun x j e => by
      obtain ⟨e1, e2⟩ := O.γ x j e
      obtain ⟨a, e3, e4⟩ := rl.cel x j e1
      exact ⟨a, l₁.at e3, (hcr _ e2).trans e4⟩⟩
  have fkc : (CF F scope γ').sc.kind = .function := O.kind
  generalize hce : ({ (newEnv scope C env.globals cl env.qual Option.none Value.none (some env) builtinsNs) with scope := relabel scope env } : Env) = cenv at rlc
  have hcl' : cenv.locals = C := hce ▸ rfl
  show codeAny _ _ (.compStart _ 0 (.ref I) (.ref D) cenv) (compPost (model PG c.w) c.A E use Q (.ref D) C) _
  clear hce
  have loop : ∀ tk, codeAny (model PG c.w) c.A (.compLoop (.ListComp elt [⟨target, iter, [], 0⟩] scope pos) 0 (.ref I) (.ref D) cenv) (compPost (model PG c.w) c.A E use Q (.ref D) C) ⟨h₃, s.gens, s.drawn, tk, s.os⟩ := fun tk => by
    refine compLoop_any (fun n s' => ∃ k σ' h' tk φ' acc vs j, s' = ⟨h', s.gens, s.drawn, tk, s.os⟩ ∧ n + k = xs.length ∧ CMP (CF F scope γ') target elt G K (xs.drop k) acc σ' ∧ RS c h' φ' σ' ∧ RL c cenv (CF F scope γ') [] h' φ' ∧ Le [] φ₁ h₁ φ' h' ∧ St k h' φ' ∧ I ∉ φ' ∧
      h'.get? D = some { cls := .type "list", data := .seq vs.toArray j } ∧ D ∉ φ' ∧ VRs h' φ' acc vs) (fun n s' hI' => ?_) xs.length ⟨0, σ₁, h₃, tk, φ₁, [], [], 0, rfl, rfl, hf, rs₃, rlc, l₃, st3, fI3, hD3, fD3, .nil⟩
    obtain ⟨k, σ', h', tk, φ', acc, vs, j, rfl, hn, hfor, rs', rl', l', st, fI, gD, fD, racc⟩ := hI'
    have ob := it.ob st
    cases hx : xs.drop k with
    | nil =>
      rw [hx] at hfor
      obtain ⟨hG, hK⟩ := hfor
      have hk : k = xs.length := by have := congrArg List.length hx; simp at this; omega
      subst hk
      refine it.done st rs' hG fun h'' tk' kI => ?_
      have m := Mono.but kI ob
      have rs'' := rs'.but kI m fI fI1 fI2
      have rl'' := rl'.but kI m (hcl' ▸ hIC.symm)
      have l'' := l'.but kI hI
      have gD'' := kI _ _ hID.symm gD
      obtain ⟨ψ, rfl, hψ⟩ := l''.pre
      obtain ⟨mC, hmC, _⟩ := rl''.loc
      have fC'' := rl''.Lφ
      rw [hcl'] at hmC fC''
      refine q D C acc σ' h'' tk' (φ₁ ++ ψ) mC hK ⟨rs''.base, by have := rs''.len; simp at this ⊢; omega, List.nodup_append.mpr ⟨rs''.nd, by simp, fun x hx y hy z => fD (by rw [List.mem_singleton.mp hy] at z; exact z ▸ hx)⟩, fun i a o e1 e2 => ?_, fun a ha => ?_, rs''.tab⟩
        (l₁.trans ⟨l''.mono, l''.keep, l''.live, ψ ++ [D], by simp, fun a ha => ?_⟩) rs''.len hmC (fun z => ?_) (fun z => ?_) fC1 fC2 (l₁.old hC1)
      · have e0 : Le [] (φ₁ ++ ψ) h'' ((φ₁ ++ ψ) ++ [D]) h'' → True := fun _ => trivial
        by_cases hi : i < (φ₁ ++ ψ).length
        · rw [List.getElem?_append_left hi] at e1
          rw [List.getElem?_append_left (rs''.len ▸ hi)] at e2
          exact ObAt.mono [D] (fun _ _ e _ => e) (fun _ e => e) (rs''.at_ i a o e1 e2)
        · have hi' : (φ₁ ++ ψ).length ≤ i := Nat.not_lt.mp hi
          rw [List.getElem?_append_right hi'] at e1
          rw [List.getElem?_append_right (rs''.len ▸ hi')] at e2
          have h1 : i - (φ₁ ++ ψ).length = 0 := by
            have := (List.getElem?_eq_some_iff.mp e1).1
            simpa using this
          rw [h1] at e1
          rw [← rs''.len, h1] at e2
          cases e1; cases e2
          exact ⟨vs, j, gD'', (racc.mono0 m).mono fun _ _ e _ => e⟩
      · rcases List.mem_append.mp ha with ha | ha
        · exact rs''.off a ha
        · rw [List.mem_singleton.mp ha]; exact ⟨fD1, fD2, _, gD''⟩
      · rcases List.mem_append.mp ha with ha | ha
        · exact hψ a ha
        · rw [List.mem_singleton.mp ha]; exact hD1
      · rcases List.mem_append.mp z with z | z
        · exact fC'' z
        · exact hDC (List.mem_singleton.mp z).symm
      · obtain ⟨_, ⟨o, _, _, e, _⟩, _⟩ := (rl.le l₁).loc
        rw [← z, hC1] at e; cases e
    | cons x rest =>
      rw [hx] at hfor
      obtain ⟨hG, hA⟩ := hfor
      have hk : k < xs.length := by have := congrArg List.length hx; simp at this; omega
      have hxk : xs[k]? = some x := by have := congrArg (·[0]?) hx; simpa using this
      have hrest : xs.drop (k + 1) = rest := by have := congrArg (List.drop 1) hx; simpa [List.drop_drop, Nat.add_comm] using this
      refine it.item hxk st rs' hG fun u h'' tk' ru st' kI => ?_
      have m := Mono.but kI ob
      have rs'' := rs'.but kI m fI fI1 fI2
      have rl'' := rl'.but kI m (hcl' ▸ hIC.symm)
      have l'' := l'.but kI hI
      have gD'' := kI _ _ hID.symm gD
      refine it.go st' htl ?_
      have ob' := it.ob st'
      refine hA c cenv ⟨h'', s.gens, s.drawn, tk', s.os⟩ φ' ok fkc rs'' rl'' u (ru.mono0 m) _ _ fun ρ₁ σ₂ h₃ tk₃ φ₃ hE rs₃ rl₃ l₃ => ?_
      have nI : I ∉ [cenv.locals] := fun z => hIC (by rw [← hcl']; exact List.mem_singleton.mp z)
      have nD : D ∉ [cenv.locals] := fun z => hDC (by rw [← hcl']; exact List.mem_singleton.mp z)
      have st₃ := it.le st' l₃ fun o e => l₃.keep I o e fI fI2 nI
      have fI₃ := l₃.out fI (ob'.imp fun o z => z.1)
      have ob₃ := it.ob st₃
      have gD₃ := l₃.keep D _ gD'' fD fD2 nD
      have fD₃ := l₃.out fD ⟨_, gD''⟩
      refine hE c cenv ⟨h₃, s.gens, s.drawn, tk₃, s.os⟩ φ₃ ok fkc rs₃ rl₃ _ _ fun y v σ₄ h₄ tk₄ φ₄ ⟨hz, hk₄⟩ rs₄ l₄ r₄ => ?_
      have st₄ := it.le st₃ l₄ fun o e => l₄.keep I o e fI₃ fI2 (fun z => nomatch z)
      have fI₄ := l₄.out fI₃ (ob₃.imp fun o z => z.1)
      have ob₄ := it.ob st₄
      have gD₄ := l₄.keep D _ gD₃ fD₃ fD2 (fun z => nomatch z)
      have fD₄ := l₄.out fD₃ ⟨_, gD₃⟩
      have racc₄ := l₄.vrs (l₃.vrs (racc.mono0 m))
      have hzz : vs.toArray.size ≤ sizeLine := by rw [List.size_toArray, racc.length, sizeLine_eq]; exact Nat.le_trans hz (by decide)
      refine wpAny_list_append_plain ⟨j, gD₄⟩ (fun h₅ hl hsb => ?_) hzz
      obtain ⟨j', hl⟩ := hl
      have k5 : ∀ b o, b ≠ D → h₄.get? b = some o → h₅.get? b = some o := fun b o n e => (hsb.2 b n).trans e
      have m5 : Mono h₄ h₅ := Mono.but k5 ⟨_, gD₄, rfl⟩
      have lt : Le [] φ₁ h₁ φ₄ h₄ := by
        have x := (l''.weak.trans l₃).trans l₄.weak
        rw [hcl'] at x
        exact Le.drop x (fun _ _ e => e) hC1 fun _ _ _ _ _ => trivial
      refine ⟨n - 1, by omega, k + 1, σ₄, h₅, tk₄, φ₄, acc ++ [v], vs ++ [y], j', rfl, by omega, hrest ▸ hk₄, rs₄.but k5 m5 fD₄ fD1 fD2, ?_, lt.but k5 hD1, ?_, fI₄, by rw [hl]; simp, fD₄, (racc₄.mono0 m5).snoc (r₄.mono0 m5)⟩
      · refine RL.sub (ρ := ρ₁) ?_ trivial
        exact (rl₃.le l₄).but k5 m5 (by rw [hcl']; exact hDC.symm)
      · have lb : Le [D] φ₄ h₄ φ₄ h₅ := ⟨m5, fun b o e _ _ n => k5 b o (fun z => n (by simp [z])) e, fun b o e => if z : b = D then z ▸ ⟨_, hl⟩ else ⟨o, k5 b o z e⟩, [], by simp, fun _ z => nomatch z⟩
        exact it.le st₄ lb fun o e => k5 _ _ hID e
  exact codeAny_compStart_list (loop _) (it.self st3 (loop _))
abbrev KCN (K : V → List Ob → Prop) : List V → List Ob → Prop := fun vs σ => K (.ref σ.length) (σ ++ [.list vs])
abbrev KCM (F : Fn) (target elt : Expr) (K : List V → List Ob → Prop) : V → List Ob → Prop := fun v σ => ∃ xs tl G, SRC F.n σ v xs tl G ∧ ((∀ it v, letOwnedTupleGo target it v = pure ()) ∨ tl = true) ∧ CMP F target elt G K xs [] σ
theorem KCM.of {target elt : Expr} {K : List V → List Ob → Prop} {v : V} {xs : List V} {tl : Bool} {G : List Ob → Prop} (s : SRC F.n σ v xs tl G) (t : (∀ it v, letOwnedTupleGo target it v = pure ()) ∨ tl = true) (h : CMP F target elt G K xs [] σ) : KCM F target elt K v σ := ⟨xs, tl, G, s, t, h⟩
abbrev KCS (F : Fn) (ρ : List (String × V)) (x : Str) (K : Fl → List (String × V) → List Ob → Prop) : List V → List Ob → Prop := fun vs σ => STO F ρ (σ ++ [.list vs]) x (.ref σ.length) (K .next)
theorem EV.comp {elt target iter : Expr} {scope : Scope} {pos : Pos} {γ' : List (String × Nat)} {K : V → List Ob → Prop} (O : CompOK F scope γ')
    (h : EV F ρ σ iter (KCM (CF F scope γ') target elt (KCN K)))
    (hs : ∀ env x, foldedSetIterable iter env x = pure x) : EV F ρ σ (.ListComp elt [⟨target, iter, [], 0⟩] scope pos) K := fun c env s φ ok fk rs rl Q E q => by
  show wpAny _ _ (eval _ env) _ _ _
  rw [eval_ListComp]
  refine comp_core (use := Option.none) ok fk rs rl O (hs env) h fun D C vs σ' h' tk φ' m k rs' l' hl hn fC hCL c0 cP cs => ⟨m, hn, fun h'' hs'' => ?_⟩
  have kC : ∀ b o, b ≠ C → h'.get? b = some o → h''.get? b = some o := fun b o n e => (hs''.2 b n).trans e
  obtain ⟨oC, _, _, eC, dC, _⟩ := hn
  have m' : Mono h' h'' := Mono.but kC ⟨oC, eC, by simp [immO, dC]⟩
  exact q _ _ _ _ _ _ k (rs'.but kC m' fC c0 cP) (l'.but kC cs) ⟨D, rfl, by rw [← hl]; simp⟩
theorem EX1.setC {x : Str} {p pos spos : Pos} {elt target iter : Expr} {scope : Scope} {γ' : List (String × Nat)} {K : Fl → List (String × V) → List Ob → Prop} (O : CompOK F scope γ')
    (h : EV F ρ σ iter (KCM (CF F scope γ') target elt (KCS F ρ x K)))
    (hsw : ∀ env : Env, swapsWith (.ListComp elt [⟨target, iter, [], 0⟩] scope pos) (some (.Name x p)) spos.line { env with scope := F.sc } = pure true) (hs : ∀ env x, foldedSetIterable iter env x = pure x) : EX1 F ρ σ (.Assign [.Name x p] (.ListComp elt [⟨target, iter, [], 0⟩] scope pos) spos) K :=
  fun c env s φ ok fk rs rl Q E q => by
    show wpAny _ _ (exec _ env) _ _ _
    have hsw := hsw env
    rw [← rl.sc] at hsw
    rw [exec_Assign_Name_used _ _ _ _ hsw]
    refine wpAny_bind (wpAny_standAt (wpAny_bind ?_))
    show wpAny _ _ (do let _ ← comprehension (.ListComp elt [⟨target, iter, [], 0⟩] scope pos) scope env _ (newList []) false (eval iter env) (some (assign (.Name x p) env))) _ _ s
    refine wpAny_bind (wpAny_mono (comp_core (Q := fun _ s' => Q .next s') (E := E) (use := some (assign (.Name x p) env)) ok fk rs rl O (hs env) h fun D C vs σ' h' tk φ' m k rs' l' hl hn fC hCL c0 cP cs => ?_) (fun _ s' hq => wpAny_pure (wpAny_pure hq)) fun _ _ e => e)
    refine wpAny_assign_Name (k c env ⟨h', s.gens, s.drawn, tk, s.os⟩ _ ok fk rs' (rl.le l') (.ref D) ⟨D, rfl, by rw [← hl]; simp⟩ _ _ fun ρ₂ σ₂ h₂ tk₂ φ₂ k₂ rs₂ rl₂ l₂ => ?_)
    have hn2 : h₂.Ns C m := hn.at' fun o e => l₂.keep C o e fC cP (fun z => hCL (List.mem_singleton.mp z))
    refine ⟨m, hn2, fun h'' hs'' => ?_⟩
    have kC : ∀ b o, b ≠ C → h₂.get? b = some o → h''.get? b = some o := fun b o n e => (hs''.2 b n).trans e
    have fC2 := l₂.out fC (let ⟨o, _, _, e, _⟩ := hn; ⟨o, e⟩)
    obtain ⟨oC, _, _, eC, dC, _⟩ := hn2
    have m' : Mono h₂ h'' := Mono.but kC ⟨oC, eC, by simp [immO, dC]⟩
    exact q _ .next _ _ _ _ _ k₂ (rs₂.but kC m' fC2 c0 cP) (rl₂.but kC m' (Ne.symm hCL)) ((l'.weak.trans l₂).but kC cs) rfl
end
end
section

section
variable {F : Fn} {ρ : List (String × V)} {σ : List Ob} {n : Nat} {K : V → List Ob → Prop}
/-! built-ins -/
theorem VRs.one {h : Heap} {φ : List Addr} {x : V} {vs : List Value} (r : VRs h φ [x] vs) : ∃ v, vs = [v] ∧ VR h φ x v := by
  obtain ⟨v, us, rfl, r, e⟩ := r
  cases e
  exact ⟨v, rfl, r⟩
theorem VRs.two {h : Heap} {φ : List Addr} {x y : V} {vs : List Value} (r : VRs h φ [x, y] vs) : ∃ v u, vs = [v, u] ∧ VR h φ x v ∧ VR h φ y u := by
  obtain ⟨v, us, rfl, r, e⟩ := r
  obtain ⟨u, e1, e2⟩ := VRs.one e
  exact ⟨v, u, by rw [e1], r, e2⟩
theorem CALL.intI {i : Int} (h : K (.int i) σ) : CALL n σ (.val (.type "int")) [.int i] K := fun c s φ ok rs g vs e r Q E q => by
  cases e
  obtain ⟨v, rfl, t, rfl⟩ := VRs.one r
  exact call_int_int (q _ _ _ _ s.toks _ h rs .refl ⟨_, rfl⟩)
theorem CALL.intB {b : Bool} (h : K (.int (if b then 1 else 0)) σ) : CALL n σ (.val (.type "int")) [.bool b] K := fun c s φ ok rs g vs e r Q E q => by
  cases e
  obtain ⟨v, rfl, rfl⟩ := VRs.one r
  exact call_int_bool (q _ _ _ _ _ _ h rs .refl ⟨_, rfl⟩)
theorem CALL.abs {i : Int} (h : K (.int (if i < 0 then -i else i)) σ) : CALL n σ (.val (.builtin "abs")) [.int i] K := fun c s φ ok rs g vs e r Q E q => by
  cases e
  obtain ⟨v, rfl, t, rfl⟩ := VRs.one r
  exact call_abs_int fun u tk => q _ _ _ _ _ _ h rs .refl ⟨_, rfl⟩
theorem CALL.lenB {x : List UInt8} (hz : x.length ≤ 16777216) (h : K (.int x.length) σ) : CALL n σ (.val (.builtin "len")) [.bytes x] K := fun c s φ ok rs g vs e r Q E q => by
  cases e
  obtain ⟨v, rfl, t, rfl⟩ := VRs.one r
  refine len_bytes (by rw [List.size_toArray]; omega) ?_
  rw [List.size_toArray]
  exact q _ _ _ _ _ _ h rs .refl ⟨_, rfl⟩
theorem CALL.lenL {j : Nat} {x : List V} (e : σ[j]? = some (.list x)) (hz : x.length ≤ 16777216) (h : K (.int x.length) σ) : CALL n σ (.val (.builtin "len")) [.ref j] K := fun c s φ ok rs g vs e' r Q E q => by
  cases e'
  obtain ⟨v, rfl, a, rfl, ha⟩ := VRs.one r
  obtain ⟨us, k, g, r⟩ := rs.at_ j a _ ha e
  have hs : us.toArray.size = x.length := by rw [List.size_toArray, r.length]
  refine call_len_list ⟨_, g, rfl, k, rfl⟩ (by rw [hs]; omega) ?_
  rw [hs]
  exact q _ _ _ _ _ _ h rs .refl ⟨_, rfl⟩
theorem CALL.rng1 {i : Int} (h : K (.rng 0 i) σ) : CALL n σ (.val (.type "range")) [.int i] K := fun c s φ ok rs g vs e r Q E q => by
  cases e
  obtain ⟨v, rfl, t, rfl⟩ := VRs.one r
  have kk : ∀ b o, s.heap.get? b = some o → (s.heap.push { cls := .type "range", data := .fields #[.int 0 s.toks, .int i t, .int 1 (s.toks + 1)] }).get? b = some o := fun b o e => Heap.get?_push_of_some _ e
  exact call_range_1 (q _ _ _ _ _ _ h (rs.keep kk) (.of_keep kk) ⟨_, _, _, _, rfl, IsRange.new ..⟩)
theorem CALL.rng2 {i j : Int} (h : K (.rng i j) σ) : CALL n σ (.val (.type "range")) [.int i, .int j] K := fun c s φ ok rs g vs e r Q E q => by
  cases e
  obtain ⟨v, u, rfl, ⟨t, rfl⟩, t', rfl⟩ := VRs.two r
  have kk : ∀ b o, s.heap.get? b = some o → (s.heap.push { cls := .type "range", data := .fields #[.int i t, .int j t', .int 1 s.toks] }).get? b = some o := fun b o e => Heap.get?_push_of_some _ e
  exact call_range_2 (q _ _ _ _ _ _ h (rs.keep kk) (.of_keep kk) ⟨_, _, _, _, rfl, IsRange.new ..⟩)
theorem CALL.max2 {i j : Int} (h : K (.int (if j > i then j else i)) σ) : CALL n σ (.val (.builtin "max")) [.int i, .int j] K := fun c s φ ok rs g vs e r Q E q => by
  cases e
  obtain ⟨v, u, rfl, ⟨t, rfl⟩, t', rfl⟩ := VRs.two r
  refine max_two_ints ok.hh fun h' tk kk => q _ _ _ _ _ _ h (rs.keep kk) (.of_keep kk) ?_
  split <;> exact ⟨_, rfl⟩
theorem CALL.min2 {i j : Int} (h : K (.int (if j < i then j else i)) σ) : CALL n σ (.val (.builtin "min")) [.int i, .int j] K := fun c s φ ok rs g vs e r Q E q => by
  cases e
  obtain ⟨v, u, rfl, ⟨t, rfl⟩, t', rfl⟩ := VRs.two r
  refine min_two_ints ok.hh fun h' tk kk => q _ _ _ _ _ _ h (rs.keep kk) (.of_keep kk) ?_
  split <;> exact ⟨_, rfl⟩
theorem intsAre {h : Heap} {φ : List Addr} : ∀ {ns : List Int} {vs : List Value}, VRs h φ (ns.map .int) vs → IntsAre vs ns
  | [], _, r => by cases r; exact .nil
  | _ :: _, _, ⟨_, _, e, ⟨t, e'⟩, r⟩ => by subst e e'; exact .cons _ _ (intsAre r)
theorem CALL.sum {j : Nat} {ns : List Int} (e : σ[j]? = some (.list (ns.map .int))) (h : K (.int ns.sum) σ) : CALL n σ (.val (.builtin "sum")) [.ref j] K := fun c s φ ok rs g vs e' r Q E q => by
  cases e'
  obtain ⟨v, rfl, a, rfl, ha⟩ := VRs.one r
  obtain ⟨us, k, g, r⟩ := rs.at_ j a _ ha e
  have hi := intsAre r
  have hl : s.heap.IsList a us.toArray := ⟨_, g, rfl, k, rfl⟩
  have hall := hi.allInts
  have hA : numsOf us.toArray.toList = ns := hi.numsOf
  clear g
  generalize us.toArray = A at hl hall hA
  obtain ⟨xs, rfl⟩ := hall.items
  refine sum_intListG ok.hh hl fun h' tk t' kk => ?_
  rw [preSum_eq, List.take_of_length_le (by simp)]
  rw [nums_intItems] at hA
  rw [hA]
  exact q _ _ _ _ _ _ h (rs.keep kk) (.of_keep kk) ⟨_, rfl⟩
theorem CALL.bytesI {j : Nat} {ns : List Int} (e : σ[j]? = some (.list (ns.map .int))) (hr : ∀ i ∈ ns, 0 ≤ i ∧ i < 256) (hz : ns.length ≤ 1000) (h : K (.bytes (ns.map fun i => i.toNat.toUInt8)) σ) : CALL n σ (.val (.type "bytes")) [.ref j] K := fun c s φ ok rs g vs e' r Q E q => by
  cases e'
  obtain ⟨v, rfl, a, rfl, ha⟩ := VRs.one r
  obtain ⟨us, k, g, r⟩ := rs.at_ j a _ ha e
  have hl := r.length
  rw [List.length_map] at hl
  exact call_bytes_ints ⟨_, g, rfl, k, rfl⟩ (intsAre r) hr (by rw [hl, sizeLine_eq]; exact Nat.le_trans hz (by decide)) ok.hh fun h' t k kk => q _ _ _ _ _ _ h (rs.keep kk) (.of_keep kk) ⟨t, rfl⟩
theorem CALL.tupL {j : Nat} {x : List V} (e : σ[j]? = some (.list x)) (hz : x.length ≤ 16777216) (h : K (.tup x) σ) : CALL n σ (.val (.type "tuple")) [.ref j] K := fun c s φ ok rs g vs e' r Q E q => by
  cases e'
  obtain ⟨v, rfl, a, rfl, ha⟩ := VRs.one r
  obtain ⟨us, k, g, r⟩ := rs.at_ j a _ ha e
  refine call_tuple_list ⟨_, g, rfl, k, rfl⟩ (fun h' kk => ?_) (by rw [List.size_toArray, r.length, sizeLine_eq]; exact hz)
  have k2 : ∀ b o, s.heap.get? b = some o → (h'.push { cls := .type "tuple", data := .seq us.toArray }).get? b = some o := fun b o e => Heap.get?_push_of_some _ (kk b o e)
  exact q _ _ _ _ s.toks _ h (rs.keep k2) (.of_keep k2) ⟨_, us, _, rfl, Heap.get?_push_size _ rfl, r.mono0 fun b o e _ => k2 b o e⟩

/-! dict displays -/
def PRs (h : Heap) (φ : List Addr) : List (Str × V) → List (Value × Value) → Prop
  | [], a => a = []
  | (x, v) :: l, a => ∃ t u r, a = (.str x t, u) :: r ∧ VR h φ v u ∧ PRs h φ l r
def DPS (F : Fn) (ρ : List (String × V)) (σ : List Ob) (keys : List (Option Expr)) (values : List Expr) (pos : Pos) (K : List (Str × V) → List Ob → Prop) : Prop := WPg PRs F ρ σ (fun env => evalPairs (pairTrees keys values env pos)) K
theorem DPS.nil {pos : Pos} {K : List (Str × V) → List Ob → Prop} (h : K [] σ) : DPS F ρ σ [] [] pos K := fun _ _ _ _ _ _ rs _ _ _ q => pairTrees_nil_walk (q _ _ _ _ _ _ h rs .refl rfl)
abbrev KDc (x : Str) (v : V) (K : List (Str × V) → List Ob → Prop) : List (Str × V) → List Ob → Prop := fun l σ => K ((x, v) :: l) σ
abbrev KDv (F : Fn) (ρ : List (String × V)) (x : Str) (ks : List (Option Expr)) (es : List Expr) (pos : Pos) (K : List (Str × V) → List Ob → Prop) : V → List Ob → Prop := fun v σ => DPS F ρ σ ks es pos (KDc x v K)
abbrev KD (K : V → List Ob → Prop) : List (Str × V) → List Ob → Prop := fun l σ => (l.map (·.1)).Nodup ∧ K (.ref σ.length) (σ ++ [.dict l])
theorem DPS.cons {x : Str} {k : Nat} {p pos : Pos} {e : Expr} {ks : List (Option Expr)} {es : List Expr} {K : List (Str × V) → List Ob → Prop} (h : EV F ρ σ e (KDv F ρ x ks es pos K)) :
    DPS F ρ σ (some (.Constant (.str x) k p) :: ks) (e :: es) pos K := fun c env s φ ok fk rs rl Q E q =>
  pairTrees_cons_walk (Calls.Constant_str (h c env { s with toks := s.toks + 1 } φ ok fk rs rl _ _ fun u v σ₁ h₁ tk₁ φ₁ k₁ rs₁ l₁ r₁ => k₁ c env ⟨h₁, s.gens, s.drawn, tk₁, s.os⟩ φ₁ ok fk rs₁ (rl.le l₁) _ _ fun a l σ₂ h₂ tk₂ φ₂ k₂ rs₂ l₂ r₂ =>
    q _ _ _ _ _ _ k₂ rs₂ (l₁.trans l₂) ⟨_, _, _, rfl, l₂.vr r₁, r₂⟩))
theorem PRs.kvs {w : World} {h : Heap} {φ : List Addr} : ∀ {l : List (Str × V)} {a : List (Value × Value)}, PRs h φ l a → ∃ kvs, Carries (strKind PG w) a kvs ∧ KRs h φ kvs l
  | [], _, e => by cases e; exact ⟨[], trivial, rfl, .nil⟩
  | (x, v) :: l, _, ⟨t, u, r, e, r1, r2⟩ => by
    subst e
    obtain ⟨kvs, c, k1, k2⟩ := PRs.kvs (w := w) r2
    exact ⟨(x, u) :: kvs, ⟨strKind_is _ _ _ _, rfl, c⟩, by simp [k1], .cons r1 k2⟩
/-- what was made apart comes into the store -/
theorem RS.adopt {c : Cx} {h h' : Heap} {φ : List Addr} {D : Addr} {o : Ob} (rs : RS c h φ σ) (k : ∀ b o, b ≠ D → h.get? b = some o → h'.get? b = some o) (m : Mono h h') (f1 : c.h₀.get? D = Option.none) (f2 : D ≠ PT) (f3 : D ∉ φ) (hl : ∃ o, h'.get? D = some o)
    (e : ObAt c.w h' (φ ++ [D]) D o) : RS c h' (φ ++ [D]) (σ ++ [o]) := by
  have rs' := rs.but k m f3 f1 f2
  refine ⟨rs'.base, by simp [rs'.len], List.nodup_append.mpr ⟨rs'.nd, by simp, fun x hx y hy z => f3 (by rw [List.mem_singleton.mp hy] at z; exact z ▸ hx)⟩, fun i a o e1 e2 => ?_, fun a ha => ?_, rs'.tab⟩
  · by_cases hi : i < φ.length
    · rw [List.getElem?_append_left hi] at e1
      rw [List.getElem?_append_left (rs'.len ▸ hi)] at e2
      exact ObAt.mono [D] (fun _ _ e _ => e) (fun _ e => e) (rs'.at_ i a o e1 e2)
    · have hi' : φ.length ≤ i := Nat.not_lt.mp hi
      rw [List.getElem?_append_right hi'] at e1
      rw [List.getElem?_append_right (rs'.len ▸ hi')] at e2
      have h1 : i - φ.length = 0 := by
        have := (List.getElem?_eq_some_iff.mp e1).1
        simpa using this
      rw [h1] at e1
      rw [← rs'.len, h1] at e2
      cases e1; cases e2
      exact e
  · rcases List.mem_append.mp ha with ha | ha
    · exact rs'.off a ha
    · rw [List.mem_singleton.mp ha]; exact ⟨f1, f2, hl⟩
theorem Le.adopt {X φ φ' : List Addr} {h h₁ : Heap} {D : Addr} (l : Le X φ h φ' h₁) (n : h.get? D = none) : Le X φ h (φ' ++ [D]) h₁ := by
  obtain ⟨ψ, rfl, f⟩ := l.pre
  exact ⟨l.mono, l.keep, l.live, ψ ++ [D], by simp, fun a ha => by
    rcases List.mem_append.mp ha with ha | ha
    · exact f a ha
    · rw [List.mem_singleton.mp ha]; exact n⟩
theorem EV.dict {keys : List (Option Expr)} {values : List Expr} {pos : Pos} (hall : keys.all (·.isSome) = true) (hl : keys.length = values.length) (h0 : keys ≠ []) (hlen : keys.length ≤ 15)
    (h : DPS F ρ σ keys values pos (KD K)) : EV F ρ σ (.Dict keys values pos) K := fun c env s φ ok fk rs rl Q E q => by
  have kk : ∀ b o, s.heap.get? b = some o → (s.heap.push { cls := .type "dict", data := .dict #[] }).get? b = some o := fun b o e => Heap.get?_push_of_some _ e
  have hD : s.heap.get? s.heap.objs.size = Option.none := noneAt
  obtain ⟨f1, f2, f3⟩ := L_fresh rs hD
  have d0 : (s.heap.push { cls := .type "dict", data := .dict #[] }).DictOf (strKind PG c.w) s.heap.objs.size [] := Heap.DictOf.new s.heap
  refine wpAny_Dict_walk (knd := strKind PG c.w) hall hl h0 hlen (h c env ⟨s.heap.push { cls := .type "dict", data := .dict #[] }, s.gens, s.drawn, s.toks, s.os⟩ φ ok fk (rs.keep kk) (rl.le (.of_keep kk)) _ _ fun a l σ₁ h₁ tk₁ φ₁ ⟨hn, k₁⟩ rs₁ l₁ r₁ => ?_)
  obtain ⟨kvs, hc, hk⟩ := PRs.kvs (w := c.w) r₁
  have hkn : (kvs.map (·.1)).Nodup := by rw [hk.1]; exact hn
  refine ⟨kvs, hc, Heap.DictOf.at' d0 fun o e => l₁.keep _ o e f3 f2 (fun z => nomatch z), fun h' hd hs => ?_⟩
  rw [merged_nil_of_nodup _ hkn] at hd
  obtain ⟨od, _, _, ed, dd⟩ := id hd
  have kD : ∀ b o, b ≠ s.heap.objs.size → h₁.get? b = some o → h'.get? b = some o := fun b o n e => (hs.2 b n).trans e
  obtain ⟨o0, e0⟩ := l₁.live s.heap.objs.size _ (Heap.get?_push_size _ rfl)
  have fD := l₁.out f3 ⟨_, Heap.get?_push_size _ rfl⟩
  have d1 := Heap.DictOf.at' d0 fun o e => l₁.keep _ o e f3 f2 (fun z => nomatch z)
  obtain ⟨o1, _, _, e1, _, dd1, _⟩ := d1
  have m : Mono h₁ h' := Mono.but kD ⟨o1, e1, by simp [immO, dd1]⟩
  have lt : Le [] φ s.heap φ₁ h₁ := (Le.of_keep kk).trans l₁
  exact q _ _ _ _ _ _ k₁ (rs₁.adopt kD m f1 f2 fD ⟨_, ed⟩ ⟨kvs, hd, hk.1, (hk.2.mono0 m).mono fun _ _ e _ => e⟩) ((lt.but kD hD).adopt hD) (newRef rs₁.len)
end
end
section

section
variable {σ : List Ob} {n d : Nat}
/-! deep equality -/
def EQV (d : Nat) (σ : List Ob) (a b : V) (r : Bool) : Prop := ∀ (c : Cx) (s : Shared) (φ : List Addr) (A : Around), A.units + d < cLine → RS c s.heap φ σ → ∀ x y, VR s.heap φ a x → VR s.heap φ b y → SeqAt.EqAt A s x y r ∧ (x = y → r = true)
theorem EqAt.of {A : Around} {s : Shared} {x y : Value} {r : Bool} (hx : ∀ b t, x ≠ .float b t) (h : ∀ (prog : Program) (w : World) (E Q : Value → Shared → Prop), Q (.bool r) s → wpAny (model prog w) A (compareOp .Eq x y) Q E s) (hr : x = y → r = true) : SeqAt.EqAt A s x y r := fun prog w E Q hq => by
  unfold eqBool
  refine wpAny_holding ?_
  refine wpAny_ite_split (fun hab => ?_) (fun _ => ?_)
  · rw [hr (eq_of_beq hab)] at hq
    exact wpAny_bind (wpAny_rule (wpAny_pure hq))
  · cases x <;> first
      | exact absurd rfl (hx _ _)
      | exact wpAny_bind (h prog w E _ (wpAny_truthy_bool hq))
theorem EQV.int (i j : Int) : EQV d σ (.int i) (.int j) (i == j) := fun _ _ _ _ _ _ x y ⟨_, e⟩ ⟨_, e'⟩ => by
  subst e e'
  have hr : ∀ {t u : Tok}, Value.int i t = Value.int j u → (i == j) = true := fun z => by cases z; simp
  exact ⟨EqAt.of (fun _ _ z => nomatch z) (fun _ _ _ _ h => PyProof.Rows.eq_int h) hr, hr⟩
theorem EQV.bool (i j : Bool) : EQV d σ (.bool i) (.bool j) (i == j) := fun _ _ _ _ _ _ x y e e' => by
  cases e; cases e'
  have hr : Value.bool i = Value.bool j → (i == j) = true := fun z => by cases z; simp
  exact ⟨EqAt.of (fun _ _ z => nomatch z) (fun _ _ _ _ h => PyProof.Rows.eq_bool h) hr, hr⟩
theorem EQV.bytes (i j : List UInt8) : EQV d σ (.bytes i) (.bytes j) (i == j) := fun _ _ _ _ _ _ x y ⟨_, e⟩ ⟨_, e'⟩ => by
  subst e e'
  have hr : ∀ {t u : Tok}, Value.bytes i.toArray t = Value.bytes j.toArray u → (i == j) = true := fun z => by injection z with z; have := congrArg Array.toList z; simpa using this
  exact ⟨EqAt.of (fun _ _ z => nomatch z) (fun _ _ _ _ h => eq_bytes h) hr, hr⟩
def EQVs (d : Nat) (σ : List Ob) : List V → List V → Bool → Prop
  | [], [], r => r = true
  | x :: xs, y :: ys, r => ∃ a b, r = (a && b) ∧ EQV d σ x y a ∧ EQVs d σ xs ys b
  | _, _, _ => False
theorem EQVs.run {c : Cx} {s : Shared} {φ : List Addr} {A : Around} (hu : A.units + d < cLine) (rs : RS c s.heap φ σ) : ∀ {xs ys : List V} {r : Bool} {vs us : List Value}, EQVs d σ xs ys r → VRs s.heap φ xs vs → VRs s.heap φ ys us →
    xs.length = ys.length ∧ (vs = us → r = true) ∧ ∃ e : Nat → Bool, (∀ j (h1 : j < vs.toArray.size) (h2 : j < us.toArray.size), SeqAt.EqAt A s vs.toArray[j] us.toArray[j] (e j)) ∧ (List.range vs.toArray.size).all e = r
  | [], [], _, _, _, h, r1, r2 => by cases h; cases r1; cases r2; exact ⟨rfl, fun _ => rfl, fun _ => true, fun j h1 => absurd h1 (Nat.not_lt_zero _), rfl⟩
  | [], _ :: _, _, _, _, h, _, _ => h.elim
  | _ :: _, [], _, _, _, h, _, _ => h.elim
  | x :: xs, y :: ys, r, vs, us, ⟨a, b, hr, h1, h2⟩, ⟨v, vs', e1, r1, r2⟩, ⟨u, us', e2, q1, q2⟩ => by
    subst hr e1 e2
    obtain ⟨i1, i2, e, i3, i4⟩ := EQVs.run hu rs h2 r2 q2
    obtain ⟨j1, j2⟩ := h1 c s φ A hu rs v u r1 q1
    refine ⟨congrArg (· + 1) i1, fun z => ?_, fun j => match j with | 0 => a | j + 1 => e j, fun j k1 k2 => ?_, ?_⟩
    · cases z; rw [j2 rfl, i2 rfl]; rfl
    · cases j with
      | zero => exact j1
      | succ j => exact i3 j (by simpa using k1) (by simpa using k2)
    · rw [← i4]
      simp only [List.size_toArray, List.length_cons, List.range_succ_eq_map, List.all_cons, List.all_map]
      rfl
theorem EQV.tup {xs ys : List V} {r : Bool} (h : EQVs d σ xs ys r) : EQV (d + 1) σ (.tup xs) (.tup ys) r := fun c s φ A hu rs x y ⟨a, vs, k, e, g, r1⟩ ⟨b, us, k', e', g', r2⟩ => by
  subst e e'
  obtain ⟨i1, i2, e, i3, i4⟩ := h.run (A := A.in1) (by rw [units_in1]; omega) rs r1 r2
  have hl : vs.toArray.size = us.toArray.size := by rw [List.size_toArray, List.size_toArray, r1.length, r2.length, i1]
  have hr : (Value.ref a) = (Value.ref b) → r = true := fun z => by
    cases z
    rw [g] at g'
    have := congrArg Obj.data (Option.some.inj g')
    injection this with this
    exact i2 (by have := congrArg Array.toList this; simpa using this)
  refine ⟨EqAt.of (fun _ _ z => nomatch z) (fun prog w E Q hq => SeqAt.eq_tupleAt ⟨_, g, rfl, k, rfl⟩ ⟨_, g', rfl, k', rfl⟩ (by omega) i3 ?_) hr, hr⟩
  rw [hl, Nat.min_self, ← hl, i4]
  simpa [hl] using hq
theorem EQV.list {i j : Nat} {xs ys : List V} {r : Bool} (ei : σ[i]? = some (.list xs)) (ej : σ[j]? = some (.list ys)) (ne : i ≠ j) (h : (xs.length ≠ ys.length ∧ r = false) ∨ EQVs d σ xs ys r) : EQV (d + 1) σ (.ref i) (.ref j) r := fun c s φ A hu rs x y ⟨a, e, ha⟩ ⟨b, e', hb⟩ => by
  subst e e'
  obtain ⟨vs, k, g, r1⟩ := rs.at_ i a _ ha ei
  obtain ⟨us, k', g', r2⟩ := rs.at_ j b _ hb ej
  have hr : (Value.ref a) = (Value.ref b) → r = true := fun z => by
    cases z
    exact absurd ((List.getElem?_inj (List.getElem?_eq_some_iff.mp ha).1 rs.nd).mp (by rw [ha, hb])) ne
  rcases h with ⟨hl, rfl⟩ | h
  · refine ⟨EqAt.of (fun _ _ z => nomatch z) (fun prog w E Q hq => SeqAt.eq_list_lengthsAt ⟨_, g, rfl, k, rfl⟩ ⟨_, g', rfl, k', rfl⟩ (by simpa [r1.length, r2.length] using hl) (by omega) hq) hr, hr⟩
  · obtain ⟨i1, i2, e, i3, i4⟩ := h.run (A := A.in1) (by rw [units_in1]; omega) rs r1 r2
    exact ⟨EqAt.of (fun _ _ z => nomatch z) (fun prog w E Q hq => SeqAt.eq_listAt ⟨_, g, rfl, k, rfl⟩ ⟨_, g', rfl, k', rfl⟩ (by rw [List.size_toArray, List.size_toArray, r1.length, r2.length, i1]) (by omega) i3 (i4 ▸ hq)) hr, hr⟩
theorem Cx.OK.u {c : Cx} {n : Nat} (ok : c.OK n) (m : Nat) (h : m ≤ 100) : c.A.units + m < cLine := by have := ok.un; omega
theorem Cmp.eqL {i j : Nat} {xs ys : List V} {r : Bool} (ei : σ[i]? = some (.list xs)) (ej : σ[j]? = some (.list ys)) (h : (xs.length ≠ ys.length ∧ r = false) ∨ EQVs 50 σ xs ys r) : Cmp n .Eq σ (.ref i) (.ref j) r := fun c s φ ok rs x y ⟨a, e, ha⟩ ⟨b, e', hb⟩ Q E hq => by
  subst e e'
  obtain ⟨vs, k, g, r1⟩ := rs.at_ i a _ ha ei
  obtain ⟨us, k', g', r2⟩ := rs.at_ j b _ hb ej
  rcases h with ⟨hl, rfl⟩ | h
  · exact SeqAt.eq_list_lengthsAt ⟨_, g, rfl, k, rfl⟩ ⟨_, g', rfl, k', rfl⟩ (by simpa [r1.length, r2.length] using hl) (ok.u 0 (by decide)) hq
  · obtain ⟨i1, i2, e, i3, i4⟩ := h.run (A := c.A.in1) (by rw [units_in1]; exact ok.u 51 (by decide)) rs r1 r2
    exact SeqAt.eq_listAt ⟨_, g, rfl, k, rfl⟩ ⟨_, g', rfl, k', rfl⟩ (by rw [List.size_toArray, List.size_toArray, r1.length, r2.length, i1]) (ok.u 0 (by decide)) i3 (i4 ▸ hq)
theorem Cmp.neL {i j : Nat} {xs ys : List V} {r : Bool} (ei : σ[i]? = some (.list xs)) (ej : σ[j]? = some (.list ys)) (h : (xs.length ≠ ys.length ∧ r = false) ∨ EQVs 50 σ xs ys r) : Cmp n .NotEq σ (.ref i) (.ref j) (!r) := fun c s φ ok rs x y ⟨a, e, ha⟩ ⟨b, e', hb⟩ Q E hq => by
  subst e e'
  obtain ⟨vs, k, g, r1⟩ := rs.at_ i a _ ha ei
  obtain ⟨us, k', g', r2⟩ := rs.at_ j b _ hb ej
  rcases h with ⟨hl, rfl⟩ | h
  · exact SeqAt.RcNeAt.lists_lengths ⟨_, g, rfl, k, rfl⟩ ⟨_, g', rfl, k', rfl⟩ (by simpa [r1.length, r2.length] using hl) (ok.u 0 (by decide)) _ _ _ _ hq
  · obtain ⟨i1, i2, e, i3, i4⟩ := h.run (A := c.A.in1) (by rw [units_in1]; exact ok.u 51 (by decide)) rs r1 r2
    exact SeqAt.RcNeAt.lists ⟨_, g, rfl, k, rfl⟩ ⟨_, g', rfl, k', rfl⟩ (by rw [List.size_toArray, List.size_toArray, r1.length, r2.length, i1]) (ok.u 0 (by decide)) i3 _ _ _ _ (i4 ▸ hq)
theorem Cmp.eqT {xs ys : List V} {r : Bool} (h : EQVs 50 σ xs ys r) : Cmp n .Eq σ (.tup xs) (.tup ys) r := fun c s φ ok rs x y ⟨a, vs, k, e, g, r1⟩ ⟨b, us, k', e', g', r2⟩ Q E hq => by
  subst e e'
  obtain ⟨i1, i2, e, i3, i4⟩ := h.run (A := c.A.in1) (by rw [units_in1]; exact ok.u 51 (by decide)) rs r1 r2
  have hl : vs.toArray.size = us.toArray.size := by rw [List.size_toArray, List.size_toArray, r1.length, r2.length, i1]
  refine SeqAt.eq_tupleAt ⟨_, g, rfl, k, rfl⟩ ⟨_, g', rfl, k', rfl⟩ (ok.u 0 (by decide)) i3 ?_
  rw [hl, Nat.min_self, ← hl, i4]
  simpa [hl] using hq
theorem Cmp.neT {xs ys : List V} {r : Bool} (h : EQVs 50 σ xs ys r) : Cmp n .NotEq σ (.tup xs) (.tup ys) (!r) := fun c s φ ok rs x y ⟨a, vs, k, e, g, r1⟩ ⟨b, us, k', e', g', r2⟩ Q E hq => by
  subst e e'
  obtain ⟨i1, i2, e, i3, i4⟩ := h.run (A := c.A.in1) (by rw [units_in1]; exact ok.u 51 (by decide)) rs r1 r2
  have hl : vs.toArray.size = us.toArray.size := by rw [List.size_toArray, List.size_toArray, r1.length, r2.length, i1]
  refine SeqAt.RcNeAt.tuples ⟨_, g, rfl, k, rfl⟩ ⟨_, g', rfl, k', rfl⟩ (ok.u 0 (by decide)) i3 _ _ _ _ ?_
  rw [hl, Nat.min_self, ← hl, i4]
  simpa [hl] using hq
/-- lists of one kind -/
theorem EQVs.map {α : Type} [BEq α] (f : α → V) (hf : ∀ a b, EQV d σ (f a) (f b) (a == b)) : ∀ (l m : List α), l.length = m.length → EQVs d σ (l.map f) (m.map f) (l == m)
  | [], [], _ => rfl
  | [], _ :: _, h => by cases h
  | _ :: _, [], h => by cases h
  | a :: l, b :: m, h => ⟨_, _, rfl, hf a b, EQVs.map f hf l m (by simpa using h)⟩
theorem EQVs.maps {α : Type} [BEq α] [LawfulBEq α] (f : α → V) (hf : ∀ a b, EQV d σ (f a) (f b) (a == b)) (l m : List α) : ((l.map f).length ≠ (m.map f).length ∧ (l == m) = false) ∨ EQVs d σ (l.map f) (m.map f) (l == m) := by
  by_cases h : l.length = m.length
  · exact .inr (.map f hf l m h)
  · exact .inl ⟨by simpa using h, by simpa using fun e => h (by rw [e])⟩
def DHits (d : Nat) (σ : List Ob) (lb : List (Str × V)) : List (Str × V) → Bool → Prop
  | [], r => r = true
  | (k, v) :: l, r => (lb.lookup k = none ∧ r = false) ∨ ∃ w a b, lb.lookup k = some w ∧ EQV d σ v w a ∧ DHits d σ lb l b ∧ r = (a && b)
theorem vAt_none {h : Heap} {φ : List Addr} {k : Str} : ∀ {kvs : List (Str × Value)} {l : List (Str × V)}, KRs h φ kvs l → l.lookup k = none → valueAt kvs k = none
  | [], _, _, _ => rfl
  | (y, u) :: kvs, l, ⟨e, r⟩, q => by
    cases l with
    | nil => cases e
    | cons p l =>
      obtain ⟨z, w⟩ := p
      simp only [List.map_cons, List.cons.injEq] at e
      obtain ⟨u', us, e3, r1, r2⟩ := r
      cases e3
      rw [List.lookup_cons] at q
      by_cases hk : k = z
      · subst hk; simp at q
      · have hk' : (k == z) = false := by simpa using hk
        rw [hk'] at q
        have h1 := vAt_none (kvs := kvs) ⟨e.2, r2⟩ q
        have : ¬ y = k := fun x => hk (by rw [← x, e.1])
        simpa [valueAt, List.find?_cons, this] using h1
theorem DHits.run {c : Cx} {s : Shared} {φ : List Addr} {A : Around} (hu : A.units + d < cLine) (rs : RS c s.heap φ σ) {kb : List (Str × Value)} {lb : List (Str × V)} (rb : KRs s.heap φ kb lb) : ∀ {l : List (Str × V)} {kvs : List (Str × Value)} {r : Bool}, DHits d σ lb l r → KRs s.heap φ kvs l → KeqHits A s kb kvs r
  | [], kvs, r, h, ⟨e, _⟩ => by
    cases h
    cases kvs with
    | nil => exact .nil
    | cons _ _ => cases e
  | (k, v) :: l, kvs, r, h, ⟨e, q⟩ => by
    cases kvs with
    | nil => cases e
    | cons p kvs =>
      obtain ⟨y, u⟩ := p
      simp only [List.map_cons, List.cons.injEq] at e
      obtain ⟨e1, e2⟩ := e
      subst e1
      obtain ⟨u', us, e3, r1, r2⟩ := q
      cases e3
      rcases h with ⟨hn, rfl⟩ | ⟨w, a, b, hw, hq, ht, rfl⟩
      · exact .miss (vAt_none rb hn)
      · obtain ⟨z, z1, z2⟩ := vAt rb hw
        exact .hit z1 (hq c s φ A hu rs u z r1 z2).1 (DHits.run hu rs rb ht ⟨e2, r2⟩)
theorem not_sys {c : Cx} {s : Shared} {φ : List Addr} {a : Addr} (ok : c.OK n) (rs : RS c s.heap φ σ) (h : a ∈ φ) : (a == sysModules) = false := by
  simp only [beq_eq_false_iff_ne]
  rintro rfl
  obtain ⟨o, e⟩ := ok.sy
  rw [(rs.off _ h).1] at e; cases e
theorem Cmp.eqD {i j : Nat} {la lb : List (Str × V)} {r : Bool} (ei : σ[i]? = some (.dict la)) (ej : σ[j]? = some (.dict lb)) (h : DHits 50 σ lb la r) : Cmp n .Eq σ (.ref i) (.ref j) (la.length == lb.length && r) := fun c s φ ok rs x y ⟨a, e, ha⟩ ⟨b, e', hb⟩ Q E hq => by
  subst e e'
  obtain ⟨ka, g, r1⟩ := rs.at_ i a _ ha ei
  obtain ⟨kb, g', r2⟩ := rs.at_ j b _ hb ej
  have l1 : ka.length = la.length := by have := congrArg List.length r1.1; simpa using this
  have l2 : kb.length = lb.length := by have := congrArg List.length r2.1; simpa using this
  refine keq_eq (not_sys ok rs (List.mem_of_getElem? ha)) (not_sys ok rs (List.mem_of_getElem? hb)) g g' (ok.u 0 (by decide)) (fun _ => h.run (A := c.A.in1) (by rw [units_in1]; exact ok.u 51 (by decide)) rs r2 r1) ?_
  rw [l1, l2]; exact hq
theorem Cmp.neD {i j : Nat} {la lb : List (Str × V)} {r : Bool} (ei : σ[i]? = some (.dict la)) (ej : σ[j]? = some (.dict lb)) (h : DHits 50 σ lb la r) : Cmp n .NotEq σ (.ref i) (.ref j) (!(la.length == lb.length && r)) := fun c s φ ok rs x y ⟨a, e, ha⟩ ⟨b, e', hb⟩ Q E hq => by
  subst e e'
  obtain ⟨ka, g, r1⟩ := rs.at_ i a _ ha ei
  obtain ⟨kb, g', r2⟩ := rs.at_ j b _ hb ej
  have l1 : ka.length = la.length := by have := congrArg List.length r1.1; simpa using this
  have l2 : kb.length = lb.length := by have := congrArg List.length r2.1; simpa using this
  refine keq_ne (not_sys ok rs (List.mem_of_getElem? ha)) (not_sys ok rs (List.mem_of_getElem? hb)) g g' (ok.u 0 (by decide)) (fun _ => h.run (A := c.A.in1) (by rw [units_in1]; exact ok.u 51 (by decide)) rs r2 r1) ?_
  rw [l1, l2]; exact hq
end
end
section

section
variable {σ σ' : List Ob} {i j : Nat} {o o' : Ob} {l : List Ob}
theorem at_new : (σ ++ o :: l)[σ.length]? = some o := by simp
theorem set_new : (σ ++ [o]).set σ.length o' = σ ++ [o'] := by simp
theorem at_app (h : σ[i]? = some o) : (σ ++ l)[i]? = some o := by rw [List.getElem?_append_left (List.getElem?_eq_some_iff.mp h).1]; exact h
theorem at_set (h : σ[i]? = some o') : (σ.set i o)[i]? = some o := List.getElem?_set_self (List.getElem?_eq_some_iff.mp h).1
theorem at_ne (n : j ≠ i) (h : σ[i]? = some o) : (σ.set j o')[i]? = some o := by rw [List.getElem?_set_ne n]; exact h
theorem at_lt (h : σ[i]? = some o) : i < σ.length := (List.getElem?_eq_some_iff.mp h).1
/-- a later store: what stands off M is as it was -/
structure Ext (M : List Nat) (σ σ' : List Ob) : Prop where
  le : σ.length ≤ σ'.length
  at_ : ∀ {i : Nat} {o : Ob}, i ∉ M → σ[i]? = some o → σ'[i]? = some o
theorem Ext.refl {M : List Nat} : Ext M σ σ := ⟨Nat.le_refl _, fun _ h => h⟩
theorem Ext.trans {M : List Nat} {σ₁ σ₂ σ₃ : List Ob} (a : Ext M σ₁ σ₂) (b : Ext M σ₂ σ₃) : Ext M σ₁ σ₃ := ⟨Nat.le_trans a.le b.le, fun n h => b.at_ n (a.at_ n h)⟩
theorem Ext.app {M : List Nat} : Ext M σ (σ ++ l) := ⟨by simp, fun _ h => at_app h⟩
theorem Ext.set {M : List Nat} (h : j ∈ M) : Ext M σ (σ.set j o) := ⟨by simp, fun n h' => at_ne (fun e => n (e ▸ h)) h'⟩
theorem Ext.sub {M N : List Nat} (a : Ext M σ σ') (h : ∀ i ∈ M, i ∈ N ∨ σ.length ≤ i) : Ext N σ σ' := ⟨a.le, fun n h' => a.at_ (fun m => (h _ m).elim n fun q => Nat.lt_irrefl _ (Nat.lt_of_lt_of_le (at_lt h') q)) h'⟩
theorem kms_lo_n (i n : Nat) : kms_lo (some (i : Int)) n = min i n := by
  show (if (i : Int) < 0 then n - (-(i : Int)).toNat else min (i : Int).toNat n) = _
  rw [if_neg (by omega), Int.toNat_natCast]
theorem kms_hi_n (i n : Nat) : kms_hi (some (i : Int)) n = min i n := kms_lo_n i n
theorem drop_min {α : Type} {l : List α} {i : Nat} : l.drop (min i l.length) = l.drop i := by
  by_cases hi : i ≤ l.length
  · rw [Nat.min_eq_left hi]
  · rw [Nat.min_eq_right (by omega), List.drop_length, List.drop_of_length_le (by omega)]
theorem cut_nn {α : Type} {l : List α} {i j : Nat} : cut l (some (i : Int)) (some (j : Int)) = (l.drop i).take (j - i) := by
  unfold cut
  rw [kms_lo_n, kms_hi_n, drop_min]
  by_cases h : j - i ≤ l.length - i
  · congr 1; omega
  · rw [List.take_of_length_le (by simp; omega), List.take_of_length_le (by simp; omega)]
theorem cut_n {α : Type} {l : List α} {i : Nat} : cut l (some (i : Int)) none = l.drop i := by
  unfold cut
  rw [kms_lo_n, drop_min]
  exact List.take_of_length_le (by simp [kms_hi]; omega)
theorem cut_t {α : Type} {l : List α} {j : Nat} : cut l none (some (j : Int)) = l.take j := by
  have h : cut l none (some (j : Int)) = (l.drop 0).take (j - 0) := by
    rw [← cut_nn]; unfold cut; rw [kms_lo_n]; simp [kms_lo]
  rw [h]; simp
theorem rngV_zero {a : Int} : rngV a 0 = [] := rfl
theorem rngV_succ {a : Int} {k : Nat} : rngV a (k + 1) = .int a :: rngV (a + 1) k := by
  unfold rngV
  rw [List.range_succ_eq_map]
  simp only [List.map_cons, List.map_map, List.cons.injEq]
  refine ⟨by simp, List.map_congr_left fun x _ => ?_⟩
  show V.int _ = V.int _
  congr 1
  simp only [Nat.succ_eq_add_one]
  omega
theorem big {k : Nat} (h : k ≤ 1000) : k ≤ 16777216 := Nat.le_trans h (by decide)
theorem SRC.rng0 {n k : Nat} (h : k ≤ 1000) : SRC n σ (.rng 0 k) (rngV ((0 : Nat) : Int) k) false fun _ => True := SRC.rng (by omega) (by omega) (by omega) (by omega) (by omega) (by omega)
theorem SRC.rngP {n i k : Nat} (h : i + k ≤ 1000) : SRC n σ (.rng i (i + k : Nat)) (rngV i k) false fun _ => True := SRC.rng (by omega) (by omega) (by omega) (by omega) (by omega) (by omega)
end
end
section
/-! rules that the second law wants: join, a sum of lists, a tuple's head -/
section
variable {n : Nat} {F : Fn} {ρ : List (String × V)} {σ : List Ob}
theorem MTH.join {x : List UInt8} : MTH n σ (.bytes x) "join" (.val (.builtin "bytes.join")) [.bytes x] := fun c s φ ok rs ov ⟨t, e⟩ pl Q E q => by
  subst e
  exact method_join (q _ _ s.toks rfl (.cons ⟨t, rfl⟩ .nil))
theorem octsR {h : Heap} {φ : List Addr} : ∀ {xs : List (List UInt8)} {vs : List Value}, VRs h φ (xs.map .bytes) vs → Octs vs xs
  | [], _, r => by cases r; exact .nil
  | x :: xs, _, r => by
    obtain ⟨v, us, rfl, ⟨t, rfl⟩, r⟩ := r
    exact .cons (octsR r)
theorem CALL.join {j : Nat} {xs : List (List UInt8)} {K : V → List Ob → Prop} (e : σ[j]? = some (.list (xs.map .bytes))) (hz : xs.flatten.length ≤ 1000) (h : K (.bytes xs.flatten) σ) : CALL n σ (.val (.builtin "bytes.join")) [.bytes [], .ref j] K := by
  rintro c s φ ok rs g vs rfl ⟨u, us, rfl, ⟨t, rfl⟩, ⟨v, ws, rfl, ⟨a, rfl, ha⟩, rws⟩⟩ Q E q
  cases rws
  obtain ⟨us, k, g, r⟩ := rs.at_ j a _ ha e
  exact call_join (octsR r) ⟨_, g, rfl, k, rfl⟩ (Nat.le_trans hz (by decide)) fun t' k => q _ _ _ _ _ _ h rs .refl ⟨t', rfl⟩
abbrev KAd (K : V → List Ob → Prop) : V → V → List Ob → Prop := fun a b σ => ∃ i j xs ys, a = .ref i ∧ b = .ref j ∧ σ[i]? = some (.list xs) ∧ σ[j]? = some (.list ys) ∧ xs.length + ys.length ≤ 1000 ∧ K (.ref σ.length) (σ ++ [.list (xs ++ ys)])
theorem KAd.of {i j : Nat} {xs ys : List V} {K : V → List Ob → Prop} (ei : σ[i]? = some (.list xs)) (ej : σ[j]? = some (.list ys)) (hz : xs.length + ys.length ≤ 1000) (h : K (.ref σ.length) (σ ++ [.list (xs ++ ys)])) : KAd K (.ref i) (.ref j) σ := ⟨i, j, xs, ys, rfl, rfl, ei, ej, hz, h⟩
theorem EV.addL {l r : Expr} {pos : Pos} {K : V → List Ob → Prop} (h : EV F ρ σ l (TH F ρ r (KAd K))) : EV F ρ σ (.BinOp l .Add r pos) K :=
  fun c env s φ ok fk rs rl Q E q => wpAny_BinOp (h c env s φ ok fk rs rl _ _ fun x a σ₁ h₁ tk₁ φ₁ k₁ rs₁ l₁ r₁ =>
    k₁ c env ⟨h₁, s.gens, s.drawn, tk₁, s.os⟩ φ₁ ok fk rs₁ (rl.le l₁) _ _ fun y b σ₂ h₂ tk₂ φ₂ k₂ rs₂ l₂ r₂ => by
      obtain ⟨i, j, xs, ys, rfl, rfl, ei, ej, hz, k₂⟩ := k₂
      obtain ⟨a, rfl, ha⟩ := l₂.vr r₁
      obtain ⟨b, rfl, hb⟩ := r₂
      obtain ⟨vs, m, g, rv⟩ := rs₂.at_ i a _ ha ei
      obtain ⟨us, m', g', ru⟩ := rs₂.at_ j b _ hb ej
      refine PySem.P.add_list g g' ?_ (by rw [List.size_toArray, List.size_toArray, rv.length, ru.length, sizeLine_eq]; exact Nat.le_trans hz (by decide))
      have k2 : ∀ b o, h₂.get? b = some o → (h₂.push { cls := .type "list", data := .seq (vs.toArray ++ us.toArray) }).get? b = some o := fun b o e => Heap.get?_push_of_some _ e
      obtain ⟨rs₅, l₅⟩ := rs₂.push (a := h₂.objs.size) (o := .list (xs ++ ys)) k2 noneAt ⟨_, Heap.get?_push_size _ rfl⟩ ⟨vs ++ us, 0, by rw [Heap.get?_push_size _ rfl]; simp, (VRs.append ru rv).mono fun b o e _ => k2 _ _ e⟩
      exact q _ _ _ _ tk₂ _ k₂ rs₅ ((l₁.trans l₂).trans l₅) (newRef rs₂.len))
end
section
variable {prog : Program} {w : World} {A : Around} {E : Value → Shared → Prop} {s : Shared}
theorem getItem_tup2 {t sl : Addr} {x y z : Value} {u : Tok} {Q : Value → Shared → Prop} (ht : IsTup s.heap t #[x, y, z]) (hs : s.heap.IsSliceOf sl .none (.int 2 u) .none)
    (h : Q (.ref s.heap.objs.size) { s with heap := s.heap.push { cls := .type "tuple", data := .seq #[x, y] } }) : wpAny (model prog w) A (getItem (.ref t) (.ref sl)) Q E s := by
  obtain ⟨os, hos, hcs, hds⟩ := id hs
  have hTs : s.TypeIs (.ref sl) "slice" := ⟨os, hos, hcs⟩
  unfold getItem
  try with_reducible refine wpAny_holding ?_
  first | refine wpAny_bind (wpAny_pure ?_) | skip
  refine wpAny_bind (wpAny_sequenceKey ht.typeIs (by decide) ?_)
  refine wpAny_bind (wpAny_callSpecial?_slot (name := Str.ofString "__getitem__") ht.typeIs slot_tuple_getitem
    (wpAny_call_entry slot_tuple_getitem ht.typeIs entry_tuple_getitem ?_ (args_tuple_getitem _ _)))
  show wpAny _ _ (Builtin.Tuple.tupleItemsOf (.ref t) >>= _) _ _ s
  refine wpAny_bind (tupleItemsOf_ ht ?_)
  refine wpAny_bind (wpAny_typeOf hTs ?_)
  rw [if_pos (by decide)]
  refine wpAny_bind ?_
  unfold Builtin.Slice.sliceApplied Builtin.Slice.sliceFields
  refine wpAny_bind (wpAny_bind (wpAny_field hos hds (x := .none) rfl (wpAny_bind (wpAny_field hos hds (x := .int 2 u) rfl (wpAny_bind (wpAny_field hos hds (x := .none) rfl (wpAny_pure ?_)))))))
  refine wpAny_bind (slicePart_none ?_)
  show wpAny _ _ (if ((1 : Int) == 0) = true then _ else _) _ _ s
  rw [if_neg (by decide)]
  refine wpAny_bind (slicePart_none (wpAny_bind (slicePart_int (wpAny_bind (wpAny_pure ?_)))))
  refine wpAny_pure ?_
  show wpAny _ _ (if ((0 : Int) == 0 && (1 : Int) == 1 && (2 : Nat) == 3) = true then _ else _) _ _ s
  rw [if_neg (by decide)]
  have hz : sizeOk (.seq #[x, y]) := by show (2 : Nat) ≤ sizeLine; rw [sizeLine_eq]; decide
  show wpAny _ _ (Builtin.Tuple.tupleExact #[x, y] >>= _) _ _ s
  first
    | exact wpAny_bind (m := Builtin.Tuple.tupleExact _) (wpAny_newObj_type (wpAny_pure ⟨_, rfl, wpAny_pure h⟩) hz)
    | exact wpAny_bind (m := Builtin.Tuple.tupleExact _) (wpAny_newObj_type (wpAny_bind (wpAny_pure (wpAny_pure ⟨_, rfl, wpAny_pure h⟩))) hz)
    | exact wpAny_bind (wpAny_bind (m := Builtin.Tuple.tupleExact _) (wpAny_newObj_type (wpAny_pure (wpAny_pure ⟨_, rfl, wpAny_pure h⟩)) hz))
    | exact wpAny_bind (wpAny_bind (m := Builtin.Tuple.tupleExact _) (wpAny_newObj_type (wpAny_pure ⟨_, rfl, wpAny_pure h⟩) hz))
end
section
variable {n : Nat} {F : Fn} {ρ : List (String × V)} {σ : List Ob}
abbrev KT2 (K : V → List Ob → Prop) : V → List Ob → Prop := fun v σ => ∃ x y z, v = .tup [x, y, z] ∧ K (.tup [x, y]) σ
theorem KT2.of {x y z : V} {K : V → List Ob → Prop} (h : K (.tup [x, y]) σ) : KT2 K (.tup [x, y, z]) σ := ⟨x, y, z, rfl, h⟩
theorem EV.cut2 {o : Expr} {p p' pos : Pos} {k : Nat} {K : V → List Ob → Prop} (h : EV F ρ σ o (KT2 K)) : EV F ρ σ (.Subscript o (.Slice Option.none (some (.Constant (.int 2) k p')) Option.none p) pos) K :=
  fun c env s φ ok fk rs rl Q E q => Subscript_ (h c env s φ ok fk rs rl _ _ fun x a σ₁ h₁ tk₁ φ₁ ⟨x1, x2, x3, e, k₁⟩ rs₁ l₁ r₁ => by
    subst e
    refine wpAny_Slice ((PRT.none (F := F) (ρ := ρ) (σ := σ₁) (K := fun o τ => o = Option.none ∧ τ = σ₁) ⟨rfl, rfl⟩) c env ⟨h₁, s.gens, s.drawn, tk₁, s.os⟩ φ₁ ok fk rs₁ (rl.le l₁) _ _ fun l lo' σ₂ h₂ tk₂ φ₂ k₂ rs₂ l₂ r₂ =>
      (PRT.some (EV.int (KP.of (K := fun o τ => o = some 2 ∧ τ = σ₂) ⟨rfl, rfl⟩))) c env ⟨h₂, s.gens, s.drawn, tk₂, s.os⟩ φ₂ ok fk rs₂ (rl.le (l₁.trans l₂)) _ _ fun u hi' σ₃ h₃ tk₃ φ₃ k₃ rs₃ l₃ r₃ => evalPart_none_step ?_)
    obtain ⟨e2, rfl⟩ := k₂
    obtain ⟨e3, rfl⟩ := k₃
    subst e2 e3
    obtain ⟨a, vs, kt, rfl, g, rv⟩ := (l₂.trans l₃).vr r₁
    obtain ⟨v1, vs, rfl, rv1, rv⟩ := rv
    obtain ⟨v2, vs, rfl, rv2, rv⟩ := rv
    obtain ⟨v3, vs, rfl, rv3, rv⟩ := rv
    cases rv
    cases r₂
    cases r₃
    rename_i tu
    have kk : ∀ b o, h₃.get? b = some o → (h₃.push { cls := .type "slice", data := .fields #[.none, .int 2 tu, .none] }).get? b = some o := fun b o e => Heap.get?_push_of_some _ e
    have ht : IsTup (h₃.push { cls := .type "slice", data := .fields #[.none, .int 2 tu, .none] }) a #[v1, v2, v3] := ⟨_, kk _ _ g, rfl, kt, rfl⟩
    refine tail_any (s := ⟨h₃.push _, s.gens, s.drawn, tk₃, s.os⟩) ht.typeIs slot_tuple_getitem.lookup (getItem_tup2 ht (Heap.IsSliceOf.new ..) ?_) rfl
    have l₄ := (l₁.trans (l₂.trans l₃))
    have rs₄ := rs₃.keep kk
    generalize h₃.push { cls := .type "slice", data := .fields #[.none, .int 2 tu, .none] } = H at kk rs₄ ht ⊢
    have k2 : ∀ b o, H.get? b = some o → (H.push { cls := .type "tuple", data := .seq #[v1, v2] }).get? b = some o := fun b o e => Heap.get?_push_of_some _ e
    have m : VRs h₃ φ₃ [x1, x2] [v1, v2] := .cons rv1 (.cons rv2 .nil)
    exact q _ _ _ _ _ _ k₁ (rs₄.keep k2) (l₄.trans (.of_keep fun b o e => k2 _ _ (kk _ _ e))) ⟨_, [v1, v2], 0, rfl, Heap.get?_push_size _ rfl, m.mono0 fun b o e _ => k2 _ _ (kk _ _ e)⟩)
end
end
section
theorem g_lies_at : ∀ w : World, nsIn (PK w.params) mainGlobals (Str.ofString "lies_at") = some (some (.ref 62)) := fun _ => by kernel_rfl
def f_lies_at := FNC.top (f := 62) 2 rfl (by kernel_rfl) rfl (by kernel_rfl) g_lies_at
theorem g_first_at : ∀ w : World, nsIn (PK w.params) mainGlobals (Str.ofString "first_at") = some (some (.ref 69)) := fun _ => by kernel_rfl
def f_first_at := FNC.top (f := 69) 3 rfl (by kernel_rfl) rfl (by kernel_rfl) g_first_at
theorem g_sent_part : ∀ w : World, nsIn (PK w.params) mainGlobals (Str.ofString "sent_part") = some (some (.ref 76)) := fun _ => by kernel_rfl
def f_sent_part := FNC.top (f := 76) 4 rfl (by kernel_rfl) rfl (by kernel_rfl) g_sent_part
theorem g_strung : ∀ w : World, nsIn (PK w.params) mainGlobals (Str.ofString "strung") = some (some (.ref 83)) := fun _ => by kernel_rfl
def f_strung := FNC.top (f := 83) 5 rfl (by kernel_rfl) rfl (by kernel_rfl) g_strung
theorem g_delimiter_at : ∀ w : World, nsIn (PK w.params) mainGlobals (Str.ofString "delimiter_at") = some (some (.ref 90)) := fun _ => by kernel_rfl
def f_delimiter_at := FNC.top (f := 90) 6 rfl (by kernel_rfl) rfl (by kernel_rfl) g_delimiter_at
theorem g_behind_delimiter : ∀ w : World, nsIn (PK w.params) mainGlobals (Str.ofString "behind_delimiter") = some (some (.ref 97)) := fun _ => by kernel_rfl
def f_behind_delimiter := FNC.top (f := 97) 7 rfl (by kernel_rfl) rfl (by kernel_rfl) g_behind_delimiter
theorem g_next_piece : ∀ w : World, nsIn (PK w.params) mainGlobals (Str.ofString "next_piece") = some (some (.ref 104)) := fun _ => by kernel_rfl
def f_next_piece := FNC.top (f := 104) 8 rfl (by kernel_rfl) rfl (by kernel_rfl) g_next_piece
theorem g_unstrung : ∀ w : World, nsIn (PK w.params) mainGlobals (Str.ofString "unstrung") = some (some (.ref 111)) := fun _ => by kernel_rfl
def f_unstrung := FNC.top (f := 111) 9 rfl (by kernel_rfl) rfl (by kernel_rfl) g_unstrung
theorem g_cut_by_sizes : ∀ w : World, nsIn (PK w.params) mainGlobals (Str.ofString "cut_by_sizes") = some (some (.ref 118)) := fun _ => by kernel_rfl
def f_cut_by_sizes := FNC.top (f := 118) 10 rfl (by kernel_rfl) rfl (by kernel_rfl) g_cut_by_sizes
theorem g_Hands : ∀ w : World, nsIn (PK w.params) mainGlobals (Str.ofString "Hands") = some (some (.ref 135)) := fun _ => by kernel_rfl
theorem g_lone_octets : ∀ w : World, nsIn (PK w.params) mainGlobals (Str.ofString "lone_octets") = some (some (.ref 146)) := fun _ => by kernel_rfl
def f_lone_octets := FNC.top (f := 146) 12 rfl (by kernel_rfl) rfl (by kernel_rfl) g_lone_octets
theorem g_pointed : ∀ w : World, nsIn (PK w.params) mainGlobals (Str.ofString "pointed") = some (some (.ref 153)) := fun _ => by kernel_rfl
def f_pointed := FNC.top (f := 153) 13 rfl (by kernel_rfl) rfl (by kernel_rfl) g_pointed
theorem g_moved_on : ∀ w : World, nsIn (PK w.params) mainGlobals (Str.ofString "moved_on") = some (some (.ref 160)) := fun _ => by kernel_rfl
def f_moved_on := FNC.top (f := 160) 14 rfl (by kernel_rfl) rfl (by kernel_rfl) g_moved_on
theorem g_string_with : ∀ w : World, nsIn (PK w.params) mainGlobals (Str.ofString "string_with") = some (some (.ref 167)) := fun _ => by kernel_rfl
def f_string_with := FNC.top (f := 167) 15 rfl (by kernel_rfl) rfl (by kernel_rfl) g_string_with
theorem g_lay_pieces : ∀ w : World, nsIn (PK w.params) mainGlobals (Str.ofString "lay_pieces") = some (some (.ref 174)) := fun _ => by kernel_rfl
def f_lay_pieces := FNC.top (f := 174) 16 rfl (by kernel_rfl) rfl (by kernel_rfl) g_lay_pieces
theorem g_unstring_with : ∀ w : World, nsIn (PK w.params) mainGlobals (Str.ofString "unstring_with") = some (some (.ref 179)) := fun _ => by kernel_rfl
def f_unstring_with := FNC.top (f := 179) 17 rfl (by kernel_rfl) rfl (by kernel_rfl) g_unstring_with
theorem g_law_pen : ∀ w : World, nsIn (PK w.params) mainGlobals (Str.ofString "_law_pen") = some (some (.ref 184)) := fun _ => by kernel_rfl
def f_law_pen := FNC.top (f := 184) 18 rfl (by kernel_rfl) rfl (by kernel_rfl) g_law_pen
theorem g_law_draw : ∀ w : World, nsIn (PK w.params) mainGlobals (Str.ofString "_law_draw") = some (some (.ref 191)) := fun _ => by kernel_rfl
def f_law_draw := FNC.top (f := 191) 19 rfl (by kernel_rfl) rfl (by kernel_rfl) g_law_draw
theorem g_law_pick : ∀ w : World, nsIn (PK w.params) mainGlobals (Str.ofString "_law_pick") = some (some (.ref 198)) := fun _ => by kernel_rfl
def f_law_pick := FNC.top (f := 198) 20 rfl (by kernel_rfl) rfl (by kernel_rfl) g_law_pick
theorem g_law_ref : ∀ w : World, nsIn (PK w.params) mainGlobals (Str.ofString "_law_ref") = some (some (.ref 205)) := fun _ => by kernel_rfl
def f_law_ref := FNC.top (f := 205) 21 rfl (by kernel_rfl) rfl (by kernel_rfl) g_law_ref
theorem g_law_keep : ∀ w : World, nsIn (PK w.params) mainGlobals (Str.ofString "_law_keep") = some (some (.ref 212)) := fun _ => by kernel_rfl
def f_law_keep := FNC.top (f := 212) 22 rfl (by kernel_rfl) rfl (by kernel_rfl) g_law_keep
theorem g_law_hands : ∀ w : World, nsIn (PK w.params) mainGlobals (Str.ofString "_law_hands") = some (some (.ref 219)) := fun _ => by kernel_rfl
theorem g_law_due : ∀ w : World, nsIn (PK w.params) mainGlobals (Str.ofString "_law_due") = some (some (.ref 226)) := fun _ => by kernel_rfl
def f_law_due := FNC.top (f := 226) 24 rfl (by kernel_rfl) rfl (by kernel_rfl) g_law_due
theorem g_law_cut_right : ∀ w : World, nsIn (PK w.params) mainGlobals (Str.ofString "_law_cut_right") = some (some (.ref 231)) := fun _ => by kernel_rfl
def f_law_cut_right := FNC.top (f := 231) 25 rfl (by kernel_rfl) rfl (by kernel_rfl) g_law_cut_right
theorem g_law_step_right : ∀ w : World, nsIn (PK w.params) mainGlobals (Str.ofString "_law_step_right") = some (some (.ref 238)) := fun _ => by kernel_rfl
def f_law_step_right := FNC.top (f := 238) 26 rfl (by kernel_rfl) rfl (by kernel_rfl) g_law_step_right
theorem g_law_laid_right : ∀ w : World, nsIn (PK w.params) mainGlobals (Str.ofString "_law_laid_right") = some (some (.ref 243)) := fun _ => by kernel_rfl
def f_law_laid_right := FNC.top (f := 243) 27 rfl (by kernel_rfl) rfl (by kernel_rfl) g_law_laid_right
theorem g_law : ∀ w : World, nsIn (PK w.params) mainGlobals (Str.ofString "law") = some (some (.ref 248)) := fun _ => by kernel_rfl
def f_law := FNC.top (f := 248) 28 rfl (by kernel_rfl) rfl (by kernel_rfl) g_law
theorem b_int : (∀ w : World, nsIn (PK w.params) mainGlobals (Str.ofString "int") = some none) ∧ bootBuiltins (Str.ofString "int") = some (.type "int") ∧ Str.ofString "int" ≠ "__name__" := ⟨fun _ => by kernel_rfl, by kernel_rfl, by decide⟩
theorem b_sum : (∀ w : World, nsIn (PK w.params) mainGlobals (Str.ofString "sum") = some none) ∧ bootBuiltins (Str.ofString "sum") = some (.builtin "sum") ∧ Str.ofString "sum" ≠ "__name__" := ⟨fun _ => by kernel_rfl, by kernel_rfl, by decide⟩
theorem b_len : (∀ w : World, nsIn (PK w.params) mainGlobals (Str.ofString "len") = some none) ∧ bootBuiltins (Str.ofString "len") = some (.builtin "len") ∧ Str.ofString "len" ≠ "__name__" := ⟨fun _ => by kernel_rfl, by kernel_rfl, by decide⟩
theorem b_abs : (∀ w : World, nsIn (PK w.params) mainGlobals (Str.ofString "abs") = some none) ∧ bootBuiltins (Str.ofString "abs") = some (.builtin "abs") ∧ Str.ofString "abs" ≠ "__name__" := ⟨fun _ => by kernel_rfl, by kernel_rfl, by decide⟩
theorem b_range : (∀ w : World, nsIn (PK w.params) mainGlobals (Str.ofString "range") = some none) ∧ bootBuiltins (Str.ofString "range") = some (.type "range") ∧ Str.ofString "range" ≠ "__name__" := ⟨fun _ => by kernel_rfl, by kernel_rfl, by decide⟩
theorem b_bytes : (∀ w : World, nsIn (PK w.params) mainGlobals (Str.ofString "bytes") = some none) ∧ bootBuiltins (Str.ofString "bytes") = some (.type "bytes") ∧ Str.ofString "bytes" ≠ "__name__" := ⟨fun _ => by kernel_rfl, by kernel_rfl, by decide⟩
theorem b_tuple : (∀ w : World, nsIn (PK w.params) mainGlobals (Str.ofString "tuple") = some none) ∧ bootBuiltins (Str.ofString "tuple") = some (.type "tuple") ∧ Str.ofString "tuple" ≠ "__name__" := ⟨fun _ => by kernel_rfl, by kernel_rfl, by decide⟩
theorem b_max : (∀ w : World, nsIn (PK w.params) mainGlobals (Str.ofString "max") = some none) ∧ bootBuiltins (Str.ofString "max") = some (.builtin "max") ∧ Str.ofString "max" ≠ "__name__" := ⟨fun _ => by kernel_rfl, by kernel_rfl, by decide⟩
theorem b_min : (∀ w : World, nsIn (PK w.params) mainGlobals (Str.ofString "min") = some none) ∧ bootBuiltins (Str.ofString "min") = some (.builtin "min") ∧ Str.ofString "min" ≠ "__name__" := ⟨fun _ => by kernel_rfl, by kernel_rfl, by decide⟩
end
local macro_rules | `(tactic| k_data) => `(tactic| (first
    | with_reducible refine' EX.cons ?_
    | with_reducible refine' EX.nil ?_
    | with_reducible refine' SEQ.next ?_
    | with_reducible refine' SEQ.ret ?_
    | with_reducible refine' SEQ.brk ?_
    | with_reducible refine' RET.ret ?_
    | with_reducible refine' RET.next ?_
    | with_reducible refine' FK.brk ?_
    | with_reducible refine' FK.ret ?_
    | with_reducible refine' EX1.ret ?_
    | with_reducible refine' EX1.brk ?_
    | with_reducible refine' EX1.if ?_
    | ((with_reducible refine' EX1.expr ?_ ?w1); (case w1 => exact fun _ => rfl))
    | ((with_reducible refine' EX1.set ?_ ?w1); (case w1 => exact fun _ => rfl))
    | ((with_reducible refine' EX1.setT ?_ ?w1 ?w2); (case w1 => exact fun _ => rfl); (case w2 => exact fun _ => rfl))
    | with_reducible refine' WHL.mk ?_
    | with_reducible refine' KSw.two ?_
    | with_reducible refine' KSw.three ?_
    | ((with_reducible refine' EX1.setS ?_ ?w1); (case w1 => exact fun _ => rfl))
    | ((with_reducible refine' EX1.setA ?_ ?w1); (case w1 => exact fun _ => rfl))
    | with_reducible refine' EV.none ?_
    | with_reducible refine' EV.int ?_
    | with_reducible refine' EV.str ?_
    | with_reducible refine' EV.bytes ?_
    | with_reducible refine' EV.bool ?_
    | with_reducible refine' EVs.nil ?_
    | ((with_reducible refine' EV.loc ?w1 ?w2 ?_ ?w3); (case w1 => exact rfl); (case w2 => exact rfl); (case w3 => exact rfl))
    | ((with_reducible refine' EV.glob ?w1 g_lies_at ?_ ?w3); (case w1 => exact rfl); (case w3 => exact rfl))
    | with_reducible refine' KA.fn f_lies_at ?_
    | ((with_reducible refine' EV.glob ?w1 g_first_at ?_ ?w3); (case w1 => exact rfl); (case w3 => exact rfl))
    | with_reducible refine' KA.fn f_first_at ?_
    | ((with_reducible refine' EV.glob ?w1 g_sent_part ?_ ?w3); (case w1 => exact rfl); (case w3 => exact rfl))
    | with_reducible refine' KA.fn f_sent_part ?_
    | ((with_reducible refine' EV.glob ?w1 g_strung ?_ ?w3); (case w1 => exact rfl); (case w3 => exact rfl))
    | with_reducible refine' KA.fn f_strung ?_
    | ((with_reducible refine' EV.glob ?w1 g_cut_by_sizes ?_ ?w3); (case w1 => exact rfl); (case w3 => exact rfl))
    | with_reducible refine' KA.fn f_cut_by_sizes ?_
    | ((with_reducible refine' EV.glob ?w1 g_law_keep ?_ ?w3); (case w1 => exact rfl); (case w3 => exact rfl))
    | with_reducible refine' KA.fn f_law_keep ?_
    | ((with_reducible refine' EV.glob ?w1 g_law_ref ?_ ?w3); (case w1 => exact rfl); (case w3 => exact rfl))
    | with_reducible refine' KA.fn f_law_ref ?_
    | ((with_reducible refine' EV.glob ?w1 g_lone_octets ?_ ?w3); (case w1 => exact rfl); (case w3 => exact rfl))
    | with_reducible refine' KA.fn f_lone_octets ?_
    | ((with_reducible refine' EV.glob ?w1 g_pointed ?_ ?w3); (case w1 => exact rfl); (case w3 => exact rfl))
    | with_reducible refine' KA.fn f_pointed ?_
    | ((with_reducible refine' EV.glob ?w1 g_moved_on ?_ ?w3); (case w1 => exact rfl); (case w3 => exact rfl))
    | with_reducible refine' KA.fn f_moved_on ?_
    | ((with_reducible refine' EV.glob ?w1 g_lay_pieces ?_ ?w3); (case w1 => exact rfl); (case w3 => exact rfl))
    | with_reducible refine' KA.fn f_lay_pieces ?_
    | ((with_reducible refine' EV.glob ?w1 g_unstrung ?_ ?w3); (case w1 => exact rfl); (case w3 => exact rfl))
    | with_reducible refine' KA.fn f_unstrung ?_
    | ((with_reducible refine' EV.glob ?w1 g_law_draw ?_ ?w3); (case w1 => exact rfl); (case w3 => exact rfl))
    | with_reducible refine' KA.fn f_law_draw ?_
    | ((with_reducible refine' EV.glob ?w1 g_unstring_with ?_ ?w3); (case w1 => exact rfl); (case w3 => exact rfl))
    | with_reducible refine' KA.fn f_unstring_with ?_
    | ((with_reducible refine' EV.glob ?w1 g_law_due ?_ ?w3); (case w1 => exact rfl); (case w3 => exact rfl))
    | with_reducible refine' KA.fn f_law_due ?_
    | ((with_reducible refine' EV.glob ?w1 g_string_with ?_ ?w3); (case w1 => exact rfl); (case w3 => exact rfl))
    | with_reducible refine' KA.fn f_string_with ?_
    | ((with_reducible refine' EV.glob ?w1 g_law_pen ?_ ?w3); (case w1 => exact rfl); (case w3 => exact rfl))
    | with_reducible refine' KA.fn f_law_pen ?_
    | ((with_reducible refine' EV.glob ?w1 g_law_pick ?_ ?w3); (case w1 => exact rfl); (case w3 => exact rfl))
    | with_reducible refine' KA.fn f_law_pick ?_
    | ((with_reducible refine' EV.glob ?w1 g_law_cut_right ?_ ?w3); (case w1 => exact rfl); (case w3 => exact rfl))
    | with_reducible refine' KA.fn f_law_cut_right ?_
    | ((with_reducible refine' EV.glob ?w1 g_law_step_right ?_ ?w3); (case w1 => exact rfl); (case w3 => exact rfl))
    | with_reducible refine' KA.fn f_law_step_right ?_
    | ((with_reducible refine' EV.glob ?w1 g_law_laid_right ?_ ?w3); (case w1 => exact rfl); (case w3 => exact rfl))
    | with_reducible refine' KA.fn f_law_laid_right ?_
    | ((with_reducible refine' EV.boot ?w1 b_len.1 b_len.2.1 b_len.2.2 ?_ ?w3); (case w1 => exact rfl); (case w3 => exact rfl))
    | ((with_reducible refine' EV.boot ?w1 b_range.1 b_range.2.1 b_range.2.2 ?_ ?w3); (case w1 => exact rfl); (case w3 => exact rfl))
    | ((with_reducible refine' EV.boot ?w1 b_min.1 b_min.2.1 b_min.2.2 ?_ ?w3); (case w1 => exact rfl); (case w3 => exact rfl))
    | ((with_reducible refine' EV.boot ?w1 b_int.1 b_int.2.1 b_int.2.2 ?_ ?w3); (case w1 => exact rfl); (case w3 => exact rfl))
    | ((with_reducible refine' EV.boot ?w1 b_sum.1 b_sum.2.1 b_sum.2.2 ?_ ?w3); (case w1 => exact rfl); (case w3 => exact rfl))
    | ((with_reducible refine' EV.boot ?w1 b_abs.1 b_abs.2.1 b_abs.2.2 ?_ ?w3); (case w1 => exact rfl); (case w3 => exact rfl))
    | ((with_reducible refine' EV.boot ?w1 b_bytes.1 b_bytes.2.1 b_bytes.2.2 ?_ ?w3); (case w1 => exact rfl); (case w3 => exact rfl))
    | ((with_reducible refine' EV.boot ?w1 b_tuple.1 b_tuple.2.1 b_tuple.2.2 ?_ ?w3); (case w1 => exact rfl); (case w3 => exact rfl))
    | ((with_reducible refine' EV.boot ?w1 b_max.1 b_max.2.1 b_max.2.2 ?_ ?w3); (case w1 => exact rfl); (case w3 => exact rfl))
    | ((with_reducible refine' EVs.cons ?_ ?w1); (case w1 => exact fun _ => rfl))
    | with_reducible refine' EV.tuple ?_
    | with_reducible refine' EV.list ?_
    | with_reducible refine' EV.bin ?_
    | with_reducible refine' EV.neg ?_
    | with_reducible refine' EV.ifx ?_
    | with_reducible refine' TST.not ?_
    | with_reducible refine' TST.lift ?_
    | with_reducible refine' TL.andN ?_
    | with_reducible refine' TL.orN ?_
    | with_reducible refine' TL.and ?_
    | with_reducible refine' TL.or ?_
    | with_reducible refine' EV.one ?_
    | with_reducible refine' EV.and ?_
    | with_reducible refine' PRT.none ?_
    | with_reducible refine' PRT.some ?_
    | with_reducible refine' ASG.name ?_
    | ((with_reducible refine' EV.cmp ?_ ?w1); (case w1 => exact rfl))
    | ((with_reducible refine' TST.cmp ?_ ?w1); (case w1 => exact rfl))
    | ((with_reducible refine' TST.chain ?_ ?w1); (case w1 => exact rfl))
    | ((with_reducible refine' TST.plain ?_ ?w1); (case w1 => exact fun _ => rfl))
    | ((with_reducible refine' EV.call ?_ ?w1 ?w2); (case w1 => exact fun _ => rfl); (case w2 => exact fun _ => rfl))
    | ((with_reducible refine' EV.meth ?_ ?w1 ?w2); (case w1 => exact fun _ => rfl); (case w2 => exact fun _ => rfl))
    | ((with_reducible refine' STO.loc ?w1 ?_); (case w1 => exact rfl))
    | ((with_reducible refine' ASG.tup ?_ ?w1 ?w2); (case w1 => exact rfl); (case w2 => exact fun _ => rfl))
    | ((with_reducible refine' EV.dict ?w1 ?w2 ?w3 ?w4 ?_); (case w1 => exact rfl); (case w2 => exact rfl); (case w3 => exact List.cons_ne_nil _ _); (case w4 => exact Nat.le_of_ble_eq_true rfl))
    | with_reducible refine' DPS.cons ?_
    | with_reducible refine' DPS.nil ?_
    | with_reducible refine' KB.addI ?_
    | with_reducible refine' KB.subI ?_
    | with_reducible refine' KTr.bool ?_
    | with_reducible refine' KNeg.of ?_
    | with_reducible refine' KP.of ?_
    | with_reducible refine' KCB.of ?_
    | with_reducible refine' KCL.of ?_
    | with_reducible refine' KA.bi ?_
    | with_reducible refine' KA.ty ?_
    | ((with_reducible refine' KS.t0 ?w1 ?_); (case w1 => exact rfl))
    | ((with_reducible refine' KS.t1 ?w1 ?_); (case w1 => exact rfl))
    | ((with_reducible refine' KS.t2 ?w1 ?_); (case w1 => exact rfl))
    | ((with_reducible refine' KS.t3 ?w1 ?_); (case w1 => exact rfl))
    | ((with_reducible refine' KS.t4 ?w1 ?_); (case w1 => exact rfl))
    | ((with_reducible refine' KS.t5 ?w1 ?_); (case w1 => exact rfl))
    | ((with_reducible refine' EV.sub ?_ ?w1 ?w2); (case w1 => exact fun _ _ => rfl); (case w2 => exact fun _ _ _ => rfl))
    | with_reducible refine' ASGs.cons ?_
    | with_reducible refine' ASGs.nil ?_
    | ((with_reducible refine' KTup.of ?w1 ?_); (case w1 => exact rfl))
    | ((with_reducible refine' KLst.of ?w1 ?_); (case w1 => exact rfl))
    | with_reducible refine' KC.of (Cmp.eqI _ _) ?_
    | with_reducible refine' KC.of (Cmp.neI _ _) ?_
    | with_reducible refine' KC.of (Cmp.ltI _ _) ?_
    | with_reducible refine' KC.of (Cmp.leI _ _) ?_
    | with_reducible refine' KC.of (Cmp.gtI _ _) ?_
    | with_reducible refine' KC.of (Cmp.geI _ _) ?_
    | with_reducible refine' KC.of (Cmp.eqS _ _) ?_
    | with_reducible refine' KC.of (Cmp.neS _ _) ?_
    | with_reducible refine' KC.of (Cmp.eqB _ _) ?_
    | with_reducible refine' KC.of (Cmp.neB _ _) ?_
    | ((with_reducible refine' KC.of (Cmp.isN _ ?w1) ?_); (case w1 => exact (by first | assumption | exact fun _ z => nomatch z)))
    | ((with_reducible refine' KC.of (Cmp.isntN _ ?w1) ?_); (case w1 => exact (by first | assumption | exact fun _ z => nomatch z)))
    | with_reducible refine' KCt.of (Cmp.eqI _ _) ?_
    | with_reducible refine' KCt.of (Cmp.neI _ _) ?_
    | with_reducible refine' KCt.of (Cmp.ltI _ _) ?_
    | with_reducible refine' KCt.of (Cmp.leI _ _) ?_
    | with_reducible refine' KCt.of (Cmp.gtI _ _) ?_
    | with_reducible refine' KCt.of (Cmp.geI _ _) ?_
    | with_reducible refine' KCt.of (Cmp.eqS _ _) ?_
    | with_reducible refine' KCt.of (Cmp.neS _ _) ?_
    | with_reducible refine' KCt.of (Cmp.eqB _ _) ?_
    | with_reducible refine' KCt.of (Cmp.neB _ _) ?_
    | ((with_reducible refine' KCt.of (Cmp.isN _ ?w1) ?_); (case w1 => exact (by first | assumption | exact fun _ z => nomatch z)))
    | ((with_reducible refine' KCt.of (Cmp.isntN _ ?w1) ?_); (case w1 => exact (by first | assumption | exact fun _ z => nomatch z)))
    | with_reducible refine' CALL.intI ?_
    | with_reducible refine' CALL.intB ?_
    | with_reducible refine' CALL.abs ?_
    | with_reducible refine' CALL.rng1 ?_
    | with_reducible refine' CALL.rng2 ?_
    | with_reducible refine' CALL.max2 ?_
    | with_reducible refine' CALL.min2 ?_))
section
-- GLOBALS lies_at first_at sent_part strung
-- BOOTS len range
local macro_rules | `(tactic| k_go) => `(tactic| (repeat (first
    | ((with_reducible refine' KD.of ?w1 ?_); (case w1 => exact (by kernel_rfl)))
    | ((with_reducible refine' KB.mulI ?w1 ?_); (case w1 => exact (by first | assumption | exact IntMulOk.of_left (by decide) | exact IntMulOk.of_right (by decide))))
    | ((with_reducible refine' KB.fmodI ?w1 ?_); (case w1 => exact (by first | assumption | decide)))
    | ((with_reducible refine' KB.fdivI ?w1 ?w2 ?_); (case w1 => exact (by first | assumption | decide)); (case w2 => exact (by first | assumption | decide)))
    | ((with_reducible refine' KB.powI ?w1 ?w2 ?w3 ?_); (case w1 => exact (by decide)); (case w2 => exact (by decide)); (case w3 => exact (by first | assumption | decide)))
    | k_data)))
theorem lies_at_ok {n : Nat} {σ : List Ob} {x y : List UInt8} {at_ : Int} {K : V → List Ob → Prop} (hx : x.length ≤ 1000) (hy : y.length ≤ 1000) (h : K (.bool (cut x (some at_) (some (at_ + y.length)) == y)) σ) :
    CALL (n + 1) σ (.val (.ref 62)) [.bytes x, .bytes y, .int at_] K := by
  refine CALL.def f_lies_at (ps := ["octets", "wanted", "at"]) (fun _ _ _ _ _ _ _ _ => by show _ = _; kernel_rfl) (by kernel_rfl) (by decide) (by kernel_rfl) rfl rfl rfl fun _ _ => ?_
  k_go
  refine EV.cutB ?_ (fun _ _ _ => rfl)
  k_go
  refine CALL.lenB (big (by assumption)) ?_
  k_go
  refine ⟨big (by assumption), ?_⟩
  k_go
  exact h
/-- the first place of an octet -/
def ixOf (c : UInt8) : List UInt8 → Nat → Int
  | [], _ => -1
  | b :: l, i => if b = c then i else ixOf c l (i + 1)
theorem one_at {x : List UInt8} {c b : UInt8} {l : List UInt8} {i : Nat} (h : x.drop i = b :: l) : (cut x (some (i : Int)) (some ((i : Int) + ([c] : List UInt8).length)) == [c]) = decide (b = c) := by
  have e : ((i : Int) + ([c] : List UInt8).length) = ((i + 1 : Nat) : Int) := by simp
  rw [e, cut_nn, h, Nat.add_sub_cancel_left]
  show ([b] == [c]) = _
  by_cases q : b = c <;> simp [q]
theorem first_at_ok {n : Nat} {σ : List Ob} {x : List UInt8} {c : UInt8} {K : V → List Ob → Prop} (hx : x.length ≤ 1000) (h : K (.int (ixOf c x 0)) σ) : CALL (n + 2) σ (.val (.ref 69)) [.bytes x, .bytes [c], .int 0] K := by
  refine CALL.def f_first_at (ps := ["octets", "wanted", "begin"]) (fun _ _ _ _ _ _ _ _ => by show _ = _; kernel_rfl) (by kernel_rfl) (by decide) (by kernel_rfl) rfl rfl rfl fun _ _ => ?_
  k_go
  refine CALL.lenB (by show 1 ≤ _; decide) ?_
  k_go
  refine KIf.no rfl ?_
  k_go
  refine EX1.for ?_ (fun _ _ => rfl)
  k_go
  refine CALL.lenB (big (by assumption)) ?_
  k_go
  refine KFor.of (SRC.rng0 hx) (.inl (fun _ _ => rfl)) [("octets", .bytes x), ("wanted", .bytes [c])] ⟨rfl, rfl, trivial⟩ ?_
  have e : ∃ i l, rngV ((0 : Nat) : Int) x.length = rngV (i : Nat) (List.length l) ∧ x.drop i = l ∧ ixOf c x 0 = ixOf c l i := ⟨0, x, rfl, rfl, rfl⟩
  obtain ⟨i, l, e1, e2, e3⟩ := e
  rw [e1]
  rw [e3] at h
  clear e1 e3
  induction l generalizing i with
  | nil =>
    refine ⟨trivial, ?_⟩
    k_go
    exact h
  | cons b l ih =>
    rw [List.length_cons, rngV_succ]
    refine ⟨trivial, ?_⟩
    k_go
    refine lies_at_ok hx (by show 1 ≤ _; decide) ?_
    rw [one_at e2]
    k_go
    unfold ixOf at h
    by_cases hb : b = c
    · rw [if_pos hb] at h
      refine KIf.yes (decide_eq_true hb) ?_
      k_go
      exact h
    · rw [if_neg hb] at h
      refine KIf.no (decide_eq_false hb) ?_
      k_go
      refine FK.next ?_ (ih (i + 1) h ?_)
      · exact ⟨rfl, rfl, trivial⟩
      rw [← List.drop_drop, e2]; rfl
theorem ixOf_neg {c : UInt8} : ∀ {x : List UInt8} {i : Nat}, ixOf c x i < 0 → x.takeWhile (· != c) = x
  | [], _, _ => rfl
  | b :: l, i, h => by
    unfold ixOf at h
    by_cases hb : b = c
    · rw [if_pos hb] at h; omega
    · rw [if_neg hb] at h
      rw [List.takeWhile_cons_of_pos (by simpa using hb), ixOf_neg h]
theorem ixOf_pos {c : UInt8} : ∀ {x : List UInt8} {i : Nat}, 0 ≤ ixOf c x i → ∃ k : Nat, ixOf c x i = (i : Int) + k ∧ x.take k = x.takeWhile (· != c)
  | [], _, h => by unfold ixOf at h; omega
  | b :: l, i, h => by
    unfold ixOf at h ⊢
    by_cases hb : b = c
    · rw [if_pos hb]; exact ⟨0, by simp, by simp [hb]⟩
    · rw [if_neg hb] at h ⊢
      obtain ⟨k, e1, e2⟩ := ixOf_pos h
      exact ⟨k + 1, by rw [e1]; omega, by rw [List.takeWhile_cons_of_pos (by simpa using hb), List.take_succ_cons, e2]⟩
/-- a delimiter: none, or one octet -/
def dV : Option UInt8 → V
  | none => .none
  | some c => .bytes [c]
def partOf (x : List UInt8) : Option UInt8 → List UInt8
  | none => x
  | some c => x.takeWhile (· != c)
theorem sent_part_ok {n : Nat} {σ : List Ob} {x : List UInt8} {d : Option UInt8} {K : V → List Ob → Prop} (hx : x.length ≤ 1000) (h : K (.bytes (partOf x d)) σ) : CALL (n + 3) σ (.val (.ref 76)) [.bytes x, dV d] K := by
  refine CALL.def f_sent_part (ps := ["octets", "delimiter"]) (fun _ _ _ _ _ _ _ => by show _ = _; kernel_rfl) (by kernel_rfl) (by decide) (by kernel_rfl) rfl rfl rfl fun _ _ => ?_
  cases d with
  | none =>
    k_go
    refine KIf.yes rfl ?_
    k_go
    exact h
  | some c =>
    k_go
    refine KIf.no rfl ?_
    k_go
    refine first_at_ok hx ?_
    k_go
    by_cases hi : ixOf c x 0 < 0
    · refine KI.yes (decide_eq_true hi) ?_
      k_go
      rw [← ixOf_neg hi]
      exact h
    · refine KI.no (decide_eq_false hi) ?_
      k_go
      refine EV.cutB ?_ (fun _ _ _ => rfl)
      k_go
      refine ⟨big (by assumption), ?_⟩
      k_go
      obtain ⟨k, e1, e2⟩ := ixOf_pos (Int.not_lt.mp hi)
      rw [e1, show ((0 : Nat) : Int) + (k : Int) = (k : Int) by omega, cut_t, e2]
      exact h
/-- STRING over what is sent -/
def strungF : List (List UInt8) → List UInt8 → Nat → List UInt8 × Nat × Bool
  | [], g, f => (g, f, false)
  | p :: ps, g, f =>
    if (p.take (g.length + 1 - f)).length < p.length then (g.take (f - 1) ++ p.take (g.length + 1 - f) ++ g.drop (f - 1 + (p.take (g.length + 1 - f)).length), f + (p.take (g.length + 1 - f)).length, true)
    else strungF ps (g.take (f - 1) ++ p.take (g.length + 1 - f) ++ g.drop (f - 1 + (p.take (g.length + 1 - f)).length)) (f + (p.take (g.length + 1 - f)).length)
def strungB (ps : List (List UInt8)) (g : List UInt8) (b : Nat) : List UInt8 × Nat × Bool := if 1 ≤ b ∧ b ≤ g.length then strungF ps g b else (g, b, true)
abbrev rowV (r : List UInt8 × Option UInt8) : V := .tup [.bytes r.1, dV r.2]
def tripV (r : List UInt8 × Nat × Bool) : V := .tup [.bytes r.1, .int r.2.1, .bool r.2.2]
def sentOf (rows : List (List UInt8 × Option UInt8)) : List (List UInt8) := rows.map fun r => partOf r.1 r.2
theorem partOf_le {x : List UInt8} {d : Option UInt8} (h : x.length ≤ 1000) : (partOf x d).length ≤ 1000 := by
  cases d with
  | none => exact h
  | some c => exact Nat.le_trans (List.takeWhile_sublist _).length_le h
theorem strung_ok {n j : Nat} {σ : List Ob} {rows : List (List UInt8 × Option UInt8)} {g : List UInt8} {b : Nat} {K : V → List Ob → Prop} (hj : σ[j]? = some (.list (rows.map rowV))) (hr : ∀ r ∈ rows, r.1.length ≤ 1000) (hg : g.length ≤ 1000)
    (h : K (tripV (strungB (sentOf rows) g b)) σ) : CALL (n + 4) σ (.val (.ref 83)) [.ref j, .bytes g, .int b] K := by
  refine CALL.def f_strung (ps := ["rows", "goal", "begin"]) (fun _ _ _ _ _ _ _ _ => by show _ = _; kernel_rfl) (by kernel_rfl) (by decide) (by kernel_rfl) rfl rfl rfl fun _ _ => ?_
  k_go
  refine KCh.of (Cmp.leI _ _) (fun e => ?_) (fun e => ?_)
  · have e : ¬ (1 : Int) ≤ b := of_decide_eq_false e
    refine KIf.yes rfl ?_
    k_go
    unfold strungB at h
    rw [if_neg (by omega)] at h
    exact h
  · have e : (1 : Int) ≤ b := of_decide_eq_true e
    k_go
    refine CALL.lenB (big hg) ?_
    k_go
    by_cases e2 : (b : Int) ≤ g.length
    · refine KIf.no (by rw [decide_eq_true e2]; rfl) ?_
      k_go
      refine EX1.for ?_ (fun _ _ => rfl)
      k_go
      refine KFor.of (SRC.list hj) (.inr rfl) [("goal", .bytes g), ("following", .int b)] ⟨rfl, rfl, trivial⟩ ?_
      unfold strungB at h
      rw [if_pos (by omega)] at h
      have e : 1 ≤ b := by omega
      have e2 : b ≤ g.length + 1 := by omega
      obtain ⟨G, hG, hσ⟩ : ∃ G : List Ob → Prop, G = (fun σ' => σ'[j]? = some (Ob.list (rows.map rowV))) ∧ G σ := ⟨_, rfl, hj⟩
      rw [← hG]
      clear hG hj
      rename_i z1 z2 z3 z4 z5
      clear z3 z4 z5
      induction rows generalizing g b with
      | nil =>
        refine ⟨hσ, ?_⟩
        k_go
        exact h
      | cons r rows ih =>
        refine ⟨hσ, ?_⟩
        have hr1 := hr r (.head _)
        have hp := partOf_le (d := r.2) hr1
        have hs : sentOf (r :: rows) = partOf r.1 r.2 :: sentOf rows := rfl
        rw [hs] at h
        k_go
        refine sent_part_ok hr1 ?_
        generalize partOf r.1 r.2 = p at h hp ⊢
        have hl : (p.take (g.length + 1 - b)).length ≤ g.length + 1 - b := by rw [List.length_take]; exact Nat.min_le_left _ _
        unfold strungF at h
        k_go
        refine CALL.lenB (big hg) ?_
        k_go
        refine EV.cutB ?_ (fun _ _ _ => rfl)
        k_go
        refine ⟨big hp, ?_⟩
        rw [show ((g.length : Int) + 1 - (b : Int)) = ((g.length + 1 - b : Nat) : Int) by omega, cut_t]
        generalize p.take (g.length + 1 - b) = q at h hl ⊢
        have ht : (g.take (b - 1)).length ≤ b - 1 := by rw [List.length_take]; exact Nat.min_le_left _ _
        have hgl : (g.take (b - 1) ++ q ++ g.drop (b - 1 + q.length)).length = g.length := by simp only [List.length_append, List.length_take, List.length_drop]; omega
        have hb : (b : Int) - 1 = ((b - 1 : Nat) : Int) := by omega
        k_go
        refine EV.cutB ?_ (fun _ _ _ => rfl)
        k_go
        refine ⟨big hg, ?_⟩
        rw [hb, cut_t]
        k_go
        refine KB.addB (big (by omega)) ?_
        k_go
        refine EV.cutB ?_ (fun _ _ _ => rfl)
        k_go
        refine CALL.lenB (big (by omega)) ?_
        k_go
        refine ⟨big hg, ?_⟩
        rw [hb, show ((b - 1 : Nat) : Int) + (q.length : Int) = ((b - 1 + q.length : Nat) : Int) from rfl, cut_n]
        k_go
        refine KB.addB (big (by rw [← List.length_append, hgl]; exact hg)) ?_
        generalize g.take (b - 1) ++ q ++ g.drop (b - 1 + q.length) = g' at h hgl ⊢
        k_go
        refine CALL.lenB (big (by omega)) ?_
        k_go
        refine CALL.lenB (big (by omega)) ?_
        k_go
        refine CALL.lenB (big hp) ?_
        k_go
        by_cases hlt : q.length < p.length
        · rw [if_pos hlt] at h
          refine KIf.yes (decide_eq_true (Int.ofNat_lt.mpr hlt)) ?_
          k_go
          exact h
        · rw [if_neg hlt] at h
          refine KIf.no (decide_eq_false fun z => hlt (Int.ofNat_lt.mp z)) ?_
          k_go
          refine FK.next ?_ (ih (fun r m => hr r (.tail _ m)) (hgl ▸ hg) h (by omega) (by omega))
          exact ⟨rfl, rfl, trivial⟩
    · refine KIf.yes (by rw [decide_eq_false e2]; rfl) ?_
      k_go
      unfold strungB at h
      rw [if_neg (by omega)] at h
      exact h
end
section
-- GLOBALS cut_by_sizes
-- BOOTS len range min
abbrev pcV (p : List UInt8 × List UInt8) : V := .tup [.bytes p.1, .bytes p.2]
/-- cutting by widths -/
def cutF (x : List UInt8) : List Nat → Nat → List (List UInt8 × List UInt8) × Nat
  | [], a => ([], a)
  | w :: ws, a => if a < x.length then (((x.drop a).take w, []) :: (cutF x ws (min (a + w) x.length)).1, (cutF x ws (min (a + w) x.length)).2) else cutF x ws a
def cutB (x : List UInt8) (ws : List Nat) (b : Nat) : List (List UInt8 × List UInt8) × Nat × Bool :=
  if 1 ≤ b ∧ b ≤ x.length then ((cutF x ws (b - 1)).1, (cutF x ws (b - 1)).2 + 1, decide ((cutF x ws (b - 1)).2 < x.length)) else ([], b, true)
abbrev wV (w : Nat) : V := .int (w : Int)
local macro_rules | `(tactic| k_go) => `(tactic| (repeat (first
    | ((with_reducible refine' KD.of ?w1 ?_); (case w1 => exact (by kernel_rfl)))
    | ((with_reducible refine' KB.mulI ?w1 ?_); (case w1 => exact (by first | assumption | exact IntMulOk.of_left (by decide) | exact IntMulOk.of_right (by decide))))
    | ((with_reducible refine' KB.fmodI ?w1 ?_); (case w1 => exact (by first | assumption | decide)))
    | ((with_reducible refine' KB.fdivI ?w1 ?w2 ?_); (case w1 => exact (by first | assumption | decide)); (case w2 => exact (by first | assumption | decide)))
    | ((with_reducible refine' KB.powI ?w1 ?w2 ?w3 ?_); (case w1 => exact (by decide)); (case w2 => exact (by decide)); (case w3 => exact (by first | assumption | decide)))
    | k_data)))
theorem cut_ok {n j b : Nat} {σ : List Ob} {x : List UInt8} {ws : List Nat} {K : V → List Ob → Prop} (hj : σ[j]? = some (.list (ws.map wV))) (hx : x.length ≤ 1000) (hw : ws.length ≤ 100)
    (h : K (.tup [.ref σ.length, .int ((cutB x ws b).2.1 : Nat), .bool (cutB x ws b).2.2]) (σ ++ [.list ((cutB x ws b).1.map pcV)])) : CALL (n + 1) σ (.val (.ref 118)) [.bytes x, .ref j, .int b] K := by
  refine CALL.def f_cut_by_sizes (ps := ["octets", "sizes", "begin"]) (fun _ _ _ _ _ _ _ _ => by show _ = _; kernel_rfl) (by kernel_rfl) (by decide) (by kernel_rfl) rfl rfl rfl fun _ _ => ?_
  k_go
  refine KCh.of (Cmp.leI _ _) (fun e => ?_) (fun e => ?_)
  · have e : ¬ (1 : Int) ≤ b := of_decide_eq_false e
    refine KIf.yes rfl ?_
    k_go
    unfold cutB at h
    rw [if_neg (by omega)] at h
    exact h
  have e : (1 : Int) ≤ b := of_decide_eq_true e
  k_go
  refine CALL.lenB (big hx) ?_
  k_go
  by_cases e2 : (b : Int) ≤ x.length
  · refine KIf.no (by rw [decide_eq_true e2]; rfl) ?_
    k_go
    refine EX1.swap (xs := [Str.ofString "pieces", Str.ofString "at"]) ?_ (fun _ => rfl) (fun _ => rfl)
    k_go
    refine EX1.for ?_ (fun _ _ => rfl)
    k_go
    refine KFor.of (SRC.list (at_app hj)) (.inl fun _ _ => rfl) [("octets", .bytes x), ("pieces", .ref σ.length), ("at", .int ((b - 1 : Nat) : Int))] ⟨rfl, rfl, ?_, trivial⟩ ?_
    · show some (V.int ((b : Int) - 1)) = _
      rw [show ((b : Int) - 1) = ((b - 1 : Nat) : Int) by omega]
    unfold cutB at h
    rw [if_pos (by omega)] at h
    obtain ⟨G, hG, hGs⟩ : ∃ G : List Ob → Prop, G = (fun σ' => σ'[j]? = some (Ob.list (ws.map wV))) ∧ ∀ l, G (σ ++ [Ob.list l]) := ⟨_, rfl, fun _ => at_app hj⟩
    rw [← hG]
    obtain ⟨m, acc, e4, e5, e6, e7, e8⟩ : ∃ m acc, m ≤ x.length ∧ (σ ++ [.list []] : List Ob) = σ ++ [.list (acc.map pcV)] ∧ b - 1 = m ∧ cutF x ws (b - 1) = (acc ++ (cutF x ws m).1, (cutF x ws m).2) ∧ acc.length + ws.length ≤ 100 :=
      ⟨b - 1, [], by omega, rfl, rfl, rfl, by simpa using hw⟩
    rw [e5, e6]
    rw [e7] at h
    clear e5 e6 e7 e2 e hG hj hw
    dsimp only at h
    induction ws generalizing m acc with
    | nil =>
      refine ⟨hGs _, ?_⟩
      k_go
      refine CALL.lenB (big hx) ?_
      k_go
      have e : cutF x [] m = ([], m) := rfl
      rw [e, List.append_nil] at h
      rw [show decide ((m : Int) < (x.length : Int)) = decide (m < x.length) by simp]
      exact h
    | cons w ws ih =>
      refine ⟨hGs _, ?_⟩
      rw [List.length_cons] at e8
      k_go
      refine CALL.lenB (big hx) ?_
      k_go
      unfold cutF at h
      by_cases hlt : m < x.length
      · rw [if_pos hlt] at h
        refine KIf.yes (decide_eq_true (Int.ofNat_lt.mpr hlt)) ?_
        k_go
        refine KM.of (MTH.append at_new) ?_
        k_go
        refine EV.cutB ?_ (fun _ _ _ => rfl)
        k_go
        refine ⟨big hx, ?_⟩
        rw [show ((m : Int) + (w : Int)) = ((m + w : Nat) : Int) by omega, cut_nn, Nat.add_sub_cancel_left]
        k_go
        refine CALL.append at_new (by rw [List.length_map]; omega) ?_
        rw [set_new]
        k_go
        refine CALL.lenB (big hx) ?_
        k_go
        rw [show acc.map pcV ++ [V.tup [V.bytes ((x.drop m).take w), V.bytes []]] = (acc ++ [((x.drop m).take w, [])]).map pcV by rw [List.map_append]; rfl]
        rw [show (if (x.length : Int) < (m : Int) + (w : Int) then (x.length : Int) else (m : Int) + (w : Int)) = ((min (m + w) x.length : Nat) : Int) by split <;> omega]
        k_go
        refine FK.next ?_ (ih (min (m + w) x.length) (acc ++ [((x.drop m).take w, [])]) ?_ ?_ ?_)
        · exact ⟨rfl, rfl, rfl, trivial⟩
        · rw [List.append_assoc]
          exact h
        · exact Nat.min_le_right _ _
        · rw [List.length_append]; simp; omega
      · rw [if_neg hlt] at h
        refine KIf.no (decide_eq_false fun z => hlt (Int.ofNat_lt.mp z)) ?_
        k_go
        refine FK.next ?_ (ih m acc h e4 (by omega))
        exact ⟨rfl, rfl, rfl, trivial⟩
  · refine KIf.yes (by rw [decide_eq_false e2]; rfl) ?_
    k_go
    unfold cutB at h
    rw [if_neg (by omega)] at h
    exact h
end
section
-- HANDS
-- GLOBALS law_keep law_ref
-- BOOTS len
theorem hC : ClsOK 135 := ⟨fun _ => by kernel_rfl, fun _ => by kernel_rfl, fun _ => by kernel_rfl, fun _ => by kernel_rfl, fun _ => by kernel_rfl, fun _ => by kernel_rfl⟩
theorem FNC.KP {st : Stmt} {f : Addr} {name qual : Str} {params : Arguments} {body : List Stmt} {scope : Scope} {doc pm cdv ct oc : Value} {an od : Option Addr} {osl : Array (Option Value)} (e : fnOf st = (params, body, scope))
    (ho : ∀ w : World, (PK w.params).lookup f = some ⟨oc, od, .func (fnX name qual (fnOf st).1 (fnOf st).2.1 (fnOf st).2.2 [] .none .none doc pm an cdv ct), osl⟩) (hcd : ∀ w : World, codeIn (PK w.params) cdv qual = true) : FNC f name qual params body scope (· = cdv) := by
  rw [e] at ho
  exact FNC.K ho hcd
def f_init := FNC.KP (st := clsOf (stAt 13)) (f := 132) rfl (fun _ => rfl) (fun _ => by kernel_rfl)
local macro_rules | `(tactic| k_go) => `(tactic| (repeat (first
    | ((with_reducible refine' EV.cell ?w1 ?w2 ?w3 ?_ ?w4 ?w5); (case w1 => exact (by first | exact .inl rfl | exact .inr rfl)); (case w2 => exact rfl); (case w3 => exact (by first | exact HND.c0 (by assumption) | exact HND.c1 (by assumption) | assumption | exact at_app (by assumption) | exact at_app (at_app (by assumption)))); (case w4 => exact rfl); (case w5 => exact rfl))
    | ((with_reducible refine' KD.of ?w1 ?_); (case w1 => exact (by kernel_rfl)))
    | ((with_reducible refine' KB.mulI ?w1 ?_); (case w1 => exact (by first | assumption | exact IntMulOk.of_left (by decide) | exact IntMulOk.of_right (by decide))))
    | ((with_reducible refine' KB.fmodI ?w1 ?_); (case w1 => exact (by first | assumption | decide)))
    | ((with_reducible refine' KB.fdivI ?w1 ?w2 ?_); (case w1 => exact (by first | assumption | decide)); (case w2 => exact (by first | assumption | decide)))
    | ((with_reducible refine' KB.powI ?w1 ?w2 ?w3 ?_); (case w1 => exact (by decide)); (case w2 => exact (by decide)); (case w3 => exact (by first | assumption | decide)))
    | k_data)))
theorem init_ok {n i j : Nat} {σ : List Ob} {v1 v2 v3 v4 v5 v6 v7 : V} {K : V → List Ob → Prop} (hi : σ[i]? = some (.inst 135 j)) (hj : σ[j]? = some (.ns [])) (ne : j ≠ i)
    (h : K .none (σ.set j (.ns [("fetch", v1), ("plant", v2), ("amount", v3), ("keep", v4), ("spot", v5), ("bring", v6), ("room", v7)]))) : CODE (n + 1) σ (.val (.ref 132)) [.ref i, v1, v2, v3, v4, v5, v6, v7] K := by
  refine CODE.def f_init (ps := ["self", "fetch", "plant", "amount", "keep", "spot", "bring", "room"]) (fun _ _ _ _ _ _ _ _ _ _ _ _ _ => by show _ = _; kernel_rfl) (by kernel_rfl) (by decide) (by kernel_rfl) rfl rfl rfl fun _ _ => ?_
  k_go
  refine ATT.inst (y := "fetch") hC hi hj rfl (Nat.le_of_ble_eq_true rfl) (fun _ => by kernel_rfl) ?_
  k_go
  refine ATT.inst (y := "plant") hC (at_ne ne hi) (at_set hj) rfl (Nat.le_of_ble_eq_true rfl) (fun _ => by kernel_rfl) ?_
  rw [List.set_set]
  k_go
  refine ATT.inst (y := "amount") hC (at_ne ne hi) (at_set hj) rfl (Nat.le_of_ble_eq_true rfl) (fun _ => by kernel_rfl) ?_
  rw [List.set_set]
  k_go
  refine ATT.inst (y := "keep") hC (at_ne ne hi) (at_set hj) rfl (Nat.le_of_ble_eq_true rfl) (fun _ => by kernel_rfl) ?_
  rw [List.set_set]
  k_go
  refine ATT.inst (y := "spot") hC (at_ne ne hi) (at_set hj) rfl (Nat.le_of_ble_eq_true rfl) (fun _ => by kernel_rfl) ?_
  rw [List.set_set]
  k_go
  refine ATT.inst (y := "bring") hC (at_ne ne hi) (at_set hj) rfl (Nat.le_of_ble_eq_true rfl) (fun _ => by kernel_rfl) ?_
  rw [List.set_set]
  k_go
  refine ATT.inst (y := "room") hC (at_ne ne hi) (at_set hj) rfl (Nat.le_of_ble_eq_true rfl) (fun _ => by kernel_rfl) ?_
  rw [List.set_set]
  k_go
  exact h
/-- the lambdas that the hands hold, by number -/
def lamAt (k : Nat) : Expr := match (fnOf (stAt 26)).2.1 with
  | [.Return (some (.Call _ args _ _)) _] => (args[k]?).getD (.Constant .none 0 ⟨0, 0, 0, 0⟩)
  | _ => .Constant .none 0 ⟨0, 0, 0, 0⟩
def closOf (e : Expr) (γ : List (String × Nat)) : Ob := match e with
  | .Lambda params body scope _ => .clos params body scope γ
  | _ => .cell none
abbrev gI (b : Nat) : List (String × Nat) := [("items", b)]
abbrev gN (b : Nat) : List (String × Nat) := [("numbers", b + 1)]
/-- what the maker of hands lays -/
def handsObs (b I N : Nat) : List Ob := [.cell (some (.ref I)), .cell (some (.ref N)), closOf (lamAt 0) (gI b), closOf (lamAt 1) (gI b), closOf (lamAt 2) (gN b), closOf (lamAt 3) (gN b), closOf (lamAt 4) [], closOf (lamAt 5) (gI b), closOf (lamAt 6) (gI b),
  .ns [("fetch", .ref (b + 2)), ("plant", .ref (b + 3)), ("amount", .ref (b + 4)), ("keep", .ref (b + 5)), ("spot", .ref (b + 6)), ("bring", .ref (b + 7)), ("room", .ref (b + 8))], .inst 135 (b + 9)]
abbrev handsA (b I N : Nat) : List Ob := (handsObs b I N).take 9
def f_law_hands := FNC.KP (st := stAt 26) (f := 219) rfl (fun _ => rfl) (fun _ => by kernel_rfl)
theorem KPR.hands {n : Nat} {σ : List Ob} : KPR n σ (.val (.ref 135)) := KPR.cls (fun _ => rfl) hC.mi
theorem EV.lamO {F : Fn} {ρ : List (String × V)} {σ : List Ob} {params : Arguments} {body : Expr} {scope : Scope} {pos : Pos} {K : V → List Ob → Prop} (ob : Ob) (m : Nat) (hm : σ.length = m) (ho : ob = .clos params body scope (gam F.γ scope.names)) (hdef : ∀ env, defaultsOf params env = ([], [])) (hcd : F.cd = .ref PC) (hq : F.qual ++ "<lambda>" = lamQual)
    (hfr : freeOK F.γ scope.names = true) (h : K (.ref m) (σ ++ [ob])) : EV F ρ σ (.Lambda params body scope pos) K := by
  subst ho hm
  exact EV.lam hdef hcd hq hfr (fun _ => by kernel_rfl) h
theorem snoc2 {σ τ : List Ob} {o : Ob} : (σ ++ τ) ++ [o] = σ ++ (τ ++ [o]) := List.append_assoc ..
theorem KA.hands {n : Nat} {σ : List Ob} {xs : List V} {K : V → List Ob → Prop} (h : CALL n σ (.val (.ref 135)) xs K) : KA n (.val (.ref 135)) K xs σ := ⟨KPR.hands, h⟩
theorem at_one {σ : List Ob} {o p : Ob} : (σ ++ [o, p])[σ.length]? = some o := by simp
theorem at_two {σ : List Ob} {o p : Ob} : (σ ++ [o, p])[σ.length + 1]? = some p := by simp
theorem set_one {σ : List Ob} {o p q : Ob} {m : Nat} (e : σ.length = m) : (σ ++ [o, p]).set m q = σ ++ [q, p] := by subst e; simp [List.set_append]
theorem law_hands_ok {n I N : Nat} {σ : List Ob} {K : V → List Ob → Prop} (h : K (.ref (σ.length + 10)) (σ ++ handsObs σ.length I N)) : CALL (n + 3) σ (.val (.ref 219)) [.ref I, .ref N] K := by
  refine CALL.cells f_law_hands (ps := ["items", "numbers"]) (cs := ["items", "numbers"]) (fun _ _ _ _ _ _ _ => by show _ = _; kernel_rfl) (by decide) (by kernel_rfl) (by kernel_rfl) (by decide) (by kernel_rfl) rfl rfl rfl fun cdv hcd => ?_
  subst hcd
  k_go
  refine EV.glob rfl g_Hands ?_ rfl
  k_go
  refine EV.lamO (closOf (lamAt 0) (gI σ.length)) (σ.length + 2) (List.length_append ..) (by kernel_rfl) (fun _ => rfl) rfl (by kernel_rfl) (by kernel_rfl) ?_
  rw [snoc2]
  k_go
  refine EV.lamO (closOf (lamAt 1) (gI σ.length)) (σ.length + 3) (List.length_append ..) (by kernel_rfl) (fun _ => rfl) rfl (by kernel_rfl) (by kernel_rfl) ?_
  rw [snoc2]
  k_go
  refine EV.lamO (closOf (lamAt 2) (gN σ.length)) (σ.length + 4) (List.length_append ..) (by kernel_rfl) (fun _ => rfl) rfl (by kernel_rfl) (by kernel_rfl) ?_
  rw [snoc2]
  k_go
  refine EV.lamO (closOf (lamAt 3) (gN σ.length)) (σ.length + 5) (List.length_append ..) (by kernel_rfl) (fun _ => rfl) rfl (by kernel_rfl) (by kernel_rfl) ?_
  rw [snoc2]
  k_go
  refine EV.lamO (closOf (lamAt 4) []) (σ.length + 6) (List.length_append ..) (by kernel_rfl) (fun _ => rfl) rfl (by kernel_rfl) (by kernel_rfl) ?_
  rw [snoc2]
  k_go
  refine EV.lamO (closOf (lamAt 5) (gI σ.length)) (σ.length + 7) (List.length_append ..) (by kernel_rfl) (fun _ => rfl) rfl (by kernel_rfl) (by kernel_rfl) ?_
  rw [snoc2]
  k_go
  refine EV.lamO (closOf (lamAt 6) (gI σ.length)) (σ.length + 8) (List.length_append ..) (by kernel_rfl) (fun _ => rfl) rfl (by kernel_rfl) (by kernel_rfl) ?_
  rw [snoc2]
  k_go
  refine KA.hands ?_
  show CALL (n + 2) (σ ++ handsA σ.length I N) _ _ _
  refine CALL.make (fI := 132) hC (fun _ => by kernel_rfl) (fun _ => by kernel_rfl) ?_
  have e : (σ ++ handsA σ.length I N).length = σ.length + 9 := List.length_append ..
  rw [e]
  refine init_ok (j := σ.length + 9) (e ▸ at_two) (e ▸ at_one) (by omega) ⟨rfl, ?_⟩
  rw [set_one e, List.append_assoc]
  exact h
/-! typed dicts -/
def DT {α : Type} (f : α → V) (l : List (Str × α)) : Ob := .dict (l.map fun p => (p.1, f p.2))
abbrev DB (l : List (Str × List UInt8)) : Ob := DT V.bytes l
abbrev DI (l : List (Str × Int)) : Ob := DT V.int l
def put {α : Type} (k : Str) (v : α) (l : List (Str × α)) : List (Str × α) := if l.any (fun p => p.1 = k) then l.map (fun p => if p.1 = k then (p.1, v) else p) else l ++ [(k, v)]
theorem putD_map {α : Type} {f : α → V} {k : Str} {v : α} {l : List (Str × α)} : putD k (f v) (l.map fun p => (p.1, f p.2)) = (put k v l).map fun p => (p.1, f p.2) := by
  unfold putD put
  rw [show (l.map fun p => (p.1, f p.2)).any (fun p => decide (p.1 = k)) = l.any (fun p => decide (p.1 = k)) by rw [List.any_map]; rfl]
  by_cases h : (l.any fun p => decide (p.1 = k)) = true
  · rw [if_pos h, if_pos h, List.map_map, List.map_map]
    refine List.map_congr_left fun p _ => ?_
    by_cases e : p.1 = k
    · simp [e]
    · simp [e]
  · rw [if_neg h, if_neg h, List.map_append]; rfl
theorem look_map {α : Type} {f : α → V} {k : Str} {l : List (Str × α)} {v : α} (h : l.lookup k = some v) : (l.map fun p => (p.1, f p.2)).lookup k = some (f v) := by
  induction l with
  | nil => cases h
  | cons p l ih =>
    rw [List.map_cons, List.lookup_cons]
    rw [List.lookup_cons] at h
    split at h
    · cases h; rfl
    · exact ih h
theorem Sub.dt {n j : Nat} {σ : List Ob} {α : Type} {f : α → V} {k : Str} {l : List (Str × α)} {v : α} (e : σ[j]? = some (DT f l)) (h : l.lookup k = some v) : Sub n σ (.ref j) (.str k) (f v) := Sub.dict e (look_map h)
theorem SET.dt {n j : Nat} {σ : List Ob} {α : Type} {f : α → V} {k : Str} {l : List (Str × α)} {v : α} {K : List Ob → Prop} (e : σ[j]? = some (DT f l)) (hz : l.length ≤ 1000) (h : K (σ.set j (DT f (put k v l)))) : SET n σ (.ref j) (.str k) (f v) K :=
  SET.dict e (by rw [List.length_map]; exact hz) (by rw [putD_map]; exact h)
theorem law_lay_ok {n j : Nat} {σ : List Ob} {α : Type} {f : α → V} {k : Str} {l : List (Str × α)} {v : α} {K : V → List Ob → Prop} (e : σ[j]? = some (DT f l)) (hz : l.length ≤ 1000) (h : K .none (σ.set j (DT f (put k v l)))) : CALL (n + 1) σ (.val (.ref 212)) [.ref j, .str k, f v] K := by
  refine CALL.def f_law_keep (ps := ["table", "name", "worth"]) (fun _ _ _ _ _ _ _ _ => by show _ = _; kernel_rfl) (by kernel_rfl) (by decide) (by kernel_rfl) rfl rfl rfl fun _ _ => ?_
  k_go
  refine SET.dt e hz ?_
  k_go
  exact h
/-! the hands at work -/
structure HND (σ : List Ob) (b I N : Nat) : Prop where
  at_ : ∀ {k : Nat} {o : Ob}, (handsObs b I N)[k]? = some o → σ[b + k]? = some o
  hI : I < b
  hN : N < b
theorem HND.ext {σ σ' : List Ob} {b I N : Nat} (h : HND σ b I N) (e : Ext [I, N] σ σ') : HND σ' b I N := ⟨fun {k o} q => e.at_ (fun m => by
  have := h.hI; have := h.hN
  simp at m; omega) (h.at_ q), h.hI, h.hN⟩
theorem HND.c0 {σ : List Ob} {b I N : Nat} (h : HND σ b I N) : σ[b]? = some (.cell (some (.ref I))) := h.at_ (k := 0) rfl
theorem HND.c1 {σ : List Ob} {b I N : Nat} (h : HND σ b I N) : σ[b + 1]? = some (.cell (some (.ref N))) := h.at_ (k := 1) rfl
theorem HND.mth {σ : List Ob} {b I N n k : Nat} {y : String} (h : HND σ b I N) (hy : List.lookup y [("fetch", V.ref (b + 2)), ("plant", .ref (b + 3)), ("amount", .ref (b + 4)), ("keep", .ref (b + 5)), ("spot", .ref (b + 6)), ("bring", .ref (b + 7)), ("room", .ref (b + 8))] = some (.ref k))
    (hf : ∀ w : World, findIn (PK w.params) (.ref 135) (Str.ofString y) = some none) : MTH n σ (.ref (b + 10)) (Str.ofString y) (.ref k) [] := MTH.inst hC (h.at_ (k := 10) rfl) (h.at_ (k := 9) rfl) hy hf
theorem KMA.of {n : Nat} {σ : List Ob} {f : V} {first xs : List V} {K : V → List Ob → Prop} (p : KPR n σ f) (h : CALL n σ f (first ++ xs) K) : KMA n f first K xs σ := ⟨p, h⟩
theorem HND.p2 {σ : List Ob} {b I N n : Nat} (h : HND σ b I N) : KPR n σ (.ref (b + 2)) := KPR.clos (h.at_ (k := 2) rfl)
theorem HND.p3 {σ : List Ob} {b I N n : Nat} (h : HND σ b I N) : KPR n σ (.ref (b + 3)) := KPR.clos (h.at_ (k := 3) rfl)
theorem HND.p4 {σ : List Ob} {b I N n : Nat} (h : HND σ b I N) : KPR n σ (.ref (b + 4)) := KPR.clos (h.at_ (k := 4) rfl)
theorem HND.p5 {σ : List Ob} {b I N n : Nat} (h : HND σ b I N) : KPR n σ (.ref (b + 5)) := KPR.clos (h.at_ (k := 5) rfl)
theorem HND.p6 {σ : List Ob} {b I N n : Nat} (h : HND σ b I N) : KPR n σ (.ref (b + 6)) := KPR.clos (h.at_ (k := 6) rfl)
theorem HND.p7 {σ : List Ob} {b I N n : Nat} (h : HND σ b I N) : KPR n σ (.ref (b + 7)) := KPR.clos (h.at_ (k := 7) rfl)
theorem HND.p8 {σ : List Ob} {b I N n : Nat} (h : HND σ b I N) : KPR n σ (.ref (b + 8)) := KPR.clos (h.at_ (k := 8) rfl)
abbrev refV (x : Str) : V := .tup [.str "ref", .str x, .tup [], .tup [], .none]
/-- an operand and the octets it gives -/
inductive OPR (d : List (Str × List UInt8)) : V → List UInt8 → Prop
  | ref {k : Str} {x : List UInt8} (h : d.lookup k = some x) : OPR d (refV k) x
local macro_rules | `(tactic| k_go) => `(tactic| (repeat (first
    | ((with_reducible refine' EV.cell ?w1 ?w2 ?w3 ?_ ?w4 ?w5); (case w1 => exact (by first | exact .inl rfl | exact .inr rfl)); (case w2 => exact rfl); (case w3 => exact (by first | exact HND.c0 (by assumption) | exact HND.c1 (by assumption) | assumption | exact at_app (by assumption) | exact at_app (at_app (by assumption)))); (case w4 => exact rfl); (case w5 => exact rfl))
    | ((with_reducible refine' KD.of ?w1 ?_); (case w1 => exact (by kernel_rfl)))
    | ((with_reducible refine' KB.mulI ?w1 ?_); (case w1 => exact (by first | assumption | exact IntMulOk.of_left (by decide) | exact IntMulOk.of_right (by decide))))
    | ((with_reducible refine' KB.fmodI ?w1 ?_); (case w1 => exact (by first | assumption | decide)))
    | ((with_reducible refine' KB.fdivI ?w1 ?w2 ?_); (case w1 => exact (by first | assumption | decide)); (case w2 => exact (by first | assumption | decide)))
    | ((with_reducible refine' KB.powI ?w1 ?w2 ?w3 ?_); (case w1 => exact (by decide)); (case w2 => exact (by decide)); (case w3 => exact (by first | assumption | decide)))
    | k_data)))
theorem fetch_ok {n b I N : Nat} {σ : List Ob} {d : List (Str × List UInt8)} {v : V} {x : List UInt8} {K : V → List Ob → Prop} (hh : HND σ b I N) (hd : σ[I]? = some (DB d)) (o : OPR d v x) (h : K (.bytes x) σ) : CALL (n + 1) σ (.ref (b + 2)) [v, .int 1] K := by
  refine CALL.clos (ps := ["operand", "size"]) (hh.at_ (k := 2) rfl) (fun _ _ _ _ _ _ _ _ => by show _ = _; kernel_rfl) (by kernel_rfl) (by decide) (by kernel_rfl) rfl rfl rfl fun _ _ => ?_
  cases o with
  | ref e =>
    k_go
    exact KS.of (Sub.dt hd e) h
theorem plant_ok {n b I N : Nat} {σ : List Ob} {d : List (Str × List UInt8)} {k : Str} {x : List UInt8} {K : V → List Ob → Prop} (hh : HND σ b I N) (hd : σ[I]? = some (DB d)) (hz : d.length ≤ 1000) (h : K .none (σ.set I (DB (put k x d)))) : CALL (n + 2) σ (.ref (b + 3)) [refV k, .bytes x] K := by
  refine CALL.clos (ps := ["ref", "octets"]) (hh.at_ (k := 3) rfl) (fun _ _ _ _ _ _ _ _ => by show _ = _; kernel_rfl) (by kernel_rfl) (by decide) (by kernel_rfl) rfl rfl rfl fun _ _ => ?_
  k_go
  exact law_lay_ok hd hz h
theorem amount_ok {n b I N : Nat} {σ : List Ob} {d : List (Str × Int)} {k : Str} {x : Int} {K : V → List Ob → Prop} (hh : HND σ b I N) (hd : σ[N]? = some (DI d)) (hx : d.lookup k = some x) (h : K (.int x) σ) : CALL (n + 1) σ (.ref (b + 4)) [refV k] K := by
  refine CALL.clos (ps := ["ref"]) (hh.at_ (k := 4) rfl) (fun _ _ _ _ _ _ _ => by show _ = _; kernel_rfl) (by kernel_rfl) (by decide) (by kernel_rfl) rfl rfl rfl fun _ _ => ?_
  k_go
  exact KS.of (Sub.dt hd hx) h
theorem keep_ok {n b I N : Nat} {σ : List Ob} {d : List (Str × Int)} {k : Str} {x : Int} {K : V → List Ob → Prop} (hh : HND σ b I N) (hd : σ[N]? = some (DI d)) (hz : d.length ≤ 1000) (h : K .none (σ.set N (DI (put k x d)))) : CALL (n + 2) σ (.ref (b + 5)) [refV k, .int x] K := by
  refine CALL.clos (ps := ["ref", "number"]) (hh.at_ (k := 5) rfl) (fun _ _ _ _ _ _ _ _ => by show _ = _; kernel_rfl) (by kernel_rfl) (by decide) (by kernel_rfl) rfl rfl rfl fun _ _ => ?_
  k_go
  exact law_lay_ok hd hz h
theorem spot_ok {n b I N : Nat} {σ : List Ob} {k : Str} {K : V → List Ob → Prop} (hh : HND σ b I N) (h : K (.str k) σ) : CALL (n + 1) σ (.ref (b + 6)) [refV k] K := by
  refine CALL.clos (ps := ["ref"]) (hh.at_ (k := 6) rfl) (fun _ _ _ _ _ _ _ => by show _ = _; kernel_rfl) (by kernel_rfl) (by decide) (by kernel_rfl) rfl rfl rfl fun _ _ => ?_
  k_go
  exact h
/-- what lies in a receiving item -/
def padF (k : Str) (x : List UInt8) (d : List (Str × List UInt8)) : List UInt8 := x ++ List.replicate (((d.lookup k).getD []).length - x.length) 42
/-- what can be brought -/
def BRG (k : Str) (_ : List UInt8) (d : List (Str × List UInt8)) : Prop := ∃ y, d.lookup k = some y ∧ y.length ≤ 900
theorem flat_rep {n : Nat} {c : UInt8} : (List.replicate n [c]).flatten = List.replicate n c := by
  induction n with
  | zero => rfl
  | succ n ih => rw [List.replicate_succ, List.flatten_cons, ih]; rfl
theorem bring_ok {n b I N : Nat} {σ : List Ob} {d : List (Str × List UInt8)} {k : Str} {x : List UInt8} {K : V → List Ob → Prop} (hh : HND σ b I N) (hd : σ[I]? = some (DB d)) (hb : BRG k x d) (hz : d.length ≤ 1000) (hx : x.length ≤ 900) (h : K .none (σ.set I (DB (put k (padF k x d) d)))) : CALL (n + 2) σ (.ref (b + 7)) [.str k, .bytes x] K := by
  obtain ⟨y, hy, hl⟩ := hb
  have ep : padF k x d = x ++ (List.replicate ((y.length : Int) - (x.length : Int)).toNat [(42 : UInt8)]).flatten := by
    unfold padF
    rw [hy, flat_rep]
    show x ++ List.replicate (y.length - x.length) 42 = _
    rw [show ((y.length : Int) - (x.length : Int)).toNat = y.length - x.length by omega]
  rw [ep] at h
  refine CALL.clos (ps := ["name", "octets"]) (hh.at_ (k := 7) rfl) (fun _ _ _ _ _ _ _ _ => by show _ = _; kernel_rfl) (by kernel_rfl) (by decide) (by kernel_rfl) rfl rfl rfl fun _ _ => ?_
  k_go
  refine KS.of (Sub.dt hd hy) ?_
  k_go
  refine CALL.lenB (big (Nat.le_trans hl (by decide))) ?_
  k_go
  refine CALL.lenB (big (Nat.le_trans hx (by decide))) ?_
  k_go
  refine ⟨_, Bin.mulB [42] _ (by decide) (by omega) (by omega) (by decide), ?_⟩
  refine KB.addB (Nat.le_trans (show _ ≤ 900 + 900 by rw [flat_rep, List.length_replicate]; omega) (by decide)) ?_
  k_go
  exact law_lay_ok hd hz h
theorem room_ok {n b I N : Nat} {σ : List Ob} {d : List (Str × List UInt8)} {k : Str} {y : List UInt8} {K : V → List Ob → Prop} (hh : HND σ b I N) (hd : σ[I]? = some (DB d)) (hy : d.lookup k = some y) (hl : y.length ≤ 900) (h : K (.int y.length) σ) : CALL (n + 1) σ (.ref (b + 8)) [.str k] K := by
  refine CALL.clos (ps := ["name"]) (hh.at_ (k := 8) rfl) (fun _ _ _ _ _ _ _ => by show _ = _; kernel_rfl) (by kernel_rfl) (by decide) (by kernel_rfl) rfl rfl rfl fun _ _ => ?_
  k_go
  refine KS.of (Sub.dt hd hy) ?_
  k_go
  refine CALL.lenB (big (Nat.le_trans hl (by decide))) ?_
  k_go
  exact h
end
section
-- HANDS
-- GLOBALS lone_octets pointed moved_on strung lay_pieces unstrung cut_by_sizes
-- BOOTS len range
/-! what the deeds ask -/
local macro_rules | `(tactic| k_go) => `(tactic| (repeat (first
    | ((with_reducible refine' EV.cell ?w1 ?w2 ?w3 ?_ ?w4 ?w5); (case w1 => exact (by first | exact .inl rfl | exact .inr rfl)); (case w2 => exact rfl); (case w3 => exact (by first | exact HND.c0 (by assumption) | exact HND.c1 (by assumption) | assumption | exact at_app (by assumption) | exact at_app (at_app (by assumption)))); (case w4 => exact rfl); (case w5 => exact rfl))
    | ((with_reducible refine' KD.of ?w1 ?_); (case w1 => exact (by kernel_rfl)))
    | ((with_reducible refine' KB.mulI ?w1 ?_); (case w1 => exact (by first | assumption | exact IntMulOk.of_left (by decide) | exact IntMulOk.of_right (by decide))))
    | ((with_reducible refine' KB.fmodI ?w1 ?_); (case w1 => exact (by first | assumption | decide)))
    | ((with_reducible refine' KB.fdivI ?w1 ?w2 ?_); (case w1 => exact (by first | assumption | decide)); (case w2 => exact (by first | assumption | decide)))
    | ((with_reducible refine' KB.powI ?w1 ?w2 ?w3 ?_); (case w1 => exact (by decide)); (case w2 => exact (by decide)); (case w3 => exact (by first | assumption | decide)))
    | k_data)))
theorem lone_ok {n b I N : Nat} {σ : List Ob} {d : List (Str × List UInt8)} {v : V} {x : List UInt8} {K : V → List Ob → Prop} (hh : HND σ b I N) (hd : σ[I]? = some (DB d)) (o : OPR d v x) (h : K (.bytes x) σ) : CALL (n + 2) σ (.val (.ref 146)) [v, .ref (b + 10)] K := by
  refine CALL.def f_lone_octets (ps := ["operand", "hands"]) (fun _ _ _ _ _ _ _ => by show _ = _; kernel_rfl) (by kernel_rfl) (by decide) (by kernel_rfl) rfl rfl rfl fun _ _ => ?_
  k_go
  refine KM.of (hh.mth (y := "fetch") rfl (fun _ => by kernel_rfl)) ?_
  k_go
  refine KMA.of hh.p2 ?_
  refine fetch_ok hh hd o ?_
  k_go
  exact h
theorem pointed_ok {n b I N : Nat} {σ : List Ob} {d : List (Str × Int)} {k : Str} {x : Int} {K : V → List Ob → Prop} (hh : HND σ b I N) (hd : σ[N]? = some (DI d)) (hx : d.lookup k = some x) (h : K (.int x) σ) : CALL (n + 2) σ (.val (.ref 153)) [refV k, .ref (b + 10)] K := by
  refine CALL.def f_pointed (ps := ["pointer", "hands"]) (fun _ _ _ _ _ _ _ => by show _ = _; kernel_rfl) (by kernel_rfl) (by decide) (by kernel_rfl) rfl rfl rfl fun _ _ => ?_
  k_go
  refine KI.no rfl ?_
  k_go
  refine KM.of (hh.mth (y := "amount") rfl (fun _ => by kernel_rfl)) ?_
  k_go
  refine KMA.of hh.p4 ?_
  refine amount_ok hh hd hx ?_
  k_go
  exact h
theorem moved_ok {n b I N : Nat} {σ : List Ob} {d : List (Str × Int)} {k : Str} {x : Int} {K : V → List Ob → Prop} (hh : HND σ b I N) (hd : σ[N]? = some (DI d)) (hz : d.length ≤ 1000) (h : K .none (σ.set N (DI (put k x d)))) : CALL (n + 3) σ (.val (.ref 160)) [refV k, .int x, .ref (b + 10)] K := by
  refine CALL.def f_moved_on (ps := ["pointer", "position", "hands"]) (fun _ _ _ _ _ _ _ _ => by show _ = _; kernel_rfl) (by kernel_rfl) (by decide) (by kernel_rfl) rfl rfl rfl fun _ _ => ?_
  k_go
  refine KIf.yes rfl ?_
  k_go
  refine KM.of (hh.mth (y := "keep") rfl (fun _ => by kernel_rfl)) ?_
  k_go
  refine KMA.of hh.p5 ?_
  refine keep_ok hh hd hz ?_
  k_go
  exact h
/-- a delimiter's operand -/
inductive MRK (d : List (Str × List UInt8)) : V → Option UInt8 → Prop
  | none : MRK d .none none
  | some {v : V} {c : UInt8} (o : OPR d v [c]) : MRK d v (some c)
inductive ROWS (d : List (Str × List UInt8)) : List V → List (List UInt8 × Option UInt8) → Prop
  | nil : ROWS d [] []
  | cons {v u : V} {x : List UInt8} {c : Option UInt8} {vs : List V} {rs : List (List UInt8 × Option UInt8)} (o : OPR d v x) (m : MRK d u c) (r : ROWS d vs rs) : ROWS d (.tup [v, u] :: vs) ((x, c) :: rs)
theorem OPR.some {d : List (Str × List UInt8)} {v : V} {x : List UInt8} (o : OPR d v x) : v.isNone = false := by cases o <;> rfl
theorem OPR.nov {d : List (Str × List UInt8)} {v : V} {x : List UInt8} (o : OPR d v x) : ∀ z, v ≠ .val z := by cases o <;> exact fun _ z => nomatch z
theorem KI.fin {F : Fn} {ρ : List (String × V)} {σ : List Ob} {a b : Expr} {q : Bool} {K : V → List Ob → Prop} {v : V} (h : K v σ → KI F ρ a b K q σ) (k : K v σ) : KI F ρ a b K q σ := h k
theorem string_ok {n b I N : Nat} {σ : List Ob} {d : List (Str × List UInt8)} {e : List (Str × Int)} {rows rest : List V} {rs : List (List UInt8 × Option UInt8)} {g p : Str} {x : List UInt8} {at_ : Nat} {K : V → List Ob → Prop} (hh : HND σ b I N) (ne : I ≠ N) (hd : σ[I]? = some (DB d)) (he : σ[N]? = some (DI e)) (hz : d.length ≤ 1000) (hz2 : e.length ≤ 1000)
    (hr : ROWS d rows rs) (hl : ∀ r ∈ rs, r.1.length ≤ 1000) (hn : rs.length ≤ 1000) (hg : d.lookup g = some x) (hx : x.length ≤ 1000) (hp : e.lookup p = some (at_ : Int))
    (h : ∀ σ', Ext [I, N] σ σ' → σ'[I]? = some (DB (put g (strungB (sentOf rs) x at_).1 d)) → σ'[N]? = some (DI (put p ((strungB (sentOf rs) x at_).2.1 : Int) e)) → K (.str (if (strungB (sentOf rs) x at_).2.2 then "over" else "")) σ') :
    CALL (n + 5) σ (.val (.ref 167)) [.tup (.str "string" :: .tup rows :: refV g :: refV p :: rest), .ref (b + 10)] K := by
  refine CALL.def f_string_with (ps := ["statement", "hands"]) (fun _ _ _ _ _ _ _ => by show _ = _; kernel_rfl) (by kernel_rfl) (by decide) (by kernel_rfl) rfl rfl rfl fun _ _ => ?_
  k_go
  refine EX1.for ?_ (fun _ _ => rfl)
  k_go
  refine KFor.of SRC.tup (.inr rfl) [("statement", .tup (.str "string" :: .tup rows :: refV g :: refV p :: rest)), ("hands", .ref (b + 10)), ("pairs", .ref σ.length)] ⟨rfl, rfl, rfl, trivial⟩ ?_
  generalize V.tup rows = R0
  obtain ⟨all, hall⟩ : ∃ all, all = rs := ⟨_, rfl⟩
  rw [← hall] at hl hn h
  refine (?_ : ∀ acc, all = acc ++ rs → FORS _ _ _ _ _ rows _ (σ ++ [Ob.list (List.map rowV acc)])) [] hall
  clear hall
  induction hr with
  | nil =>
    intro acc ha
    rw [List.append_nil] at ha
    subst ha
    refine ⟨trivial, ?_⟩
    have hd1 := at_app (l := [Ob.list (List.map rowV all)]) hd
    have he1 := at_app (l := [Ob.list (List.map rowV all)]) he
    have hh1 := hh.ext (Ext.app (l := [Ob.list (List.map rowV all)]))
    k_go
    refine lone_ok hh1 hd1 (.ref hg) ?_
    k_go
    refine pointed_ok hh1 he1 hp ?_
    k_go
    refine strung_ok at_new hl hx ?_
    generalize strungB (sentOf all) x at_ = res at h ⊢
    obtain ⟨oc, fo, ov⟩ := res
    unfold tripV
    k_go
    refine KM.of (hh1.mth (y := "plant") rfl (fun _ => by kernel_rfl)) ?_
    k_go
    refine KMA.of hh1.p3 ?_
    refine plant_ok hh1 hd1 hz ?_
    k_go
    refine moved_ok (hh1.ext (.set (by simp))) (at_ne ne he1) hz2 ?_
    k_go
    refine KI.fin (v := .str (if ov then "over" else "")) (fun hk => ?_) ?_
    · cases ov with
      | true => exact KI.yes rfl (EV.str hk)
      | false => exact KI.no rfl (EV.str hk)
    · k_go
      exact h _ (Ext.app.trans ((Ext.set (by simp)).trans (Ext.set (by simp)))) (at_ne ne.symm (at_set hd1)) (at_set (at_ne ne he1))
  | @cons v u y c vs rs o m r ih =>
    intro acc ha
    refine ⟨trivial, ?_⟩
    have hu : ∀ z, u ≠ .val z := by
      cases m with
      | none => exact fun _ z => nomatch z
      | some o => exact o.nov
    have hd1 := at_app (l := [Ob.list (List.map rowV acc)]) hd
    have hh1 := hh.ext (Ext.app (l := [Ob.list (List.map rowV acc)]))
    have hac : (List.map rowV acc).length ≤ 1000 := by
      rw [List.length_map]
      rw [ha, List.length_append] at hn
      exact Nat.le_trans (Nat.le_add_right ..) hn
    k_go
    refine KI.fin (v := dV c) (fun hk => ?_) ?_
    · cases m with
      | none => exact KI.yes rfl (EV.none hk)
      | some o =>
        refine KI.no o.some ?_
        k_go
        exact lone_ok hh1 hd1 o hk
    · k_go
      refine KM.of (MTH.append at_new) ?_
      k_go
      refine lone_ok hh1 hd1 o ?_
      k_go
      refine CALL.append at_new (big hac) ?_
      rw [set_new]
      k_go
      have := ih (acc ++ [(y, c)]) (by rw [ha, List.append_assoc]; rfl)
      rw [List.map_append] at this
      refine FK.next ?_ this
      exact ⟨rfl, rfl, rfl, trivial⟩
/-! laying pieces -/
structure GROW where
  goal : Str
  mark : Option Str
  count : Option Str
def oref : Option Str → V
  | none => .none
  | some x => refV x
def ostr : Option Str → V
  | none => .none
  | some x => .str x
abbrev gV (r : GROW) : V := .tup [refV r.goal, oref r.mark, oref r.count]
def layG (r : GROW) (p : List UInt8 × List UInt8) (d : List (Str × List UInt8)) : List (Str × List UInt8) := put r.goal (padF r.goal p.1 d) d
def layM (r : GROW) (p : List UInt8 × List UInt8) (d : List (Str × List UInt8)) : List (Str × List UInt8) := match r.mark with
  | none => d
  | some m => put m (padF m p.2 d) d
def layE (r : GROW) (p : List UInt8 × List UInt8) (e : List (Str × Int)) : List (Str × Int) := match r.count with
  | none => e
  | some c => put c (p.1.length : Int) e
def layD : List GROW → List (List UInt8 × List UInt8) → List (Str × List UInt8) → List (Str × List UInt8)
  | r :: rs, p :: ps, d => layD rs ps (layM r p (layG r p d))
  | _, _, d => d
def layN : List GROW → List (List UInt8 × List UInt8) → List (Str × Int) → List (Str × Int)
  | r :: rs, p :: ps, e => layN rs ps (layE r p e)
  | _, _, e => e
def LayOK : List GROW → List (List UInt8 × List UInt8) → List (Str × List UInt8) → List (Str × Int) → Prop
  | r :: rs, p :: ps, d, e => (d.length ≤ 900 ∧ (layG r p d).length ≤ 900 ∧ e.length ≤ 900) ∧ (p.1.length ≤ 900 ∧ p.2.length ≤ 900) ∧ (BRG r.goal p.1 d ∧ ∀ m, r.mark = some m → BRG m p.2 (layG r p d)) ∧ LayOK rs ps (layM r p (layG r p d)) (layE r p e)
  | _, [], _, _ => True
  | [], _ :: _, _, _ => False
theorem KIf.all {F : Fn} {ρ : List (String × V)} {σ : List Ob} {a b : List Stmt} {q : Bool} {K : Fl → List (String × V) → List Ob → Prop} {Q : List Ob → Prop} (h : (∀ σ₂, Q σ₂ → K .next ρ σ₂) → KIf F ρ a b K q σ) (k : ∀ σ₂, Q σ₂ → K .next ρ σ₂) : KIf F ρ a b K q σ := h k
theorem at_mid {α β : Type} {f : α → β} {a l : List α} {x : α} {i : Nat} (h : a.length = i) : ((a ++ x :: l).map f)[i]? = some (f x) := by subst h; simp
theorem off {σ : List Ob} {j I N : Nat} {l : List V} {d e : List (Str × V)} (hj : σ[j]? = some (.list l)) (hd : σ[I]? = some (.dict d)) (he : σ[N]? = some (.dict e)) : j ∉ [I, N] := fun m => by
  rcases List.mem_cons.mp m with rfl | m
  · rw [hj] at hd; cases hd
  · rw [List.mem_singleton.mp m, he] at hj; cases hj
theorem lay_ok {n b I N jp js jm : Nat} {σ : List Ob} {d : List (Str × List UInt8)} {e : List (Str × Int)} {rs : List GROW} {ps : List (List UInt8 × List UInt8)} {K : V → List Ob → Prop} (hh : HND σ b I N) (ne : I ≠ N) (hd : σ[I]? = some (DB d)) (he : σ[N]? = some (DI e))
    (hp : σ[jp]? = some (.list (ps.map pcV))) (hs : σ[js]? = some (.list (rs.map fun r => .str r.goal))) (hm : σ[jm]? = some (.list (rs.map fun r => ostr r.mark))) (hn : ps.length ≤ 1000) (hr : rs.length ≤ 1000) (ok : LayOK rs ps d e)
    (h : ∀ σ', Ext [I, N] σ σ' → σ'[I]? = some (DB (layD rs ps d)) → σ'[N]? = some (DI (layN rs ps e)) → K .none σ') : CALL (n + 3) σ (.val (.ref 174)) [.ref jp, .tup (rs.map gV), .ref js, .ref jm, .ref (b + 10)] K := by
  obtain ⟨R, hR⟩ : ∃ R, R = rs := ⟨_, rfl⟩
  obtain ⟨P, hP⟩ : ∃ P, P = ps := ⟨_, rfl⟩
  rw [← hR] at hs hm hr ⊢
  rw [← hP] at hp hn
  have np := off hp hd he
  have ns := off hs hd he
  have nm := off hm hd he
  refine CALL.def f_lay_pieces (ps := ["pieces", "rows", "spots", "mark_spots", "hands"]) (fun _ _ _ _ _ _ _ _ _ _ => by show _ = _; kernel_rfl) (by kernel_rfl) (by decide) (by kernel_rfl) rfl rfl rfl fun _ _ => ?_
  k_go
  refine EX1.for ?_ (fun _ _ => rfl)
  k_go
  refine CALL.lenL hp (big (by rw [List.length_map]; exact hn)) ?_
  k_go
  rw [List.length_map]
  refine KFor.of (SRC.rng0 hn) (.inl fun _ _ => rfl) [("pieces", .ref jp), ("rows", .tup (R.map gV)), ("spots", .ref js), ("mark_spots", .ref jm), ("hands", .ref (b + 10))] ⟨rfl, rfl, rfl, rfl, rfl, trivial⟩ ?_
  rw [show P.length = ps.length by rw [hP]]
  refine (?_ : ∀ (i : Nat) (σ₁ : List Ob) (pa : List (List UInt8 × List UInt8)) (ra : List GROW), pa.length = i → ra.length = i → P = pa ++ ps → R = ra ++ rs → Ext [I, N] σ σ₁ → σ₁[I]? = some (DB d) → σ₁[N]? = some (DI e) → FORS _ _ _ _ _ (rngV i ps.length) _ σ₁) 0 σ [] [] rfl rfl hP hR .refl hd he
  clear hd he hP hR
  induction ps generalizing rs d e with
  | nil =>
    intro i σ₁ pa ra e1 e2 hP hR x hd he
    refine ⟨trivial, ?_⟩
    have e3 : layD rs [] d = d := by cases rs <;> rfl
    have e4 : layN rs [] e = e := by cases rs <;> rfl
    rw [e3, e4] at h
    k_go
    exact h _ x hd he
  | cons p ps ih =>
    intro i σ₁ pa ra e1 e2 hP hR x hd he
    cases rs with
    | nil => exact ok.elim
    | cons r rs =>
      obtain ⟨g, m, c⟩ := r
      obtain ⟨⟨z1, z2, z3⟩, ⟨z4, z5⟩, ⟨b1, b2⟩, ok⟩ := ok
      rw [show (p :: ps).length = ps.length + 1 from rfl, rngV_succ]
      refine ⟨trivial, ?_⟩
      have hi : i < P.length := by rw [hP, List.length_append, e1]; exact Nat.lt_add_of_pos_right (Nat.succ_pos _)
      have hi2 : (i : Int) < 9223372036854775808 := by omega
      have hh1 := hh.ext x
      have hp1 := x.at_ np hp
      have hs1 := x.at_ ns hs
      rw [hP] at hp1
      rw [hR] at hs1
      k_go
      refine KS.of (Sub.list hp1 (Int.natCast_nonneg _) hi2 (at_mid e1)) ?_
      k_go
      refine KM.of (hh1.mth (y := "bring") rfl (fun _ => by kernel_rfl)) ?_
      k_go
      refine KS.of (Sub.list hs1 (Int.natCast_nonneg _) hi2 (at_mid e2)) ?_
      k_go
      refine KMA.of hh1.p7 ?_
      refine bring_ok hh1 hd b1 (Nat.le_trans z1 (by decide)) z4 ?_
      have x2 := x.trans (Ext.set (j := I) (o := DB (layG ⟨g, m, c⟩ p d)) (by simp))
      have hd2 := at_set (o := DB (layG ⟨g, m, c⟩ p d)) hd
      have he2 := at_ne (o' := DB (layG ⟨g, m, c⟩ p d)) ne he
      change KX _ _ _ (σ₁.set I (DB (layG ⟨g, m, c⟩ p d)))
      generalize σ₁.set I (DB (layG ⟨g, m, c⟩ p d)) = σ₂ at x2 hd2 he2 ⊢
      have hh2 := hh.ext x2
      have hm2 := x2.at_ nm hm
      rw [hR] at hm2
      have hu : ∀ z, ostr m ≠ .val z := by cases m <;> exact fun _ z => nomatch z
      have hv : ∀ z, oref c ≠ .val z := by cases c <;> exact fun _ z => nomatch z
      k_go
      refine KS.of (Sub.list hm2 (Int.natCast_nonneg _) hi2 (at_mid e2)) ?_
      k_go
      refine KIf.all (Q := fun σ' => Ext [I, N] σ σ' ∧ σ'[I]? = some (DB (layM ⟨g, m, c⟩ p (layG ⟨g, m, c⟩ p d))) ∧ σ'[N]? = some (DI e)) (fun k => ?_) (fun σ₃ q => ?_)
      · cases m with
        | none => exact KIf.no rfl (EX.nil (k _ ⟨x2, hd2, he2⟩))
        | some m =>
          refine KIf.yes rfl ?_
          k_go
          refine KM.of (hh2.mth (y := "bring") rfl (fun _ => by kernel_rfl)) ?_
          k_go
          refine KS.of (Sub.list hm2 (Int.natCast_nonneg _) hi2 (at_mid e2)) ?_
          k_go
          refine KMA.of hh2.p7 ?_
          refine bring_ok hh2 hd2 (b2 m rfl) (Nat.le_trans z2 (by decide)) z5 ?_
          exact SEQ.next (EX.nil (k _ ⟨x2.trans (Ext.set (by simp)), at_set hd2, at_ne ne he2⟩))
      · obtain ⟨x3, hd3, he3⟩ := q
        have hh3 := hh.ext x3
        have hRi : (R.map gV)[i]? = some (gV ⟨g, m, c⟩) := by rw [hR]; exact at_mid e2
        have hi3 : i < 1000 := Nat.lt_of_lt_of_le hi hn
        k_go
        refine KS.of (Sub.tup hi3 hRi) ?_
        k_go
        refine KIf.all (Q := fun σ' => Ext [I, N] σ σ' ∧ σ'[I]? = some (DB (layM ⟨g, m, c⟩ p (layG ⟨g, m, c⟩ p d))) ∧ σ'[N]? = some (DI (layE ⟨g, m, c⟩ p e))) (fun k => ?_) (fun σ₄ q => ?_)
        · cases c with
          | none => exact KIf.no rfl (EX.nil (k _ ⟨x3, hd3, he3⟩))
          | some c =>
            refine KIf.yes rfl ?_
            k_go
            refine KM.of (hh3.mth (y := "keep") rfl (fun _ => by kernel_rfl)) ?_
            k_go
            refine KS.of (Sub.tup hi3 hRi) ?_
            k_go
            refine CALL.lenB (big (Nat.le_trans z4 (by decide))) ?_
            k_go
            refine KMA.of hh3.p5 ?_
            refine keep_ok hh3 he3 (Nat.le_trans z3 (by decide)) ?_
            exact SEQ.next (EX.nil (k _ ⟨x3.trans (Ext.set (by simp)), at_ne ne.symm hd3, at_set he3⟩))
        · obtain ⟨x4, hd4, he4⟩ := q
          k_go
          have := ih ok h (i + 1) σ₄ (pa ++ [p]) (ra ++ [⟨g, m, c⟩]) (by simp [e1]) (by simp [e2]) (by rw [hP, List.append_assoc]; rfl) (by rw [hR, List.append_assoc]; rfl) x4 hd4 he4
          refine FK.next ?_ this
          exact ⟨rfl, rfl, rfl, rfl, rfl, trivial⟩
end
section
-- HANDS
-- GLOBALS lone_octets pointed moved_on lay_pieces cut_by_sizes
-- BOOTS len range
theorem CMP.maps {α : Type} {F : Fn} {target elt : Expr} {G : List Ob → Prop} {K : List V → List Ob → Prop} {σ : List Ob} {f g : α → V} (hG : G σ) : ∀ (l : List α) (acc : List V), acc.length + l.length ≤ 1000 → (∀ x ∈ l, ∀ K' : V → List Ob → Prop, K' (g x) σ → ASG F [] σ target (f x) (KCe F elt K')) →
    K (acc ++ l.map g) σ → CMP F target elt G K (l.map f) acc σ
  | [], acc, _, _, k => ⟨hG, by rw [List.map_nil, List.append_nil] at k; exact k⟩
  | x :: l, acc, hn, h, k => ⟨hG, h x (.head _) _ ⟨Nat.le_trans (Nat.le_add_right ..) hn, CMP.maps hG l (acc ++ [g x]) (by simp at hn ⊢; omega) (fun y m => h y (.tail _ m)) (by rw [List.append_assoc]; exact k)⟩⟩
theorem offc {σ : List Ob} {j I N : Nat} {v : Option V} {d e : List (Str × V)} (hj : σ[j]? = some (.cell v)) (hd : σ[I]? = some (.dict d)) (he : σ[N]? = some (.dict e)) : j ∉ [I, N] := fun m => by
  rcases List.mem_cons.mp m with rfl | m
  · rw [hj] at hd; cases hd
  · rw [List.mem_singleton.mp m, he] at hj; cases hj
theorem put_le {α : Type} {k : Str} {v : α} {l : List (Str × α)} : l.length ≤ (put k v l).length := by
  unfold put
  split
  · rw [List.length_map]; exact Nat.le_refl _
  · rw [List.length_append]; exact Nat.le_add_right ..
theorem cutF_len {x : List UInt8} : ∀ (ws : List Nat) (a : Nat), (cutF x ws a).1.length ≤ ws.length
  | [], _ => Nat.le_refl _
  | w :: ws, a => by
    unfold cutF
    by_cases h : a < x.length
    · rw [if_pos h]; exact Nat.succ_le_succ (cutF_len ws _)
    · rw [if_neg h]; exact Nat.le_succ_of_le (cutF_len ws _)
theorem cutB_len {x : List UInt8} {ws : List Nat} {a : Nat} : (cutB x ws a).1.length ≤ ws.length := by
  unfold cutB
  split
  · exact cutF_len ws _
  · exact Nat.zero_le _
local macro_rules | `(tactic| k_go) => `(tactic| (repeat (first
    | ((with_reducible refine' EV.cell ?w1 ?w2 ?w3 ?_ ?w4 ?w5); (case w1 => exact (by first | exact .inl rfl | exact .inr rfl)); (case w2 => exact rfl); (case w3 => exact (by first | exact HND.c0 (by assumption) | exact HND.c1 (by assumption) | assumption | exact at_app (by assumption) | exact at_app (at_app (by assumption)))); (case w4 => exact rfl); (case w5 => exact rfl))
    | ((with_reducible refine' KD.of ?w1 ?_); (case w1 => exact (by kernel_rfl)))
    | ((with_reducible refine' KB.mulI ?w1 ?_); (case w1 => exact (by first | assumption | exact IntMulOk.of_left (by decide) | exact IntMulOk.of_right (by decide))))
    | ((with_reducible refine' KB.fmodI ?w1 ?_); (case w1 => exact (by first | assumption | decide)))
    | ((with_reducible refine' KB.fdivI ?w1 ?w2 ?_); (case w1 => exact (by first | assumption | decide)); (case w2 => exact (by first | assumption | decide)))
    | ((with_reducible refine' KB.powI ?w1 ?w2 ?w3 ?_); (case w1 => exact (by decide)); (case w2 => exact (by decide)); (case w3 => exact (by first | assumption | decide)))
    | k_data)))
theorem unstring_ok {n b I N : Nat} {σ : List Ob} {d : List (Str × List UInt8)} {e : List (Str × Int)} {rs : List GROW} {rest : List V} {ws : List Nat} {s p t : Str} {x : List UInt8} {at_ : Nat} {t0 : Int} {K : V → List Ob → Prop} (hh : HND σ b I N) (ne : I ≠ N) (hd : σ[I]? = some (DB d)) (he : σ[N]? = some (DI e))
    (hr : rs.length ≤ 100) (hs : d.lookup s = some x) (hx : x.length ≤ 1000) (hp : e.lookup p = some (at_ : Int)) (hg : ∀ r ∈ rs, ∃ y, d.lookup r.goal = some y ∧ y.length ≤ 900) (hws : rs.map (fun r => ((d.lookup r.goal).getD []).length) = ws) (ok : LayOK rs (cutB x ws at_).1 d e)
    (ht : ∀ e', e' = put p ((cutB x ws at_).2.1 : Int) (layN rs (cutB x ws at_).1 e) → e'.length ≤ 1000 ∧ e'.lookup t = some t0)
    (h : ∀ σ', Ext [I, N] σ σ' → σ'[I]? = some (DB (layD rs (cutB x ws at_).1 d)) → σ'[N]? = some (DI (put t (t0 + ((cutB x ws at_).1.length : Int)) (put p ((cutB x ws at_).2.1 : Int) (layN rs (cutB x ws at_).1 e)))) →
      K (.str (if (cutB x ws at_).2.2 then "over" else "")) σ') :
    CALL (n + 6) σ (.val (.ref 179)) [.tup (.str "unstring" :: refV s :: .tup [] :: .tup (rs.map gV) :: refV p :: refV t :: rest), .ref (b + 10)] K := by
  refine CALL.cells f_unstring_with (ps := ["statement", "hands"]) (cs := ["hands"]) (fun _ _ _ _ _ _ _ => by show _ = _; kernel_rfl) (by decide) (by kernel_rfl) (by kernel_rfl) (by decide) (by kernel_rfl) rfl rfl rfl fun cdv _ => ?_
  change EX _ [("statement", _)] (σ ++ [Ob.cell (some (V.ref (b + 10)))]) _ _
  obtain ⟨σ₀, hσ, x0, hc, hd0, he0⟩ : ∃ σ₀, σ₀ = σ ++ [Ob.cell (some (V.ref (b + 10)))] ∧ Ext [I, N] σ σ₀ ∧ σ₀[σ.length]? = some (.cell (some (V.ref (b + 10)))) ∧ σ₀[I]? = some (DB d) ∧ σ₀[N]? = some (DI e) := ⟨_, rfl, Ext.app, at_new, at_app hd, at_app he⟩
  rw [← hσ]
  clear hσ hd he
  have hh0 := hh.ext x0
  k_go
  refine lone_ok hh0 hd0 (.ref hs) ?_
  k_go
  refine EX1.setC (CompOK.of (by kernel_rfl) rfl (by kernel_rfl) (by kernel_rfl)) ?_ (fun _ => rfl) (fun _ _ => rfl)
  k_go
  refine KCM.of SRC.tup (.inr rfl) ?_
  refine ⟨trivial, ?_⟩
  obtain ⟨σ₁, g1, x1, hc1, hd1, he1, hm1⟩ : ∃ σ₁, σ₁ = σ₀ ++ [Ob.list []] ∧ Ext [I, N] σ σ₁ ∧ σ₁[σ.length]? = some (.cell (some (V.ref (b + 10)))) ∧ σ₁[I]? = some (DB d) ∧ σ₁[N]? = some (DI e) ∧ σ₁[σ₀.length]? = some (.list []) := ⟨_, rfl, x0.trans Ext.app, at_app hc, at_app hd0, at_app he0, at_new⟩
  change STO _ _ (σ₀ ++ [Ob.list []]) _ _ _
  rw [← g1]
  generalize σ₀.length = jM at hm1 ⊢
  clear g1 hc hd0 he0 hh0 x0
  have hh1 := hh.ext x1
  k_go
  refine pointed_ok hh1 he1 hp ?_
  k_go
  refine EX1.setC (CompOK.of (by kernel_rfl) rfl (by kernel_rfl) (by kernel_rfl)) ?_ (fun _ => rfl) (fun _ _ => rfl)
  k_go
  refine KCM.of SRC.tup (.inr rfl) ?_
  refine CMP.maps (f := gV) (g := fun r => V.str r.goal) trivial rs [] (by rw [List.length_nil, Nat.zero_add]; exact Nat.le_trans hr (by decide)) (fun r _ K' k => ?_) ?_
  · k_go
    refine KM.of (hh1.mth (y := "spot") rfl (fun _ => by kernel_rfl)) ?_
    k_go
    refine KMA.of hh1.p6 ?_
    exact spot_ok hh1 k
  obtain ⟨σ₂, g2, x2, hc2, hd2, he2, hm2, hs2⟩ : ∃ σ₂, σ₂ = σ₁ ++ [Ob.list (rs.map fun r => .str r.goal)] ∧ Ext [I, N] σ σ₂ ∧ σ₂[σ.length]? = some (.cell (some (V.ref (b + 10)))) ∧ σ₂[I]? = some (DB d) ∧ σ₂[N]? = some (DI e) ∧ σ₂[jM]? = some (.list []) ∧ σ₂[σ₁.length]? = some (.list (rs.map fun r => .str r.goal)) := ⟨_, rfl, x1.trans Ext.app, at_app hc1, at_app hd1, at_app he1, at_app hm1, at_new⟩
  change STO _ _ (σ₁ ++ [Ob.list (rs.map fun r => .str r.goal)]) _ _ _
  rw [← g2]
  generalize σ₁.length = jS at hs2 ⊢
  clear g2 hc1 hd1 he1 hh1 x1 hm1
  have hh2 := hh.ext x2
  k_go
  refine EX1.setC (CompOK.of (by kernel_rfl) rfl (by kernel_rfl) (by kernel_rfl)) ?_ (fun _ => rfl) (fun _ _ => rfl)
  k_go
  refine KCM.of SRC.tup (.inr rfl) ?_
  refine CMP.maps (f := gV) (g := fun r => ostr r.mark) trivial rs [] (by rw [List.length_nil, Nat.zero_add]; exact Nat.le_trans hr (by decide)) (fun r _ K' k => ?_) ?_
  · have hu : ∀ z, oref r.mark ≠ .val z := by cases r.mark <;> exact fun _ z => nomatch z
    k_go
    obtain ⟨g, m, q⟩ := r
    cases m with
    | none => exact KI.yes rfl (EV.none k)
    | some m =>
      refine KI.no rfl ?_
      k_go
      refine KM.of (hh2.mth (y := "spot") rfl (fun _ => by kernel_rfl)) ?_
      k_go
      refine KMA.of hh2.p6 ?_
      exact spot_ok hh2 k
  obtain ⟨σ₃, g3, x3, hc3, hd3, he3, hm3, hs3, hq3⟩ : ∃ σ₃, σ₃ = σ₂ ++ [Ob.list (rs.map fun r => ostr r.mark)] ∧ Ext [I, N] σ σ₃ ∧ σ₃[σ.length]? = some (.cell (some (V.ref (b + 10)))) ∧ σ₃[I]? = some (DB d) ∧ σ₃[N]? = some (DI e) ∧ σ₃[jM]? = some (.list []) ∧ σ₃[jS]? = some (.list (rs.map fun r => .str r.goal)) ∧ σ₃[σ₂.length]? = some (.list (rs.map fun r => ostr r.mark)) := ⟨_, rfl, x2.trans Ext.app, at_app hc2, at_app hd2, at_app he2, at_app hm2, at_app hs2, at_new⟩
  change STO _ _ (σ₂ ++ [Ob.list (rs.map fun r => ostr r.mark)]) _ _ _
  rw [← g3]
  generalize σ₂.length = jQ at hq3 ⊢
  clear g3 hc2 hd2 he2 hh2 x2 hm2 hs2
  k_go
  refine KCt.of (Cmp.eqL (r := true) (at_app hm3) at_new (.inr rfl)) ?_
  obtain ⟨σ₄, g4, x4, hc4, hd4, he4, hs4, hq4⟩ : ∃ σ₄, σ₄ = σ₃ ++ [Ob.list []] ∧ Ext [I, N] σ σ₄ ∧ σ₄[σ.length]? = some (.cell (some (V.ref (b + 10)))) ∧ σ₄[I]? = some (DB d) ∧ σ₄[N]? = some (DI e) ∧ σ₄[jS]? = some (.list (rs.map fun r => .str r.goal)) ∧ σ₄[jQ]? = some (.list (rs.map fun r => ostr r.mark)) := ⟨_, rfl, x3.trans Ext.app, at_app hc3, at_app hd3, at_app he3, at_app hs3, at_app hq3⟩
  rw [← g4]
  clear g4 hc3 hd3 he3 x3 hm3 hs3 hq3
  have hh4 := hh.ext x4
  refine KIf.yes rfl ?_
  k_go
  refine EV.comp (CompOK.of (by kernel_rfl) rfl (by kernel_rfl) (by kernel_rfl)) ?_ (fun _ _ => rfl)
  k_go
  refine KCM.of (SRC.list hs4) (.inl fun _ _ => rfl) ?_
  refine CMP.maps (f := fun r : GROW => V.str r.goal) (g := fun r => V.int (((d.lookup r.goal).getD []).length : Nat)) hs4 rs [] (by rw [List.length_nil, Nat.zero_add]; exact Nat.le_trans hr (by decide)) (fun r hm K' k => ?_) ?_
  · obtain ⟨y, hy, hl⟩ := hg r hm
    k_go
    refine KM.of (hh4.mth (y := "room") rfl (fun _ => by kernel_rfl)) ?_
    k_go
    refine KMA.of hh4.p8 ?_
    refine room_ok hh4 hd4 hy hl ?_
    rw [hy] at k
    exact k
  have eW : rs.map (fun r => V.int (((d.lookup r.goal).getD []).length : Nat)) = ws.map wV := by rw [← hws, List.map_map]; rfl
  rw [List.nil_append, eW]
  have lW : ws.length ≤ 100 := by rw [← hws, List.length_map]; exact hr
  k_go
  refine cut_ok (b := at_) at_new hx lW ?_
  have ul := Nat.le_trans (cutB_len (x := x) (ws := ws) (a := at_)) lW
  generalize cutB x ws at_ = U at ok ht h ul ⊢
  obtain ⟨ps, f, ov⟩ := U
  dsimp only at ok ht h ul ⊢
  obtain ⟨σ₅, g5, x5, hc5, hd5, he5, hs5, hq5, hp5⟩ : ∃ σ₅, σ₅ = (σ₄ ++ [Ob.list (ws.map wV)]) ++ [Ob.list (ps.map pcV)] ∧ Ext [I, N] σ σ₅ ∧ σ₅[σ.length]? = some (.cell (some (V.ref (b + 10)))) ∧ σ₅[I]? = some (DB d) ∧ σ₅[N]? = some (DI e) ∧ σ₅[jS]? = some (.list (rs.map fun r => .str r.goal)) ∧ σ₅[jQ]? = some (.list (rs.map fun r => ostr r.mark)) ∧ σ₅[(σ₄ ++ [Ob.list (ws.map wV)]).length]? = some (.list (ps.map pcV)) := ⟨_, rfl, x4.trans (Ext.app.trans Ext.app), at_app (at_app hc4), at_app (at_app hd4), at_app (at_app he4), at_app (at_app hs4), at_app (at_app hq4), at_new⟩
  rw [← g5]
  generalize (σ₄ ++ [Ob.list (ws.map wV)]).length = jP at hp5 ⊢
  clear g5 hc4 hd4 he4 x4 hs4 hq4 hh4
  k_go
  refine lay_ok (hh.ext x5) ne hd5 he5 hp5 hs5 hq5 (Nat.le_trans ul (by decide)) (Nat.le_trans hr (by decide)) ok fun σ₆ y6 hd6 he6 => ?_
  have hc6 := y6.at_ (offc hc5 hd5 he5) hc5
  have hp6 := y6.at_ (off hp5 hd5 he5) hp5
  have x6 := x5.trans y6
  clear y6 hc5 hp5 hd5 he5 hs5 hq5 x5 ok
  k_go
  obtain ⟨hz, ht⟩ := ht _ rfl
  refine moved_ok (hh.ext x6) he6 (Nat.le_trans put_le hz) ?_
  obtain ⟨σ₇, g7, x7, hc7, hd7, he7, hp7⟩ : ∃ σ₇, σ₇ = σ₆.set N (DI (put p (f : Int) (layN rs ps e))) ∧ Ext [I, N] σ σ₇ ∧ σ₇[σ.length]? = some (.cell (some (V.ref (b + 10)))) ∧ σ₇[I]? = some (DB (layD rs ps d)) ∧ σ₇[N]? = some (DI (put p (f : Int) (layN rs ps e))) ∧ σ₇[jP]? = some (.list (ps.map pcV)) :=
    ⟨_, rfl, x6.trans (Ext.set (by simp)), at_ne (fun z => by subst z; rw [he6] at hc6; cases hc6) hc6, at_ne ne.symm hd6, at_set he6, at_ne (fun z => by subst z; rw [he6] at hp6; cases hp6) hp6⟩
  rw [← g7]
  clear g7 hc6 hd6 he6 x6 hp6
  have hh7 := hh.ext x7
  k_go
  refine KIf.all (Q := fun σ' => Ext [I, N] σ σ' ∧ σ'[I]? = some (DB (layD rs ps d)) ∧ σ'[N]? = some (DI (put t (t0 + (ps.length : Int)) (put p (f : Int) (layN rs ps e))))) (fun k => KIf.yes rfl ?_) (fun σ₈ q => ?_)
  · k_go
    refine KM.of (hh7.mth (y := "keep") rfl (fun _ => by kernel_rfl)) ?_
    k_go
    refine KM.of (hh7.mth (y := "amount") rfl (fun _ => by kernel_rfl)) ?_
    k_go
    refine KMA.of hh7.p4 ?_
    refine amount_ok hh7 he7 ht ?_
    k_go
    refine CALL.lenL hp7 (big (by rw [List.length_map]; exact Nat.le_trans ul (by decide))) ?_
    k_go
    rw [List.length_map]
    refine KMA.of hh7.p5 ?_
    refine keep_ok hh7 he7 hz ?_
    exact SEQ.next (EX.nil (k _ ⟨x7.trans (Ext.set (by simp)), at_ne ne.symm hd7, at_set he7⟩))
  · obtain ⟨x8, hd8, he8⟩ := q
    k_go
    refine KI.fin (v := .str (if ov then "over" else "")) (fun hk => ?_) ?_
    · cases ov with
      | true => exact KI.yes rfl (EV.str hk)
      | false => exact KI.no rfl (EV.str hk)
    · k_go
      exact h _ x8 hd8 he8
end
section
-- GLOBALS law_draw
-- BOOTS len range int sum abs
section
variable {σ : List Ob}
theorem KB.mulI {i j : Int} {K : V → List Ob → Prop} (h : IntMulOk i j) (k : K (.int (i * j)) σ) : KB .Mult K (.int i) (.int j) σ := ⟨_, Bin.mulI _ _ h, k⟩
theorem KB.fmodI {i j : Int} {K : V → List Ob → Prop} (h : j ≠ 0) (k : K (.int (i.fmod j)) σ) : KB .Mod K (.int i) (.int j) σ := ⟨_, Bin.fmodI _ _ h, k⟩
theorem noPylong {i j : Int} (h : j.natAbs < 2 ^ 64) : Builtin.divisionGoesByPylong i j = false := by
  unfold Builtin.divisionGoesByPylong
  have : ¬ (if j == 0 then 0 else j.natAbs.log2 / 30 + 1) > 300 := by
    split
    · decide
    · rename_i e
      have := (Nat.log2_lt (by simpa using e)).mpr h
      omega
  simp only [decide_eq_false this, Bool.false_and]
theorem KB.fdivI {i j : Int} {K : V → List Ob → Prop} (h : j ≠ 0) (h2 : j.natAbs < 2 ^ 64) (k : K (.int (i.fdiv j)) σ) : KB .FloorDiv K (.int i) (.int j) σ := ⟨_, Bin.fdivI _ _ h (noPylong h2), k⟩
theorem KB.powI {i j : Int} {K : V → List Ob → Prop} (h : 0 ≤ j) (h1 : j ≤ 1000000) (h2 : i.natAbs < 2 ^ 64) (k : K (.int (i ^ j.toNat)) σ) : KB .Pow K (.int i) (.int j) σ := ⟨_, Bin.powI _ _ h h1 h2, k⟩
end
/-- the pen: at most t drawn -/
def PEN (σ : List Ob) (P Q t : Nat) : Prop := ∃ (ns : List Int) (turn left : Int), σ[P]? = some (.list [.ref Q, .int turn, .int left]) ∧ σ[Q]? = some (.list (ns.map .int)) ∧ 0 ≤ turn ∧ turn ≤ t ∧ ns.length ≤ 48 ∧ Q < P
local macro_rules | `(tactic| k_go) => `(tactic| (repeat (first
    | ((with_reducible refine' KD.of ?w1 ?_); (case w1 => exact (by kernel_rfl)))
    | ((with_reducible refine' KB.mulI ?w1 ?_); (case w1 => exact (by first | assumption | exact IntMulOk.of_left (by decide) | exact IntMulOk.of_right (by decide))))
    | ((with_reducible refine' KB.fmodI ?w1 ?_); (case w1 => exact (by first | assumption | decide)))
    | ((with_reducible refine' KB.fdivI ?w1 ?w2 ?_); (case w1 => exact (by first | assumption | decide)); (case w2 => exact (by first | assumption | decide)))
    | ((with_reducible refine' KB.powI ?w1 ?w2 ?w3 ?_); (case w1 => exact (by decide)); (case w2 => exact (by decide)); (case w3 => exact (by first | assumption | decide)))
    | k_data)))
theorem law_pen_ok {n i : Nat} {σ : List Ob} {ns : List Int} {K : V → List Ob → Prop} (hi : LST σ i (ns.map .int)) (hn : ns.length ≤ 63) (h : ∀ σ' P Q, Ext [] σ σ' → PEN σ' P Q 0 → σ.length ≤ Q → K (.ref P) σ') : CALL (n + 2) σ (.val (.ref 184)) [.ref i] K := by
  refine CALL.def f_law_pen (ps := ["script"]) (fun _ _ _ _ _ _ => by show _ = _; kernel_rfl) (by kernel_rfl) (by decide) (by kernel_rfl) rfl rfl rfl fun _ _ => ?_
  k_go
  refine EV.comp (CompOK.of (by kernel_rfl) rfl (by kernel_rfl) (by kernel_rfl)) ?_ (fun _ _ => rfl)
  refine EV.cutL ?_
  k_go
  refine ⟨_, hi, big (by rw [List.length_map]; exact Nat.le_trans hn (by decide)), ?_⟩
  rw [show (48 : Int) = ((48 : Nat) : Int) from rfl, cut_t, ← List.map_take]
  have h48 : (ns.take 48).length ≤ 48 := by rw [List.length_take]; exact Nat.min_le_left ..
  generalize ns.take 48 = ms at h48 ⊢
  refine KCM.of (SRC.list at_new) (.inl fun _ _ => rfl) ?_
  refine CMP.maps (f := V.int) (g := V.int) at_new ms [] (by rw [List.length_nil, Nat.zero_add]; exact Nat.le_trans h48 (by decide)) (fun x _ K' k => ?_) ?_
  · k_go
    exact k
  rw [List.nil_append]
  k_go
  refine h _ _ _ ?_ ⟨ms, 0, 0, at_new, at_app at_new, Int.le_refl _, Int.le_refl _, h48, ?_⟩ ?_
  · exact Ext.app.trans (Ext.app.trans Ext.app)
  · exact (by simp : (σ ++ [Ob.list (ms.map V.int)]).length < ((σ ++ [Ob.list (ms.map V.int)]) ++ [Ob.list (ms.map V.int)]).length)
  · exact (by simp : σ.length ≤ (σ ++ [Ob.list (ms.map V.int)]).length)
theorem ibits {i : Int} (h : i.natAbs < 2 ^ 64) : Builtin.Int.intBits i ≤ 64 := intBits_le h
theorem dig {x : Int} {m : Nat} (hm : 0 < m) : ∃ k : Nat, k < m ∧ x.fmod (m : Int) = (k : Int) := by
  have h1 : 0 ≤ x.fmod (m : Int) := Int.fmod_nonneg_of_pos _ (by omega)
  have h2 : x.fmod (m : Int) < m := Int.fmod_lt_of_pos _ (by omega)
  exact ⟨(x.fmod m).toNat, by omega, by omega⟩
theorem SET.at1 {n j : Nat} {σ : List Ob} {a b c v : V} {K : List Ob → Prop} (e : σ[j]? = some (.list [a, b, c])) (h : K (σ.set j (.list [a, v, c]))) : SET n σ (.ref j) (.int 1) v K := SET.list e (by decide) (show (1 : Int) < (3 : Nat) by decide) (show 3 < 16777216 by decide) h
theorem SET.at2 {n j : Nat} {σ : List Ob} {a b c v : V} {K : List Ob → Prop} (e : σ[j]? = some (.list [a, b, c])) (h : K (σ.set j (.list [a, b, v]))) : SET n σ (.ref j) (.int 2) v K := SET.list e (by decide) (show (2 : Int) < (3 : Nat) by decide) (show 3 < 16777216 by decide) h
theorem md {x m : Int} (hm : 0 < m) : 0 ≤ x.fmod m ∧ x.fmod m < m := ⟨Int.fmod_nonneg_of_pos _ hm, Int.fmod_lt_of_pos _ hm⟩
theorem bnd1 {cell turn : Int} (h0 : 0 ≤ turn) (h1 : turn ≤ (900 : Nat)) : (cell.fmod 2147483587 + 31607 * turn + 1709).natAbs < 2 ^ 64 := by
  have := md (x := cell) (m := 2147483587) (by decide)
  omega
theorem bnd3 {turn : Int} (h0 : 0 ≤ turn) (h1 : turn ≤ (900 : Nat)) (a : Int) : IntMulOk a (2 * turn + 6301) := IntMulOk.of_right (ibits (by omega))
theorem bnd2 {a turn : Int} (h0 : 0 ≤ turn) (h1 : turn ≤ (900 : Nat)) : (a.fmod 2147483629 * (2 * turn + 6301) + 31607 * turn * turn + 41).natAbs < 2 ^ 64 := by
  have := md (x := a) (m := 2147483629) (by decide)
  generalize a.fmod 2147483629 = x at this ⊢
  have h2 : 0 ≤ x * (2 * turn + 6301) := Int.mul_nonneg this.1 (by omega)
  have h3 : x * (2 * turn + 6301) ≤ 2147483629 * 8101 := Int.mul_le_mul (by omega) (by omega) (by omega) (by omega)
  have h4 : 0 ≤ 31607 * turn * turn := Int.mul_nonneg (by omega) h0
  have h5 : 31607 * turn * turn ≤ (31607 * 900) * 900 := Int.mul_le_mul (by omega) (by omega) (by omega) (by omega)
  omega
theorem KTA.fin {op : BoolOp} {s q : Bool} {pos : Pos} {W : Env → Sem Value} {F : Fn} {ρ : List (String × V)} {xs : List Expr} {σ : List Ob} {a b : List Stmt} {K : Fl → List (String × V) → List Ob → Prop} (h : K .next ρ σ → KTA op s pos W F ρ xs (KIf F ρ a b K) q σ) (k : K .next ρ σ) : KTA op s pos W F ρ xs (KIf F ρ a b K) q σ := h k
theorem KIf.any {F : Fn} {ρ : List (String × V)} {σ : List Ob} {a b : List Stmt} {q : Bool} {K : Fl → List (String × V) → List Ob → Prop} {Q : List (String × V) → List Ob → Prop} (h : (∀ ρ₂ σ₂, Q ρ₂ σ₂ → K .next ρ₂ σ₂) → KIf F ρ a b K q σ) (k : ∀ ρ₂ σ₂, Q ρ₂ σ₂ → K .next ρ₂ σ₂) : KIf F ρ a b K q σ := h k
theorem law_draw_ok {n P Q t m : Nat} {σ : List Ob} {K : V → List Ob → Prop} (hp : PEN σ P Q t) (ht : t ≤ 900) (hm : 0 < m) (hm2 : m ≤ 1000) (h : ∀ σ' k, k < m → Ext [P] σ σ' → PEN σ' P Q (t + 1) → K (.int (k : Nat)) σ') : CALL (n + 1) σ (.val (.ref 191)) [.ref P, .int m] K := by
  obtain ⟨ns, turn, left, e1, e2, e3, e4, e5, e6⟩ := hp
  have m0 : (m : Int) ≠ 0 := by omega
  have m64 : (m : Int).natAbs < 2 ^ 64 := by omega
  have t64 : turn.natAbs < 2 ^ 64 := by omega
  have tb : IntMulOk (31607 * turn) turn := IntMulOk.of_right (ibits t64)
  refine CALL.def f_law_draw (ps := ["pen", "many"]) (fun _ _ _ _ _ _ _ => by show _ = _; kernel_rfl) (by kernel_rfl) (by decide) (by kernel_rfl) rfl rfl rfl fun _ _ => ?_
  k_go
  refine KS.of (Sub.list e1 (by decide) (by decide) rfl) ?_
  k_go
  by_cases hl : left > 0
  · refine KIf.yes (decide_eq_true hl) ?_
    k_go
    refine KS.of (Sub.list e1 (by decide) (by decide) rfl) ?_
    k_go
    refine KS.of (Sub.list e1 (by decide) (by decide) rfl) ?_
    k_go
    refine SET.at2 e1 ?_
    k_go
    obtain ⟨k, hk, e⟩ := dig (x := left) hm
    rw [e]
    exact h _ _ hk (Ext.set (.head _)) ⟨ns, turn, _, at_set e1, at_ne (Nat.ne_of_gt e6) e2, e3, Int.le_trans e4 (Int.ofNat_le.mpr (Nat.le_succ _)), e5, e6⟩
  · refine KIf.no (decide_eq_false hl) ?_
    k_go
    refine KS.of (Sub.list e1 (by decide) (by decide) rfl) ?_
    k_go
    refine SET.at1 e1 ?_
    have x1 : Ext [P] σ (σ.set P (Ob.list [V.ref Q, V.int (turn + 1), V.int left])) := Ext.set (.head _)
    have f1 := at_set (o := Ob.list [V.ref Q, V.int (turn + 1), V.int left]) e1
    have f2 := at_ne (o' := Ob.list [V.ref Q, V.int (turn + 1), V.int left]) (Nat.ne_of_gt e6) e2
    generalize σ.set P (Ob.list [V.ref Q, V.int (turn + 1), V.int left]) = σ₁ at x1 f1 f2 ⊢
    clear e1 e2
    k_go
    refine EV.cutL ?_
    k_go
    refine KS.of (Sub.list f1 (by decide) (by decide) rfl) ?_
    k_go
    refine ⟨_, .list f2, big (by rw [List.length_map]; exact Nat.le_trans e5 (by decide)), ?_⟩
    rw [show (1 : Int) = ((1 : Nat) : Int) from rfl, cut_t, ← List.map_take]
    k_go
    refine CALL.sum at_new ?_
    k_go
    generalize 31607 * turn + 1709 + ((ns.take 1).sum.fmod 1000003) = cell0
    generalize Ob.list ((ns.take 1).map V.int) = o1
    have g1 := at_app (l := [o1]) f1
    have g2 := at_app (l := [o1]) f2
    have x2 := x1.trans (Ext.app (l := [o1]))
    generalize σ₁ ++ [o1] = σ₂ at g1 g2 x2 ⊢
    clear f1 f2 x1
    k_go
    refine KS.of (Sub.list g1 (by decide) (by decide) rfl) ?_
    k_go
    obtain ⟨r, hr, hr2⟩ : ∃ r, (∀ n, Cmp n .NotEq (σ₂ ++ [Ob.list []]) (.ref Q) (.ref σ₂.length) r) ∧ (r = true → ns ≠ []) := by
      cases ns with
      | nil => exact ⟨_, fun n => Cmp.neL (r := true) (at_app g2) at_new (.inr rfl), fun z => nomatch z⟩
      | cons a l => exact ⟨_, fun n => Cmp.neL (at_app g2) at_new (.inl ⟨Nat.succ_ne_zero _, rfl⟩), fun _ => List.cons_ne_nil _ _⟩
    refine KCt.of (hr _) ?_
    have j1 := at_app (l := [Ob.list []]) g1
    have j2 := at_app (l := [Ob.list []]) g2
    have x3 := x2.trans (Ext.app (l := [Ob.list []]))
    generalize σ₂ ++ [Ob.list []] = σ₃ at j1 j2 x3 ⊢
    clear g1 g2 x2 hr
    refine KIf.any (Q := fun ρ₂ σ' => σ' = σ₃ ∧ ∃ c : Int, ρ₂ = [("pen", .ref P), ("many", .int m), ("turn", .int turn), ("cell", .int c)]) (fun k => ?_) (fun ρ₂ σ' q => ?_)
    · cases r with
      | false => exact KIf.no rfl (EX.nil (k _ _ ⟨rfl, cell0, rfl⟩))
      | true =>
        have hns := hr2 rfl
        have hl0 : 0 < ns.length := List.length_pos_iff.mpr hns
        have hl1 : (ns.length : Int) ≠ 0 := by omega
        obtain ⟨i, hi, ei⟩ := dig (x := turn) hl0
        refine KIf.yes rfl ?_
        k_go
        refine KS.of (Sub.list j1 (by decide) (by decide) rfl) ?_
        k_go
        refine KS.of (Sub.list j1 (by decide) (by decide) rfl) ?_
        k_go
        refine CALL.lenL j2 (big (by rw [List.length_map]; omega)) ?_
        k_go
        rw [List.length_map]
        k_go
        rw [ei]
        refine KS.of (Sub.list j2 (Int.natCast_nonneg _) (by omega) (v := .int (ns[i]'hi)) (by simp [hi])) ?_
        refine STO.loc rfl (SEQ.next (EX.nil (k _ _ ⟨rfl, _, rfl⟩)))
    obtain ⟨rfl, cell, rfl⟩ := q
    k_go
    refine KS.of (Sub.list j1 (by decide) (by decide) rfl) ?_
    k_go
    refine CALL.lenL j2 (big (by rw [List.length_map]; omega)) ?_
    k_go
    rw [List.length_map]
    refine KTA.fin (fun hk => ?_) ?_
    · by_cases c1 : turn < (ns.length : Int)
      · refine KTA.go (decide_eq_true c1) ?_
        k_go
        by_cases c2 : (10 : Int) ^ Int.toNat 18 ≤ (if cell < 0 then -cell else cell)
        · refine KTA.go (decide_eq_true c2) (TL.andN (KIf.yes rfl ?_))
          clear hk c2
          k_go
          refine SET.at2 j1 ?_
          generalize (2 * ((if cell < 0 then -cell else cell) - 10 ^ Int.toNat 18) + if decide (cell < 0) = true then 1 else 0) = great
          k_go
          obtain ⟨k, hk, e⟩ := dig (x := great) hm
          rw [e]
          exact h _ _ hk (x3.trans (Ext.set (.head _))) ⟨ns, turn + 1, _, at_set j1, at_ne (Nat.ne_of_gt e6) (by assumption), Int.add_nonneg e3 (by decide), by rw [Int.natCast_succ]; exact Int.add_le_add_right e4 1, e5, e6⟩
        · exact KTA.stop (decide_eq_false c2) (KIf.no rfl (EX.nil hk))
      · exact KTA.stop (decide_eq_false c1) (KIf.no rfl (EX.nil hk))
    · clear hr2
      have b1 := bnd1 (cell := cell) e3 (Int.le_trans e4 (Int.ofNat_le.mpr ht))
      have b2 := fun {a : Int} => bnd2 (a := a) e3 (Int.le_trans e4 (Int.ofNat_le.mpr ht))
      have b3 := bnd3 e3 (Int.le_trans e4 (Int.ofNat_le.mpr ht))
      k_go
      generalize (cell.fmod 2147483587 + 31607 * turn + 1709) ^ Int.toNat 5 = c5
      refine KB.mulI (b3 _) ?_
      k_go
      refine KB.powI (by decide) (by decide) b2 ?_
      k_go
      obtain ⟨k, hk, e⟩ := dig (x := ((((c5.fmod 2147483629 * (2 * turn + 6301) + 31607 * turn * turn + 41) ^ Int.toNat 3).fmod 2147483579).fdiv 32)) hm
      rw [e]
      exact h _ _ hk x3 ⟨ns, turn + 1, left, j1, j2, Int.add_nonneg e3 (by decide), by rw [Int.natCast_succ]; exact Int.add_le_add_right e4 1, e5, e6⟩
end
section
-- GLOBALS law_draw law_ref
-- BOOTS len range int sum abs bytes tuple
local macro_rules | `(tactic| k_go) => `(tactic| (repeat (first
    | ((with_reducible refine' KD.of ?w1 ?_); (case w1 => exact (by kernel_rfl)))
    | ((with_reducible refine' KB.mulI ?w1 ?_); (case w1 => exact (by first | assumption | exact IntMulOk.of_left (by decide) | exact IntMulOk.of_right (by decide))))
    | ((with_reducible refine' KB.fmodI ?w1 ?_); (case w1 => exact (by first | assumption | decide)))
    | ((with_reducible refine' KB.fdivI ?w1 ?w2 ?_); (case w1 => exact (by first | assumption | decide)); (case w2 => exact (by first | assumption | decide)))
    | ((with_reducible refine' KB.powI ?w1 ?w2 ?w3 ?_); (case w1 => exact (by decide)); (case w2 => exact (by decide)); (case w3 => exact (by first | assumption | decide)))
    | k_data)))
theorem pick_bytes {n P Q t : Nat} {σ : List Ob} {x : List UInt8} {K : V → List Ob → Prop} (hp : PEN σ P Q t) (ht : t ≤ 900) (h0 : 0 < x.length) (hx : x.length ≤ 1000) (h : ∀ σ' c, c ∈ x → Ext [P] σ σ' → PEN σ' P Q (t + 1) → K (.int (UInt8.toNat c : Nat)) σ') : CALL (n + 2) σ (.val (.ref 198)) [.ref P, .bytes x] K := by
  refine CALL.def f_law_pick (ps := ["pen", "some"]) (fun _ _ _ _ _ _ _ => by show _ = _; kernel_rfl) (by kernel_rfl) (by decide) (by kernel_rfl) rfl rfl rfl fun _ _ => ?_
  k_go
  refine CALL.lenB (big hx) ?_
  k_go
  refine law_draw_ok hp ht h0 hx fun σ' k hk x1 p1 => ?_
  k_go
  refine KS.of (Sub.bytes (big hx) (Int.natCast_nonneg _) (Int.ofNat_lt.mpr hk)) ?_
  k_go
  have e : x.getD (Int.toNat (k : Int)) 0 = x[k] := by simp [hk]
  rw [e]
  exact h _ _ (List.getElem_mem hk) x1 p1
theorem pick_list {n P Q t j : Nat} {σ : List Ob} {x : List Int} {K : V → List Ob → Prop} (hp : PEN σ P Q t) (hj : σ[j]? = some (.list (x.map .int))) (nj : j ≠ P) (ht : t ≤ 900) (h0 : 0 < x.length) (hx : x.length ≤ 1000) (h : ∀ σ' c, c ∈ x → Ext [P] σ σ' → PEN σ' P Q (t + 1) → K (.int c) σ') : CALL (n + 2) σ (.val (.ref 198)) [.ref P, .ref j] K := by
  refine CALL.def f_law_pick (ps := ["pen", "some"]) (fun _ _ _ _ _ _ _ => by show _ = _; kernel_rfl) (by kernel_rfl) (by decide) (by kernel_rfl) rfl rfl rfl fun _ _ => ?_
  k_go
  refine CALL.lenL hj (big (by rw [List.length_map]; exact hx)) ?_
  k_go
  rw [List.length_map]
  refine law_draw_ok hp ht h0 hx fun σ' k hk x1 p1 => ?_
  k_go
  refine KS.of (Sub.list (x1.at_ (by simpa using nj) hj) (Int.natCast_nonneg _) (by omega) (v := .int x[k]) (by simp [hk])) ?_
  k_go
  exact h _ _ (List.getElem_mem hk) x1 p1
theorem law_ref_ok {n : Nat} {σ : List Ob} {k : Str} {K : V → List Ob → Prop} (h : K (refV k) σ) : CALL (n + 1) σ (.val (.ref 205)) [.str k] K := by
  refine CALL.def f_law_ref (ps := ["name"]) (fun _ _ _ _ _ _ => by show _ = _; kernel_rfl) (by kernel_rfl) (by decide) (by kernel_rfl) rfl rfl rfl fun _ _ => ?_
  k_go
  exact h
end
section
-- GLOBALS cut_by_sizes
-- BOOTS len range min
theorem EX1.whileI {F : Fn} {ρ : List (String × V)} {σ : List Ob} {test : Expr} {body : List Stmt} {pos : Pos} {K : Fl → List (String × V) → List Ob → Prop} (ρe : List (String × V)) (σe : List Ob) (hK : K .next ρe σe) (h : K .next ρe σe → ∃ n r, Fewer r ρ ∧ WHL F test body K n r σ) : EX1 F ρ σ (.While test body [] pos) K := EX1.while (h hK)
abbrev fstV (p : List UInt8 × List UInt8) : V := .bytes p.1
theorem take_more {x : List UInt8} {m k : Nat} : (x.drop m).take k ++ (x.drop (m + k)).take 1 = (x.drop m).take (k + 1) := by
  rw [List.take_add, List.drop_drop]
local macro_rules | `(tactic| k_go) => `(tactic| (repeat (first
    | ((with_reducible refine' KD.of ?w1 ?_); (case w1 => exact (by kernel_rfl)))
    | ((with_reducible refine' KB.mulI ?w1 ?_); (case w1 => exact (by first | assumption | exact IntMulOk.of_left (by decide) | exact IntMulOk.of_right (by decide))))
    | ((with_reducible refine' KB.fmodI ?w1 ?_); (case w1 => exact (by first | assumption | decide)))
    | ((with_reducible refine' KB.fdivI ?w1 ?w2 ?_); (case w1 => exact (by first | assumption | decide)); (case w2 => exact (by first | assumption | decide)))
    | ((with_reducible refine' KB.powI ?w1 ?w2 ?w3 ?_); (case w1 => exact (by decide)); (case w2 => exact (by decide)); (case w3 => exact (by first | assumption | decide)))
    | k_data)))
theorem law_due_ok {n j b : Nat} {σ : List Ob} {x : List UInt8} {ws : List Nat} {K : V → List Ob → Prop} (hj : σ[j]? = some (.list (ws.map wV))) (hx : x.length ≤ 1000) (hw : ws.length ≤ 100) (h1 : ∀ w ∈ ws, 1 ≤ w) (hb : 1 ≤ b) (hb2 : b ≤ x.length)
    (h : K (.tup [.ref σ.length, .int ((cutB x ws b).2.1 : Nat), .bool (cutB x ws b).2.2]) (σ ++ [.list ((cutB x ws b).1.map fstV)])) : CALL (n + 1) σ (.val (.ref 226)) [.bytes x, .ref j, .int b] K := by
  refine CALL.def f_law_due (ps := ["source", "widths", "begin"]) (fun _ _ _ _ _ _ _ _ => by show _ = _; kernel_rfl) (by kernel_rfl) (by decide) (by kernel_rfl) rfl rfl rfl fun _ _ => ?_
  k_go
  refine EX1.swap (xs := [Str.ofString "pieces", Str.ofString "place"]) ?_ (fun _ => rfl) (fun _ => rfl)
  k_go
  refine EX1.for ?_ (fun _ _ => rfl)
  k_go
  refine KFor.of (SRC.list (at_app hj)) (.inl fun _ _ => rfl) [("source", .bytes x), ("pieces", .ref σ.length), ("place", .int (b : Int))] ⟨rfl, rfl, rfl, trivial⟩ ?_
  unfold cutB at h
  rw [if_pos ⟨hb, hb2⟩] at h
  obtain ⟨G, hG, hGs⟩ : ∃ G : List Ob → Prop, G = (fun σ' => σ'[j]? = some (Ob.list (ws.map wV))) ∧ ∀ l, G (σ ++ [Ob.list l]) := ⟨_, rfl, fun _ => at_app hj⟩
  rw [← hG]
  obtain ⟨m, acc, e4, e5, e6, e7, e8⟩ : ∃ (m : Nat) (acc : List (List UInt8 × List UInt8)), m ≤ x.length ∧ (σ ++ [.list []] : List Ob) = σ ++ [.list (acc.map fstV)] ∧ (b : Int) = ((m + 1 : Nat) : Int) ∧ cutF x ws (b - 1) = (acc ++ (cutF x ws m).1, (cutF x ws m).2) ∧ acc.length + ws.length ≤ 100 :=
    ⟨b - 1, [], by omega, rfl, by omega, rfl, by simpa using hw⟩
  rw [e5, e6]
  rw [e7] at h
  clear e5 e6 e7 hG hj hw hb hb2
  dsimp only at h
  induction ws generalizing m acc with
  | nil =>
    refine ⟨hGs _, ?_⟩
    k_go
    refine CALL.lenB (big hx) ?_
    k_go
    have e : cutF x [] m = ([], m) := rfl
    rw [e, List.append_nil] at h
    rw [show decide (((m + 1 : Nat) : Int) ≤ (x.length : Int)) = decide (m < x.length) by rw [decide_eq_decide]; omega]
    exact h
  | cons w ws ih =>
    refine ⟨hGs _, ?_⟩
    rw [List.length_cons] at e8
    have hw1 := h1 w (.head _)
    k_go
    refine EX1.whileI [("source", .bytes x), ("pieces", .ref σ.length), ("place", .int ((min (m + w) x.length + 1 : Nat) : Int)), ("width", wV w), ("piece", .bytes ((x.drop m).take w))] (σ ++ [Ob.list (acc.map fstV)]) ?_ fun fin => ⟨min w (x.length - m) + 1, [("source", .bytes x), ("pieces", .ref σ.length), ("place", .int ((m + 1 : Nat) : Int)), ("width", wV w), ("piece", .bytes [])], ⟨rfl, rfl, rfl, rfl, rfl, trivial⟩, ?_⟩
    · k_go
      unfold cutF at h
      by_cases hlt : m < x.length
      · rw [if_pos hlt] at h
        have hn : ((x.drop m).take w != []) = true := by
          rw [bne_iff_ne]
          intro z
          have := congrArg List.length z
          rw [List.length_take, List.length_drop] at this
          simp at this
          omega
        refine KIf.yes hn ?_
        k_go
        refine KM.of (MTH.append at_new) ?_
        k_go
        refine CALL.append at_new (by rw [List.length_map]; omega) ?_
        rw [set_new]
        k_go
        rw [show (acc.map fstV) ++ [V.bytes ((x.drop m).take w)] = (acc ++ [((x.drop m).take w, [])]).map fstV by rw [List.map_append]; rfl]
        refine FK.next ?_ (ih (fun v hv => h1 v (.tail _ hv)) (min (m + w) x.length) (acc ++ [((x.drop m).take w, [])]) ?_ ?_ ?_)
        · exact ⟨rfl, rfl, rfl, trivial⟩
        · rw [List.append_assoc]
          exact h
        · exact Nat.min_le_right _ _
        · rw [List.length_append]; simp; omega
      · rw [if_neg hlt] at h
        have hm : m = x.length := by omega
        refine KIf.no (by rw [hm, List.drop_length, List.take_nil]; rfl) ?_
        k_go
        rw [show min (m + w) x.length = m by omega]
        refine FK.next ?_ (ih (fun v hv => h1 v (.tail _ hv)) m acc h e4 (by omega))
        exact ⟨rfl, rfl, rfl, trivial⟩
    · refine (?_ : ∀ r k, k + r = min w (x.length - m) → WHL _ _ _ _ (r + 1) [("source", .bytes x), ("pieces", .ref σ.length), ("place", .int ((m + k + 1 : Nat) : Int)), ("width", wV w), ("piece", .bytes ((x.drop m).take k))] _) (min w (x.length - m)) 0 (Nat.zero_add _)
      intro r
      induction r with
      | zero =>
        intro k hk
        have hl : ((x.drop m).take k).length = k := by rw [List.length_take, List.length_drop]; omega
        have e1 : m + k = min (m + w) x.length := by omega
        have e2 : (x.drop m).take k = (x.drop m).take w := by
          by_cases q : k = w
          · rw [q]
          · rw [List.take_of_length_le (by rw [List.length_drop]; omega), List.take_of_length_le (by rw [List.length_drop]; omega)]
        rw [← e1, ← e2] at fin
        k_go
        refine CALL.lenB (big (by omega)) ?_
        k_go
        rw [hl]
        by_cases q : k < w
        · refine KTA.go (decide_eq_true (by omega)) ?_
          k_go
          refine CALL.lenB (big hx) ?_
          k_go
          exact KTA.stop (decide_eq_false (by omega)) (KWh.no rfl fin)
        · exact KTA.stop (decide_eq_false (by omega)) (KWh.no rfl fin)
      | succ r ihr =>
        intro k hk
        have hl : ((x.drop m).take k).length = k := by rw [List.length_take, List.length_drop]; omega
        k_go
        refine CALL.lenB (big (by omega)) ?_
        k_go
        rw [hl]
        refine KTA.go (decide_eq_true (by omega)) ?_
        k_go
        refine CALL.lenB (big hx) ?_
        k_go
        refine KTA.go (decide_eq_true (by omega)) ?_
        k_go
        refine KWh.yes rfl ?_
        k_go
        refine EV.cutB ?_ (fun _ _ _ => rfl)
        k_go
        refine ⟨big hx, ?_⟩
        rw [show (((m + k + 1 : Nat) : Int) - 1) = ((m + k : Nat) : Int) by omega, cut_nn, Nat.add_sub_cancel_left]
        k_go
        refine KB.addB (big (by rw [hl, List.length_take]; omega)) ?_
        rw [take_more]
        k_go
        refine FK.next ?_ (ihr (k + 1) (by omega))
        exact ⟨rfl, rfl, rfl, rfl, rfl, trivial⟩
end
section
/-! the plain law -/
def lay (g : List UInt8) (f : Nat) (c : List UInt8) : List UInt8 := g.take (f - 1) ++ c.take (g.length + 1 - f) ++ g.drop (f - 1 + (c.take (g.length + 1 - f)).length)
theorem lay_len {g c : List UInt8} {f : Nat} (h : 1 ≤ f) (h2 : f ≤ g.length + 1) : (lay g f c).length = g.length := by
  unfold lay
  simp only [List.length_append, List.length_take, List.length_drop]
  omega
theorem lay_put {g p c : List UInt8} {f : Nat} (h : 1 ≤ f) (h2 : f ≤ g.length + 1) (hp : p.length ≤ g.length + 1 - f) :
    lay (g.take (f - 1) ++ p ++ g.drop (f - 1 + p.length)) (f + p.length) c = lay g f (p ++ c) := by
  have hl : (g.take (f - 1) ++ p ++ g.drop (f - 1 + p.length)).length = g.length := by simp only [List.length_append, List.length_take, List.length_drop]; omega
  have ht : (g.take (f - 1)).length = f - 1 := by rw [List.length_take]; omega
  have e1 : (g.take (f - 1) ++ p ++ g.drop (f - 1 + p.length)).take (f + p.length - 1) = g.take (f - 1) ++ p := List.take_left' (by rw [List.length_append, ht]; omega)
  have e2 : (p ++ c).take (g.length + 1 - f) = p ++ c.take (g.length + 1 - (f + p.length)) := by
    rw [List.take_append, List.take_of_length_le hp]
    congr 2; omega
  have e3 : ∀ k, (g.take (f - 1) ++ p ++ g.drop (f - 1 + p.length)).drop (f + p.length - 1 + k) = g.drop (f - 1 + p.length + k) := fun k => by
    rw [List.drop_append, List.drop_of_length_le (by rw [List.length_append, ht]; omega), List.nil_append, List.drop_drop]
    congr 1
    rw [List.length_append, ht]; omega
  unfold lay
  rw [hl, e1, e2, e3, List.length_append]
  simp only [List.append_assoc, Nat.add_assoc]
theorem strungF_spec : ∀ (ps : List (List UInt8)) (g : List UInt8) (f : Nat), 1 ≤ f → f ≤ g.length + 1 →
    strungF ps g f = (lay g f ps.flatten, f + min ps.flatten.length (g.length + 1 - f), decide (g.length + 1 - f < ps.flatten.length))
  | [], g, f, h, h2 => by
    unfold strungF lay
    simp
  | p :: ps, g, f, h, h2 => by
    unfold strungF
    rw [List.flatten_cons]
    by_cases hp : (p.take (g.length + 1 - f)).length < p.length
    · rw [if_pos hp]
      rw [List.length_take] at hp
      have hr : g.length + 1 - f < p.length := by omega
      have e : (p ++ ps.flatten).take (g.length + 1 - f) = p.take (g.length + 1 - f) := List.take_append_of_le_length (by omega)
      unfold lay
      rw [e, List.length_take, List.length_append, decide_eq_true (by omega : g.length + 1 - f < p.length + ps.flatten.length)]
      refine congrArg _ (congrArg (·, true) ?_)
      omega
    · rw [if_neg hp]
      rw [List.length_take] at hp
      have hr : p.length ≤ g.length + 1 - f := by omega
      rw [List.take_of_length_le hr]
      have hl : (g.take (f - 1) ++ p ++ g.drop (f - 1 + p.length)).length = g.length := by simp only [List.length_append, List.length_take, List.length_drop]; omega
      rw [strungF_spec ps _ _ (by omega) (by rw [hl]; omega), lay_put h h2 hr, hl, List.length_append]
      refine congrArg _ (Prod.ext ?_ ?_)
      · show f + p.length + min ps.flatten.length (g.length + 1 - (f + p.length)) = f + min (p.length + ps.flatten.length) (g.length + 1 - f)
        omega
      · show decide _ = decide _
        refine decide_eq_decide.mpr ?_
        omega
theorem strungB_ok {ps : List (List UInt8)} {g : List UInt8} {f : Nat} (h : 1 ≤ f) (h2 : f ≤ g.length) : strungB ps g f = (lay g f ps.flatten, f + min ps.flatten.length (g.length + 1 - f), decide (g.length + 1 - f < ps.flatten.length)) := by
  unfold strungB
  rw [if_pos ⟨h, h2⟩, strungF_spec ps g f h (by omega)]
theorem look_put {α : Type} {k k' : Str} {v : α} : ∀ {l : List (Str × α)}, (put k v l).lookup k' = if k' = k then some v else l.lookup k' := fun {l} => by
  unfold put
  by_cases ha : (l.any fun p => decide (p.1 = k)) = true
  · rw [if_pos ha]
    induction l with
    | nil => cases ha
    | cons p l ih =>
      obtain ⟨x, u⟩ := p
      rw [List.map_cons]
      by_cases hx : x = k
      · subst hx
        rw [if_pos rfl]
        by_cases hk : k' = x
        · subst hk; simp
        · rw [if_neg hk, List.lookup_cons, List.lookup_cons]
          have : (k' == x) = false := by simpa using hk
          rw [this]
          by_cases ha2 : (l.any fun p => decide (p.1 = x)) = true
          · rw [ih ha2, if_neg hk]
          · congr 1
            have : ∀ q ∈ l, q.1 ≠ x := fun q hq z => ha2 (List.any_eq_true.mpr ⟨q, hq, by simpa using z⟩)
            have : l.map (fun p => if p.1 = x then (p.1, v) else p) = l.map id := List.map_congr_left fun q hq => if_neg (this q hq)
            rw [this, List.map_id]
      · rw [if_neg hx]
        have ha2 : (l.any fun p => decide (p.1 = k)) = true := by simpa [hx] using ha
        rw [List.lookup_cons, List.lookup_cons, ih ha2]
        by_cases hk : k' = k
        · have : (k' == x) = false := by simp; rw [hk]; exact fun z => hx z.symm
          simp only [this, if_pos hk]
        · rw [if_neg hk, if_neg hk]
  · rw [if_neg ha]
    have hne : ∀ q ∈ l, q.1 ≠ k := fun q hq z => ha (List.any_eq_true.mpr ⟨q, hq, by simpa using z⟩)
    clear ha
    induction l with
    | nil => simp [List.lookup]; split <;> rename_i h <;> simp_all
    | cons p l ih =>
      obtain ⟨x, u⟩ := p
      rw [List.cons_append, List.lookup_cons, List.lookup_cons, ih fun q hq => hne q (.tail _ hq)]
      have hx : x ≠ k := hne _ (.head _)
      by_cases hk : k' = k
      · have : (k' == x) = false := by simp; rw [hk]; exact fun z => hx z.symm
        simp only [this, if_pos hk]
      · rw [if_neg hk, if_neg hk]
theorem put_len {α : Type} {k : Str} {v : α} {l : List (Str × α)} : (put k v l).length ≤ l.length + 1 := by
  unfold put
  split
  · rw [List.length_map]; exact Nat.le_succ _
  · rw [List.length_append]; exact Nat.le_refl _
def nms (k : Nat) : List Str := ([("A" : Str), "B", "C", "D"]).take k
theorem nms_ok : ∀ k ≤ 4, (nms k).length = k ∧ (nms k).Nodup ∧ ("S" : Str) ∉ nms k ∧ ("G" : Str) ∉ nms k := by decide +kernel
def ndB : List Str → Bool
  | [] => true
  | x :: l => !l.contains x && ndB l
theorem ndB_ok : ∀ {l : List Str}, ndB l = true → l.Nodup
  | [], _ => List.nodup_nil
  | x :: l, h => by
    unfold ndB at h
    rw [Bool.and_eq_true] at h
    exact List.nodup_cons.mpr ⟨by simpa using h.1, ndB_ok h.2⟩
theorem KD.of {σ : List Ob} {l : List (Str × V)} {K : V → List Ob → Prop} (e : ndB (l.map (·.1)) = true) (h : K (.ref σ.length) (σ ++ [.dict l])) : KD K l σ := ⟨ndB_ok e, h⟩
theorem Ext.cell {M : List Nat} {σ σ' : List Ob} {j : Nat} {o : Ob} (x : Ext M σ σ') (h : σ.length ≤ j) : Ext M σ (σ'.set j o) := ⟨by rw [List.length_set]; exact x.le, fun {i o} n e => at_ne (Nat.ne_of_gt (Nat.lt_of_lt_of_le (at_lt e) h)) (x.at_ n e)⟩
theorem CMP.mapsX {α : Type} {M : List Nat} {F : Fn} {target elt : Expr} {G : List Ob → Prop} {K : List V → List Ob → Prop} {σ : List Ob} {f g : α → V} (hG : ∀ σ', Ext M σ σ' → G σ') : ∀ (l : List α) (acc : List V) (σ' : List Ob), Ext M σ σ' → acc.length + l.length ≤ 1000 →
    (∀ x ∈ l, ∀ σ₁, Ext M σ σ₁ → ∀ K' : V → List Ob → Prop, (∀ σ₂, Ext M σ₁ σ₂ → K' (g x) σ₂) → ASG F [] σ₁ target (f x) (KCe F elt K')) → (∀ σ₂, Ext M σ σ₂ → K (acc ++ l.map g) σ₂) → CMP F target elt G K (l.map f) acc σ'
  | [], acc, _, x, _, _, k => ⟨hG _ x, by have := k _ x; rw [List.map_nil, List.append_nil] at this; exact this⟩
  | y :: l, acc, σ', x, hn, h, k => ⟨hG _ x, h y (.head _) σ' x _ fun σ₂ x2 => ⟨Nat.le_trans (Nat.le_add_right ..) hn, CMP.mapsX hG l (acc ++ [g y]) σ₂ (x.trans x2) (by simp at hn ⊢; omega) (fun z m => h z (.tail _ m)) fun σ₃ x3 => by rw [List.append_assoc]; exact k σ₃ x3⟩⟩
theorem HND.new {σ : List Ob} {I N : Nat} (hI : I < σ.length) (hN : N < σ.length) : HND (σ ++ handsObs σ.length I N) σ.length I N := ⟨fun {k o} e => by rw [List.getElem?_append_right (Nat.le_add_right ..), Nat.add_sub_cancel_left]; exact e, hI, hN⟩
theorem Ext.trans2 {M : List Nat} {σ₁ σ₂ σ₃ : List Ob} (a : Ext [] σ₁ σ₂) (b : Ext M σ₂ σ₃) (h : ∀ j ∈ M, σ₁.length ≤ j) : Ext [] σ₁ σ₃ := ⟨Nat.le_trans a.le b.le, fun n e => b.at_ (fun m => Nat.lt_irrefl _ (Nat.lt_of_lt_of_le (at_lt e) (h _ m))) (a.at_ n e)⟩
theorem put_new {α : Type} {k : Str} {v : α} {l : List (Str × α)} (h : k ∉ l.map (·.1)) : put k v l = l ++ [(k, v)] := by
  unfold put
  rw [if_neg]
  intro q
  obtain ⟨p, hp, e⟩ := List.any_eq_true.mp q
  exact h (List.mem_map.mpr ⟨p, hp, of_decide_eq_true e⟩)
theorem look_own {α : Type} : ∀ {l : List (Str × α)}, (l.map (·.1)).Nodup → ∀ p ∈ l, l.lookup p.1 = some p.2
  | (y, u) :: l, hn, p, hp => by
    obtain ⟨n1, n2⟩ := List.nodup_cons.mp hn
    rcases List.mem_cons.mp hp with rfl | hp
    · simp
    · rw [List.lookup_cons]
      have : (p.1 == y) = false := by
        simp only [beq_eq_false_iff_ne]
        exact fun e => n1 (by rw [← e]; exact List.mem_map_of_mem (f := (·.1)) hp)
      rw [this]
      exact look_own n2 p hp
theorem dhits_own {d : Nat} {σ : List Ob} {α : Type} {f : α → V} (hf : ∀ a, EQV d σ (f a) (f a) true) {full : List (Str × α)} : ∀ {l : List (Str × α)}, (∀ p ∈ l, full.lookup p.1 = some p.2) → DHits d σ (full.map fun p => (p.1, f p.2)) (l.map fun p => (p.1, f p.2)) true
  | [], _ => rfl
  | p :: l, h => .inr ⟨f p.2, true, true, look_map (h p (.head _)), hf _, dhits_own hf fun q m => h q (.tail _ m), rfl⟩
theorem Cmp.eqOwn {n i j : Nat} {σ : List Ob} {α : Type} {f : α → V} (hf : ∀ d σ a, EQV d σ (f a) (f a) true) {l : List (Str × α)} (hn : (l.map (·.1)).Nodup) (ei : σ[i]? = some (DT f l)) (ej : σ[j]? = some (DT f l)) : Cmp n .Eq σ (.ref i) (.ref j) true := by
  have := Cmp.eqD (n := n) ei ej (dhits_own (hf 50 σ) (look_own hn))
  rw [beq_self_eq_true] at this
  exact this
theorem Cmp.neOwn {n i j : Nat} {σ : List Ob} {α : Type} {f : α → V} (hf : ∀ d σ a, EQV d σ (f a) (f a) true) {l : List (Str × α)} (hn : (l.map (·.1)).Nodup) (ei : σ[i]? = some (DT f l)) (ej : σ[j]? = some (DT f l)) : Cmp n .NotEq σ (.ref i) (.ref j) false := by
  have := Cmp.neD (n := n) ei ej (dhits_own (hf 50 σ) (look_own hn))
  rw [beq_self_eq_true] at this
  exact this
theorem hfB (d : Nat) (σ : List Ob) (a : List UInt8) : EQV d σ (.bytes a) (.bytes a) true := by
  have := EQV.bytes (d := d) (σ := σ) a a
  rw [beq_self_eq_true] at this; exact this
theorem hfI (d : Nat) (σ : List Ob) (a : Int) : EQV d σ (.int a) (.int a) true := by
  have := EQV.int (d := d) (σ := σ) a a
  rw [beq_self_eq_true] at this; exact this
/-! cutting -/
def row2 (n : Str) : GROW := ⟨n, none, none⟩
theorem layD2_off {k : Str} : ∀ {ns : List Str} {ps : List (List UInt8 × List UInt8)} {d : List (Str × List UInt8)}, k ∉ ns → (layD (ns.map row2) ps d).lookup k = d.lookup k
  | [], ps, _, _ => by cases ps <;> rfl
  | _ :: _, [], _, _ => rfl
  | n :: ns, p :: ps, d, h => by
    show (layD (ns.map row2) ps (put n (padF n p.1 d) d)).lookup k = _
    rw [layD2_off fun m => h (.tail _ m), look_put, if_neg fun e => h (by rw [e]; exact .head _)]
theorem padF_put {m n : Str} {v x : List UInt8} {d : List (Str × List UInt8)} (h : n ≠ m) : padF n x (put m v d) = padF n x d := by
  unfold padF
  rw [look_put, if_neg h]
theorem layD2_at : ∀ {ns : List Str} {ps : List (List UInt8 × List UInt8)} {d : List (Str × List UInt8)}, ns.Nodup → ∀ {i : Nat} {n : Str}, ns[i]? = some n →
    (layD (ns.map row2) ps d).lookup n = match ps[i]? with | some p => some (padF n p.1 d) | none => d.lookup n
  | [], _, _, _, _, _, h => nomatch h
  | m :: ns, [], d, _, i, n, h => rfl
  | m :: ns, p :: ps, d, hn, 0, n, h => by
    have h : m = n := by simpa using h
    subst h
    show (layD (ns.map row2) ps (put m (padF m p.1 d) d)).lookup m = some (padF m p.1 d)
    rw [layD2_off (List.nodup_cons.mp hn).1, look_put, if_pos rfl]
  | m :: ns, p :: ps, d, hn, i + 1, n, h => by
    have h : ns[i]? = some n := by simpa using h
    have ne : n ≠ m := fun e => (List.nodup_cons.mp hn).1 (by rw [← e]; exact List.mem_of_getElem? h)
    show (layD (ns.map row2) ps (put m (padF m p.1 d) d)).lookup n = _
    rw [layD2_at (List.nodup_cons.mp hn).2 h]
    show _ = match ps[i]? with | some p => some (padF n p.1 d) | none => d.lookup n
    cases ps[i]? with
    | none => show (put m (padF m p.1 d) d).lookup n = d.lookup n; rw [look_put, if_neg ne]
    | some q => show some _ = some _; rw [padF_put ne]
theorem layN2 : ∀ {ns : List Str} {ps : List (List UInt8 × List UInt8)} {e : List (Str × Int)}, layN (ns.map row2) ps e = e
  | [], ps, _ => by cases ps <;> rfl
  | _ :: _, [], _ => rfl
  | n :: ns, p :: ps, e => by
    show layN (ns.map row2) ps e = e
    exact layN2
theorem layOK2 : ∀ {ns : List Str} {ps : List (List UInt8 × List UInt8)} {d : List (Str × List UInt8)} {e : List (Str × Int)}, ns.Nodup → ps.length ≤ ns.length → d.length + ps.length ≤ 900 → e.length ≤ 900 → (∀ p ∈ ps, p.1.length ≤ 900 ∧ p.2.length ≤ 900) →
    (∀ n ∈ ns, ∃ y, d.lookup n = some y ∧ y.length ≤ 900) → LayOK (ns.map row2) ps d e
  | [], [], d, e, _, _, _, _, _, _ => trivial
  | _ :: _, [], d, e, _, _, _, _, _, _ => trivial
  | [], _ :: _, _, _, _, h, _, _, _, _ => absurd h (Nat.not_succ_le_zero _)
  | n :: ns, p :: ps, d, e, hn, h, hd, he, hp, hy => by
    simp only [List.length_cons] at h hd
    obtain ⟨n1, n2⟩ := List.nodup_cons.mp hn
    have h1 : (layG (row2 n) p d).length ≤ d.length + 1 := put_len
    refine ⟨⟨by omega, by omega, he⟩, hp p (.head _), ⟨hy n (.head _), fun m hm => nomatch hm⟩, ?_⟩
    show LayOK (ns.map row2) ps (layG (row2 n) p d) e
    refine layOK2 n2 (by omega) (by omega) he (fun q m => hp q (.tail _ m)) fun k hk => ?_
    obtain ⟨y, e1, e2⟩ := hy k (.tail _ hk)
    refine ⟨y, ?_, e2⟩
    show (put n (padF n p.1 d) d).lookup k = some y
    rw [look_put, if_neg fun z => n1 (by rw [← z]; exact hk), e1]
theorem cutF_end {x : List UInt8} : ∀ {ws : List Nat} {a : Nat}, x.length ≤ a → cutF x ws a = ([], a)
  | [], _, _ => rfl
  | w :: ws, a, h => by
    unfold cutF
    rw [if_neg (Nat.not_lt.mpr h)]
    exact cutF_end h
theorem cutF_le {x : List UInt8} : ∀ {ws : List Nat} {a : Nat}, a ≤ x.length → (cutF x ws a).2 ≤ x.length
  | [], _, h => h
  | w :: ws, a, h => by
    unfold cutF
    split
    · exact cutF_le (Nat.min_le_right _ _)
    · exact cutF_le h
theorem cutF_pc {x : List UInt8} : ∀ {ws : List Nat} {a : Nat}, ∀ p ∈ (cutF x ws a).1, p.2 = [] ∧ p.1.length ≤ x.length
  | [], _, p, h => nomatch h
  | w :: ws, a, p, h => by
    unfold cutF at h
    split at h
    · rcases List.mem_cons.mp h with rfl | h
      · exact ⟨rfl, by simp only [List.length_take, List.length_drop]; omega⟩
      · exact cutF_pc p h
    · exact cutF_pc p h
theorem cutB_pc {x : List UInt8} {ws : List Nat} {b : Nat} : ∀ p ∈ (cutB x ws b).1, p.2 = [] ∧ p.1.length ≤ x.length := fun p h => by
  unfold cutB at h
  split at h
  · exact cutF_pc p h
  · exact nomatch h
/-- field by field is at once -/
theorem cutB_step {x : List UInt8} {w : Nat} {ws : List Nat} {b : Nat} (h : 1 ≤ b) : (cutB x (w :: ws) b).1 = (cutB x [w] b).1 ++ (cutB x ws (cutB x [w] b).2.1).1 ∧ (cutB x (w :: ws) b).2.1 = (cutB x ws (cutB x [w] b).2.1).2.1 := by
  by_cases hb : b ≤ x.length
  · have e1 : cutF x [w] (b - 1) = ([((x.drop (b - 1)).take w, [])], min (b - 1 + w) x.length) := by
      unfold cutF
      rw [if_pos (by omega)]
      rfl
    have e2 : cutF x (w :: ws) (b - 1) = (((x.drop (b - 1)).take w, []) :: (cutF x ws (min (b - 1 + w) x.length)).1, (cutF x ws (min (b - 1 + w) x.length)).2) := by
      rw [cutF, if_pos (by omega)]
    have e3 : cutB x [w] b = ([((x.drop (b - 1)).take w, [])], min (b - 1 + w) x.length + 1, decide (min (b - 1 + w) x.length < x.length)) := by
      unfold cutB
      rw [if_pos ⟨h, hb⟩, e1]
    have e4 : (cutB x ws (min (b - 1 + w) x.length + 1)).1 = (cutF x ws (min (b - 1 + w) x.length)).1 ∧ (cutB x ws (min (b - 1 + w) x.length + 1)).2.1 = (cutF x ws (min (b - 1 + w) x.length)).2 + 1 := by
      unfold cutB
      by_cases q : min (b - 1 + w) x.length < x.length
      · rw [if_pos ⟨by omega, by omega⟩, Nat.add_sub_cancel]
        exact ⟨rfl, rfl⟩
      · rw [if_neg (by omega), cutF_end (by omega)]
        exact ⟨rfl, rfl⟩
    rw [e3]
    dsimp only
    rw [e4.1, e4.2]
    unfold cutB
    rw [if_pos ⟨h, hb⟩, e2]
    exact ⟨rfl, rfl⟩
  · have e : ∀ vs, cutB x vs b = ([], b, true) := fun vs => by unfold cutB; rw [if_neg (by omega)]
    rw [e, e, e]
    exact ⟨rfl, rfl⟩
theorem cutB_nil {x : List UInt8} {b : Nat} (h : 1 ≤ b) : (cutB x [] b).1 = [] ∧ (cutB x [] b).2.1 = b := by
  unfold cutB
  split
  · exact ⟨rfl, by show b - 1 + 1 = b; omega⟩
  · exact ⟨rfl, rfl⟩
/-- what was laid is cut again -/
theorem cutF_laid : ∀ (fs : List (List UInt8)) (pre post : List UInt8), (∀ f ∈ fs, f ≠ []) → cutF (pre ++ fs.flatten ++ post) (fs.map (·.length)) pre.length = (fs.map fun f => (f, []), pre.length + fs.flatten.length)
  | [], pre, post, _ => by simp [cutF]
  | f :: fs, pre, post, h => by
    have hf : 0 < f.length := List.length_pos_iff.mpr (h f (.head _))
    have e0 : pre ++ (f :: fs).flatten ++ post = (pre ++ f) ++ fs.flatten ++ post := by simp
    have ih := cutF_laid fs (pre ++ f) post fun g m => h g (.tail _ m)
    rw [e0, List.map_cons, cutF, if_pos (by simp only [List.length_append]; omega)]
    have e1 : min (pre.length + f.length) (pre ++ f ++ fs.flatten ++ post).length = (pre ++ f).length := by simp only [List.length_append]; omega
    have e2 : ((pre ++ f ++ fs.flatten ++ post).drop pre.length).take f.length = f := by
      rw [List.append_assoc, List.append_assoc, List.drop_left, List.take_left]
    rw [e1, e2, ih]
    simp only [List.map_cons, List.length_append, List.flatten_cons]
    rw [Nat.add_assoc]
end
section
-- HANDS
-- GLOBALS law_ref law_hands unstring_with cut_by_sizes law_due
-- RULE law_ref_ok ?_
-- BOOTS len range tuple
def dS (k : Str) (x : List UInt8) (zs : List (Str × List UInt8)) : List (Str × List UInt8) := (k, x) :: zs
def nsT (b : Int) (t : Int) : List (Str × Int) := [(Str.ofString "P", b), (Str.ofString "T", t)]
def q63 (w : Nat) : List UInt8 := List.replicate w 63
theorem dS_put {k n : Str} {x v : List UInt8} {zs : List (Str × List UInt8)} (h1 : n ≠ k) (h2 : n ∉ zs.map (·.1)) : put n v (dS k x zs) = dS k x (zs ++ [(n, v)]) := by
  rw [put_new]
  · rfl
  · exact fun m => by
      rcases List.mem_cons.mp m with e | m
      · exact h1 e
      · exact h2 m
theorem nms_get {k : Nat} : ∀ {n : Str}, n ∈ nms k → n ≠ ("S" : Str) ∧ n ≠ ("G" : Str) := fun {n} h => by
  have : n ∈ [("A" : Str), "B", "C", "D"] := List.mem_of_mem_take h
  clear h
  revert this
  revert n
  decide +kernel
theorem beq_false_of_ne {a b : Str} (h : a ≠ b) : (a == b) = false := by simpa using h
theorem dS_own {k : Str} {x : List UInt8} {zs : List (Str × List UInt8)} : (dS k x zs).lookup k = some x := by
  unfold dS
  rw [List.lookup_cons, beq_self_eq_true]
theorem dS_off {k n : Str} {x : List UInt8} {zs : List (Str × List UInt8)} (h : n ≠ k) : (dS k x zs).lookup n = zs.lookup n := by
  unfold dS
  rw [List.lookup_cons, beq_false_of_ne h]
theorem zip_look {α : Type} : ∀ {ns : List Str} {l : List α} {i : Nat} {n : Str} {v : α}, ns.Nodup → ns[i]? = some n → l[i]? = some v → (ns.zip l).lookup n = some v
  | [], _, _, _, _, _, h, _ => nomatch h
  | _ :: _, [], _, _, _, _, _, h => nomatch h
  | m :: ns, u :: l, 0, n, v, _, h, h2 => by
    have h : m = n := by simpa using h
    have h2 : u = v := by simpa using h2
    subst h h2
    rw [List.zip_cons_cons, List.lookup_cons, beq_self_eq_true]
  | m :: ns, u :: l, i + 1, n, v, hn, h, h2 => by
    have h : ns[i]? = some n := by simpa using h
    have h2 : l[i]? = some v := by simpa using h2
    obtain ⟨n1, n2⟩ := List.nodup_cons.mp hn
    have ne : n ≠ m := fun e => n1 (by rw [← e]; exact List.mem_of_getElem? h)
    rw [List.zip_cons_cons, List.lookup_cons, beq_false_of_ne ne]
    exact zip_look n2 h h2
theorem map_at {α β : Type} {f : α → β} {l : List α} {i : Nat} {x : α} (h : l[i]? = some x) : (l.map f)[i]? = some (f x) := by rw [List.getElem?_map, h]; rfl
/-- what is due in the receiving items -/
def dueF (ws : List Nat) (ps : List (List UInt8 × List UInt8)) (i : Nat) : List UInt8 := match ps[i]? with
  | some p => p.1 ++ List.replicate (ws.getD i 0 - p.1.length) 42
  | none => q63 (ws.getD i 0)
theorem due_all {k : Nat} {x : List UInt8} {ws : List Nat} {ps : List (List UInt8 × List UInt8)} (hk : ws.length = k) (hk4 : k ≤ 4) :
    (nms k).map (fun n => ((layD ((nms k).map row2) ps (dS "S" x ((nms k).zip (ws.map q63)))).lookup n).getD []) = (List.range k).map (dueF ws ps) := by
  obtain ⟨q1, q2, q3, q4⟩ := nms_ok k hk4
  refine List.ext_getElem? fun i => ?_
  by_cases hi : i < k
  · obtain ⟨n, hn⟩ : ∃ n, (nms k)[i]? = some n := ⟨_, List.getElem?_eq_getElem (by rw [q1]; exact hi)⟩
    obtain ⟨w, hw⟩ : ∃ w, ws[i]? = some w := ⟨_, List.getElem?_eq_getElem (by rw [hk]; exact hi)⟩
    have hl : (dS "S" x ((nms k).zip (ws.map q63))).lookup n = some (q63 w) := by
      rw [dS_off (nms_get (List.mem_of_getElem? hn)).1, zip_look q2 hn (map_at hw)]
    have hg : ws.getD i 0 = w := by rw [List.getD_eq_getElem?_getD, hw]; rfl
    rw [map_at hn, map_at (List.getElem?_range hi), layD2_at q2 hn]
    unfold dueF
    cases ps[i]? with
    | none => rw [hg]; show some (((dS "S" x ((nms k).zip (ws.map q63))).lookup n).getD []) = _; rw [hl]; rfl
    | some p =>
      rw [hg]
      show some (padF n p.1 _) = some _
      unfold padF
      rw [hl]
      show some (p.1 ++ List.replicate ((q63 w).length - p.1.length) 42) = _
      rw [q63, List.length_replicate]
  · rw [List.getElem?_eq_none (by rw [List.length_map, q1]; omega), List.getElem?_eq_none (by rw [List.length_map, List.length_range]; omega)]
theorem Cmp.eqLB {n i j : Nat} {σ : List Ob} {l m : List (List UInt8)} (e : l = m) (ei : σ[i]? = some (.list (l.map V.bytes))) (ej : σ[j]? = some (.list (m.map V.bytes))) : Cmp n .Eq σ (.ref i) (.ref j) true := by
  subst e
  have := EQVs.maps (d := 50) (σ := σ) V.bytes (fun a b => EQV.bytes a b) l l
  rw [beq_self_eq_true] at this
  exact Cmp.eqL ei ej this
theorem KTA.yes2 {op : BoolOp} {s q : Bool} {pos : Pos} {W : Env → Sem Value} {F : Fn} {ρ : List (String × V)} {xs : List Expr} {σ : List Ob} {a b : List Stmt} {K : Fl → List (String × V) → List Ob → Prop} (h : EX F ρ σ a K → KTA op s pos W F ρ xs (KIf F ρ a b K) q σ) (k : EX F ρ σ a K) : KTA op s pos W F ρ xs (KIf F ρ a b K) q σ := h k
theorem EQVs.own {α : Type} {d : Nat} {σ : List Ob} {f : α → V} (hf : ∀ a, EQV d σ (f a) (f a) true) : ∀ l : List α, EQVs d σ (l.map f) (l.map f) true
  | [] => rfl
  | a :: l => ⟨true, true, rfl, hf a, EQVs.own hf l⟩
theorem hfT (d : Nat) (σ : List Ob) (p : List UInt8 × List UInt8) : EQV (d + 1) σ (pcV p) (pcV p) true := EQV.tup ⟨true, true, rfl, hfB d σ p.1, ⟨true, true, rfl, hfB d σ p.2, rfl⟩⟩
theorem hfO (d : Nat) (σ : List Ob) (a : Bool) : EQV d σ (.bool a) (.bool a) true := by
  have := EQV.bool (d := d) (σ := σ) a a
  rw [beq_self_eq_true] at this; exact this
theorem Cmp.neCut {n i j : Nat} {σ : List Ob} {ps : List (List UInt8 × List UInt8)} {f : Int} {v : Bool} (ei : σ[i]? = some (.list (ps.map pcV))) (ej : σ[j]? = some (.list (ps.map pcV))) (ne : i ≠ j) : Cmp n .NotEq σ (.tup [.ref i, .int f, .bool v]) (.tup [.ref j, .int f, .bool v]) false :=
  Cmp.neT (r := true) ⟨true, true, rfl, EQV.list (d := 49) ei ej ne (.inr (EQVs.own (hfT 48 σ) ps)), ⟨true, true, rfl, hfI 50 σ f, ⟨true, true, rfl, hfO 50 σ v, rfl⟩⟩⟩
theorem layD_nil {rs : List GROW} {d : List (Str × List UInt8)} : layD rs [] d = d := by cases rs <;> rfl
theorem at_third {σ : List Ob} {o p q : Ob} : (σ ++ [o, p, q])[σ.length + 1 + 1]? = some q := by rw [List.getElem?_append_right (by omega), Nat.add_assoc, Nat.add_sub_cancel_left]; rfl
local macro_rules | `(tactic| k_go) => `(tactic| (repeat (first
    | with_reducible refine' law_ref_ok ?_
    | ((with_reducible refine' EV.glob ?w1 g_law_hands ?_ ?w3); (case w1 => exact rfl); (case w3 => exact rfl))
    | with_reducible refine' KA.fn f_law_hands ?_
    | ((with_reducible refine' EV.cell ?w1 ?w2 ?w3 ?_ ?w4 ?w5); (case w1 => exact (by first | exact .inl rfl | exact .inr rfl)); (case w2 => exact rfl); (case w3 => exact (by first | exact HND.c0 (by assumption) | exact HND.c1 (by assumption) | assumption | exact at_app (by assumption) | exact at_app (at_app (by assumption)))); (case w4 => exact rfl); (case w5 => exact rfl))
    | ((with_reducible refine' KD.of ?w1 ?_); (case w1 => exact (by kernel_rfl)))
    | ((with_reducible refine' KB.mulI ?w1 ?_); (case w1 => exact (by first | assumption | exact IntMulOk.of_left (by decide) | exact IntMulOk.of_right (by decide))))
    | ((with_reducible refine' KB.fmodI ?w1 ?_); (case w1 => exact (by first | assumption | decide)))
    | ((with_reducible refine' KB.fdivI ?w1 ?w2 ?_); (case w1 => exact (by first | assumption | decide)); (case w2 => exact (by first | assumption | decide)))
    | ((with_reducible refine' KB.powI ?w1 ?w2 ?w3 ?_); (case w1 => exact (by decide)); (case w2 => exact (by decide)); (case w3 => exact (by first | assumption | decide)))
    | k_data)))
theorem cut_right_ok {n jw b : Nat} {σ : List Ob} {x : List UInt8} {ws : List Nat} {K : V → List Ob → Prop} (hw : σ[jw]? = some (.list (ws.map wV))) (h4 : ws.length ≤ 4) (hws : ∀ w ∈ ws, 1 ≤ w ∧ w ≤ 100) (hx : x.length ≤ 100) (hb : b ≤ 200)
    (h : ∀ σ', Ext [] σ σ' → K (.bool true) σ') : CALL (n + 8) σ (.val (.ref 231)) [.bytes x, .ref jw, .int b] K := by
  refine CALL.cells f_law_cut_right (ps := ["source", "widths", "begin"]) (cs := ["widths", "items", "pieces"]) (fun _ _ _ _ _ _ _ _ => by show _ = _; kernel_rfl) (by decide) (by kernel_rfl) (by kernel_rfl) (by decide) (by kernel_rfl) rfl rfl rfl fun cdv _ => ?_
  change EX _ [("source", _), ("begin", _)] (σ ++ [Ob.cell (some (.ref jw)), Ob.cell none, Ob.cell none]) _ _
  obtain ⟨σ₀, s0, x0, hw0, a0, a1, a2⟩ : ∃ σ₀, σ₀ = σ ++ [Ob.cell (some (.ref jw)), Ob.cell none, Ob.cell none] ∧ Ext [] σ σ₀ ∧ σ₀[jw]? = some (.list (ws.map wV)) ∧ σ₀[σ.length]? = some (Ob.cell (some (.ref jw))) ∧ σ₀[σ.length + 1]? = some (Ob.cell none) ∧ σ₀[σ.length + 1 + 1]? = some (Ob.cell none) := ⟨_, rfl, Ext.app, at_app hw, at_new, by simp, at_third⟩
  rw [← s0]
  clear s0
  obtain ⟨q1, q2, q3, q4⟩ := nms_ok ws.length h4
  k_go
  refine EV.cutL ?_
  k_go
  refine CALL.lenL (at_app hw0) (big (by rw [List.length_map]; exact Nat.le_trans h4 (by decide))) ?_
  k_go
  rw [List.length_map]
  refine ⟨_, .list at_new, big (by decide), ?_⟩
  rw [cut_t]
  change KSt _ _ _ _ _ (_ ++ [Ob.list ((List.map V.str [("A" : Str), "B", "C", "D"]).take ws.length)])
  rw [← List.map_take]
  change KSt _ _ _ _ _ (_ ++ [Ob.list (List.map V.str (nms ws.length))])
  obtain ⟨σ₁, s1, x1, hw1, b0, b1, b2, hm1⟩ : ∃ σ₁, σ₁ = σ₀ ++ [Ob.list [V.str "A", V.str "B", V.str "C", V.str "D"]] ++ [Ob.list (List.map V.str (nms ws.length))] ∧ Ext [] σ σ₁ ∧ σ₁[jw]? = some (.list (ws.map wV)) ∧ σ₁[σ.length]? = some (Ob.cell (some (.ref jw))) ∧ σ₁[σ.length + 1]? = some (Ob.cell none) ∧ σ₁[σ.length + 1 + 1]? = some (Ob.cell none) ∧ σ₁[(σ₀ ++ [Ob.list [V.str "A", V.str "B", V.str "C", V.str "D"]]).length]? = some (.list (List.map V.str (nms ws.length))) :=
    ⟨_, rfl, x0.trans (Ext.app.trans Ext.app), at_app (at_app hw0), at_app (at_app a0), at_app (at_app a1), at_app (at_app a2), at_new⟩
  rw [← s1]
  generalize (σ₀ ++ [Ob.list [V.str "A", V.str "B", V.str "C", V.str "D"]]).length = im at *
  clear s1 hw0 a0 a1 a2 x0
  k_go
  refine STO.cel rfl rfl (at_app (at_app b1)) ?_
  obtain ⟨σ₂, s2, x2, hw2, c0, c1, c2, hm2, hI2, hN2⟩ : ∃ σ₂, σ₂ = (σ₁ ++ [DB (dS "S" x [])] ++ [DI (nsT b 11)]).set (σ.length + 1) (.cell (some (.ref σ₁.length))) ∧ Ext [] σ σ₂ ∧ σ₂[jw]? = some (.list (ws.map wV)) ∧ σ₂[σ.length]? = some (Ob.cell (some (.ref jw))) ∧ σ₂[σ.length + 1]? = some (Ob.cell (some (.ref σ₁.length))) ∧ σ₂[σ.length + 1 + 1]? = some (Ob.cell none) ∧ σ₂[im]? = some (.list (List.map V.str (nms ws.length))) ∧ σ₂[σ₁.length]? = some (DB (dS "S" x [])) ∧ σ₂[(σ₁ ++ [DB (dS "S" x [])]).length]? = some (DI (nsT b 11)) := by
    have l1 := at_lt b2
    exact ⟨_, rfl, (x1.trans (Ext.app.trans Ext.app)).cell (Nat.le_succ _), at_ne (fun e => by rw [← e, b1] at hw1; cases hw1) (at_app (at_app hw1)), at_ne (by omega) (at_app (at_app b0)), at_set (at_app (at_app b1)), at_ne (by omega) (at_app (at_app b2)), at_ne (fun e => by rw [← e, b1] at hm1; cases hm1) (at_app (at_app hm1)), at_ne (by omega) (at_app at_new), at_ne (by simp; omega) at_new⟩
  change KAs _ _ [V.ref (σ₁ ++ [DB (dS "S" x [])]).length] _ _ ((σ₁ ++ [DB (dS "S" x [])] ++ [DI (nsT b 11)]).set (σ.length + 1) (.cell (some (.ref σ₁.length))))
  rw [← s2]
  have nIN : σ₁.length ≠ (σ₁ ++ [DB (dS "S" x [])]).length := by simp
  have lI : σ.length ≤ σ₁.length := x1.le
  have lN : σ.length ≤ (σ₁ ++ [DB (dS "S" x [])]).length := by rw [List.length_append]; exact Nat.le_trans lI (Nat.le_add_right ..)
  generalize (σ₁ ++ [DB (dS "S" x [])]).length = jN at *
  have n0 : σ.length ≠ σ₁.length := Nat.ne_of_lt (at_lt b0)
  have n1 : σ.length + 1 ≠ σ₁.length := Nat.ne_of_lt (at_lt b1)
  have n2 : σ.length + 1 + 1 ≠ σ₁.length := Nat.ne_of_lt (at_lt b2)
  have nW : jw ≠ σ₁.length := Nat.ne_of_lt (at_lt hw1)
  have nM : im ≠ σ₁.length := Nat.ne_of_lt (at_lt hm1)
  generalize σ₁.length = jI at *
  clear s2 hw1 hm1 x1 b0 b1 b2
  k_go
  refine EX1.for ?_ (fun _ _ => rfl)
  k_go
  refine CALL.lenL hw2 (big (by rw [List.length_map]; exact Nat.le_trans h4 (by decide))) ?_
  k_go
  rw [List.length_map]
  refine KFor.of (SRC.rng0 (Nat.le_trans h4 (by decide))) (.inl fun _ _ => rfl) [("source", .bytes x), ("begin", .int b), ("names", .ref im), ("numbers", .ref jN)] ⟨rfl, rfl, rfl, rfl, trivial⟩ ?_
  refine (?_ : ∀ (wb wa : List Nat) (nb na : List Str) (i : Nat) (σ' : List Ob), na.length = i → wa.length = i → nms ws.length = na ++ nb → ws = wa ++ wb → Ext [jI] σ₂ σ' → σ'[jI]? = some (DB (dS "S" x (na.zip (wa.map q63)))) → FORS _ _ _ _ _ (rngV i wb.length) _ σ') ws [] (nms ws.length) [] 0 σ₂ rfl rfl rfl rfl .refl hI2
  intro wb
  induction wb with
  | cons w wb ih =>
    intro wa nb na i σ' e1 e2 e3 e4 x3 hI
    cases nb with
    | nil =>
      have := congrArg List.length e3
      rw [q1, e4] at this
      simp at this
      omega
    | cons nm nb =>
      rw [show (w :: wb).length = wb.length + 1 from rfl, rngV_succ]
      refine ⟨trivial, ?_⟩
      have i4 : i < 4 := by rw [e4] at h4; simp at h4; omega
      have hi2 : (i : Int) < 9223372036854775808 := by omega
      have hww := hws w (by rw [e4]; simp)
      have hw3 := x3.at_ (by simpa using nW) hw2
      have hm3 := x3.at_ (by simpa using nM) hm2
      have c03 := x3.at_ (by simpa using n0) c0
      have c13 := x3.at_ (by simpa using n1) c1
      rw [e4] at hw3
      rw [e3] at hm3
      k_go
      refine KS.of (Sub.list hw3 (Int.natCast_nonneg _) hi2 (at_mid e2)) ?_
      k_go
      refine ⟨_, Bin.mulB [63] _ (by decide) (by omega) (by omega) (by decide), ?_⟩
      rw [flat_rep, Int.toNat_natCast]
      k_go
      refine KS.of (Sub.list hm3 (Int.natCast_nonneg _) hi2 (at_mid e1)) ?_
      have hz : (na.zip (wa.map q63)).map (·.1) = na := List.map_fst_zip (by rw [List.length_map, e1, e2]; exact Nat.le_refl _)
      refine SET.dt (v := q63 w) hI ?_ ?_
      · show (na.zip (wa.map q63)).length + 1 ≤ 1000
        rw [List.length_zip, e1]
        omega
      rw [dS_put (nms_get (k := ws.length) (by rw [e3]; simp)).1 (by rw [hz]; intro m; rw [e3] at q2; exact (List.nodup_append.mp q2).2.2 _ m _ (.head _) rfl)]
      k_go
      refine FK.next ?_ (ih (wa ++ [w]) nb (na ++ [nm]) (i + 1) _ ?_ ?_ ?_ ?_ ?_ ?_)
      · exact ⟨rfl, rfl, rfl, rfl, trivial⟩
      · simp [e1]
      · simp [e2]
      · rw [e3, List.append_assoc]; rfl
      · rw [e4, List.append_assoc]; rfl
      · exact x3.trans (Ext.set (by simp))
      · rw [List.map_append, List.zip_append (by rw [List.length_map, e1, e2])]
        exact at_set hI
  | nil =>
    intro wa nb na i σ₃ e1 e2 e3 e4 x3 hI3
    refine ⟨trivial, ?_⟩
    have enb : nb = [] := by
      have := congrArg List.length e3
      rw [q1, List.length_append, e1, e4, List.append_nil, e2] at this
      exact List.length_eq_zero_iff.mp (by omega)
    rw [enb, List.append_nil] at e3
    rw [List.append_nil] at e4
    subst e3 e4
    clear e1 e2 enb
    have hw3 := x3.at_ (by simpa using nW) hw2
    have hm3 := x3.at_ (by simpa using nM) hm2
    have c03 := x3.at_ (by simpa using n0) c0
    have c13 := x3.at_ (by simpa using n1) c1
    have c23 := x3.at_ (by simpa using n2) c2
    have hN3 := x3.at_ (by simpa using nIN.symm) hN2
    have x3 := x2.trans2 x3 (fun j m => by rw [List.mem_singleton.mp m]; exact lI)
    clear hI2 hN2 c0 c1 c2 hw2 hm2 x2
    have hzl : ∀ {i : Nat} {m : Str} {w : Nat}, (nms ws.length)[i]? = some m → ws[i]? = some w → (dS "S" x ((nms ws.length).zip (ws.map q63))).lookup m = some (q63 w) := fun {i m w} hm hw => by
      rw [dS_off (nms_get (List.mem_of_getElem? hm)).1, zip_look q2 hm (map_at hw)]
    have hzr : ∀ m ∈ nms ws.length, ∃ w, w ∈ ws ∧ (dS "S" x ((nms ws.length).zip (ws.map q63))).lookup m = some (q63 w) := fun m hm => by
      obtain ⟨i, hi⟩ := List.getElem?_of_mem hm
      obtain ⟨w, hw⟩ : ∃ w, ws[i]? = some w := ⟨_, List.getElem?_eq_getElem (by have := (List.getElem?_eq_some_iff.mp hi).1; rw [q1] at this; exact this)⟩
      exact ⟨w, List.mem_of_getElem? hw, hzl hi hw⟩
    have hmap : (nms ws.length).map (fun m => ((dS "S" x ((nms ws.length).zip (ws.map q63))).lookup m).getD []) = ws.map q63 := by
      refine List.ext_getElem? fun i => ?_
      by_cases hi : i < ws.length
      · obtain ⟨m, hm⟩ : ∃ m, (nms ws.length)[i]? = some m := ⟨_, List.getElem?_eq_getElem (by rw [q1]; exact hi)⟩
        obtain ⟨w, hw⟩ : ∃ w, ws[i]? = some w := ⟨_, List.getElem?_eq_getElem hi⟩
        rw [map_at hm, map_at hw, hzl hm hw]
        rfl
      · rw [List.getElem?_eq_none (by rw [List.length_map, q1]; omega), List.getElem?_eq_none (by rw [List.length_map]; omega)]
    have hdue := due_all (x := x) (ps := (cutB x ws b).1) (ws := ws) rfl h4
    have hdl : (dS "S" x ((nms ws.length).zip (ws.map q63))).length ≤ 5 := by show ((nms ws.length).zip (ws.map q63)).length + 1 ≤ 5; rw [List.length_zip, q1]; omega
    have hown := dS_own (k := "S") (x := x) (zs := (nms ws.length).zip (ws.map q63))
    have hSo := layD2_off (ns := nms ws.length) (ps := (cutB x ws b).1) (d := dS "S" x ((nms ws.length).zip (ws.map q63))) q3
    rw [hown] at hSo
    generalize hD : dS "S" x ((nms ws.length).zip (ws.map q63)) = D at *
    k_go
    refine EV.comp (CompOK.of (by kernel_rfl) rfl (by kernel_rfl) (by kernel_rfl)) ?_ (fun _ _ => rfl)
    k_go
    refine KCM.of (SRC.list hm3) (.inl fun _ _ => rfl) ?_
    refine CMP.maps (f := V.str) (g := fun m => gV (row2 m)) hm3 (nms ws.length) [] (by rw [List.length_nil, Nat.zero_add, q1]; exact Nat.le_trans h4 (by decide)) (fun m _ K' k => ?_) ?_
    · k_go
      exact k
    rw [List.nil_append, show (nms ws.length).map (fun m => gV (row2 m)) = ((nms ws.length).map row2).map gV by rw [List.map_map]; rfl]
    k_go
    refine CALL.tupL at_new (big (by rw [List.length_map, List.length_map, q1]; exact Nat.le_trans h4 (by decide))) ?_
    obtain ⟨σ₄, s4, x4, hw4, hm4, c04, c14, c24, hI4, hN4⟩ : ∃ σ₄, σ₄ = σ₃ ++ [Ob.list (((nms ws.length).map row2).map gV)] ∧ Ext [] σ σ₄ ∧ σ₄[jw]? = some (.list (ws.map wV)) ∧ σ₄[im]? = some (.list (List.map V.str (nms ws.length))) ∧ σ₄[σ.length]? = some (Ob.cell (some (.ref jw))) ∧ σ₄[σ.length + 1]? = some (Ob.cell (some (.ref jI))) ∧ σ₄[σ.length + 1 + 1]? = some (Ob.cell none) ∧ σ₄[jI]? = some (DB D) ∧ σ₄[jN]? = some (DI (nsT b 11)) := ⟨_, rfl, x3.trans Ext.app, at_app hw3, at_app hm3, at_app c03, at_app c13, at_app c23, at_app hI3, at_app hN3⟩
    rw [← s4]
    clear s4 x3 hw3 hm3 c03 c13 c23 hI3 hN3
    k_go
    refine law_hands_ok ?_
    k_go
    refine unstring_ok (d := D) (e := nsT b 11) (rs := (nms ws.length).map row2) (ws := ws) (x := x) (at_ := b) (t0 := 11) (HND.new (at_lt hI4) (at_lt hN4)) nIN (at_app hI4) (at_app hN4) (by rw [List.length_map, q1]; exact Nat.le_trans h4 (by decide)) hown (Nat.le_trans hx (by decide)) (by kernel_rfl) (fun r hr => ?_) ?_ ?_ (fun e' he' => ?_) fun σ₅ x5 hI5 hN5 => ?_
    · obtain ⟨m, hm, rfl⟩ := List.mem_map.mp hr
      obtain ⟨w, hw, hl⟩ := hzr m hm
      exact ⟨_, hl, by rw [q63, List.length_replicate]; have := hws w hw; omega⟩
    · rw [List.map_map]
      have := congrArg (List.map List.length) hmap
      rw [List.map_map, List.map_map] at this
      refine Eq.trans this ?_
      exact (List.map_congr_left fun w _ => by show (q63 w).length = w; rw [q63, List.length_replicate]).trans (List.map_id _)
    · refine layOK2 q2 (by rw [q1]; exact cutB_len) ?_ (Nat.le_of_ble_eq_true rfl) (fun p hp => ?_) fun m hm => ?_
      · have := cutB_len (x := x) (ws := ws) (a := b)
        omega
      · have := cutB_pc p hp
        rw [this.1]
        exact ⟨by omega, by decide⟩
      · obtain ⟨w, hw, hl⟩ := hzr m hm
        exact ⟨_, hl, by rw [q63, List.length_replicate]; have := hws w hw; omega⟩
    · rw [layN2] at he'
      subst he'
      exact ⟨Nat.le_trans put_len (Nat.le_of_ble_eq_true rfl), by kernel_rfl⟩
    rw [layN2] at hN5
    have hN5 : σ₅[jN]? = some (DI (nsT ((cutB x ws b).2.1 : Int) (11 + ((cutB x ws b).1.length : Int)))) := hN5
    have hw5 := x5.at_ (off hw4 hI4 hN4) (at_app hw4)
    have hm5 := x5.at_ (off hm4 hI4 hN4) (at_app hm4)
    have c05 := x5.at_ (offc c04 hI4 hN4) (at_app c04)
    have c15 := x5.at_ (offc c14 hI4 hN4) (at_app c14)
    have c25 := x5.at_ (offc c24 hI4 hN4) (at_app c24)
    have xF := (x4.trans (Ext.app (l := handsObs σ₄.length jI jN))).trans2 x5 fun j m => by
      rcases List.mem_cons.mp m with rfl | m
      · exact lI
      · rw [List.mem_singleton.mp m]; exact lN
    clear x5 x4 hw4 hm4 c04 c14 c24 hI4 hN4
    k_go
    by_cases hr : 1 ≤ b ∧ b ≤ x.length
    · refine KTA.go (decide_eq_false (by omega)) ?_
      k_go
      refine CALL.lenB (big (Nat.le_trans hx (by decide))) ?_
      k_go
      refine KTA.go (decide_eq_false (by omega)) (TL.orN (KIf.no rfl ?_))
      k_go
      refine law_due_ok hw5 (Nat.le_trans hx (by decide)) (Nat.le_trans h4 (by decide)) (fun w hw => (hws w hw).1) hr.1 hr.2 ?_
      have hul := cutB_len (x := x) (ws := ws) (a := b)
      have hpc := cutB_pc (x := x) (ws := ws) (b := b)
      generalize hU : cutB x ws b = U at *
      obtain ⟨ps, f, lv⟩ := U
      dsimp only at hI5 hN5 hSo hdue hul hpc ⊢
      k_go
      refine STO.cel rfl rfl (at_app c25) ?_
      obtain ⟨σ₆, s6, x6, hw6, hm6, c06, c16, c26, hI6, hN6, hP6⟩ : ∃ σ₆, σ₆ = (σ₅ ++ [Ob.list (ps.map fstV)]).set (σ.length + 1 + 1) (.cell (some (.ref σ₅.length))) ∧ Ext [] σ σ₆ ∧ σ₆[jw]? = some (.list (ws.map wV)) ∧ σ₆[im]? = some (.list (List.map V.str (nms ws.length))) ∧ σ₆[σ.length]? = some (Ob.cell (some (.ref jw))) ∧ σ₆[σ.length + 1]? = some (Ob.cell (some (.ref jI))) ∧ σ₆[σ.length + 1 + 1]? = some (Ob.cell (some (.ref σ₅.length))) ∧ σ₆[jI]? = some (DB (layD ((nms ws.length).map row2) ps D)) ∧ σ₆[jN]? = some (DI (nsT (f : Int) (11 + (ps.length : Int)))) ∧ σ₆[σ₅.length]? = some (.list (ps.map fstV)) :=
        ⟨_, rfl, (xF.trans Ext.app).cell (by omega), at_ne (fun e => by rw [e, hw5] at c25; cases c25) (at_app hw5), at_ne (fun e => by rw [e, hm5] at c25; cases c25) (at_app hm5), at_ne (by omega) (at_app c05), at_ne (by omega) (at_app c15), at_set (at_app c25), at_ne (fun e => by rw [e, hI5] at c25; cases c25) (at_app hI5), at_ne (fun e => by rw [e, hN5] at c25; cases c25) (at_app hN5), at_ne (Nat.ne_of_lt (at_lt c25)) at_new⟩
      change KAs _ _ _ _ _ ((σ₅ ++ [Ob.list (ps.map fstV)]).set (σ.length + 1 + 1) (.cell (some (.ref σ₅.length))))
      rw [← s6]
      generalize σ₅.length = jP at *
      clear s6 xF hw5 hm5 c05 c15 c25 hI5 hN5
      k_go
      refine cut_ok (b := b) hw6 (Nat.le_trans hx (by decide)) (Nat.le_trans h4 (by decide)) ?_
      rw [hU]
      k_go
      refine EV.comp (CompOK.of (by kernel_rfl) rfl (by kernel_rfl) (by kernel_rfl)) ?_ (fun _ _ => rfl)
      k_go
      refine KCM.of (SRC.list (at_app hP6)) (.inl fun _ _ => rfl) ?_
      refine CMP.maps (f := fstV) (g := pcV) (at_app hP6) ps [] (by rw [List.length_nil, Nat.zero_add]; exact Nat.le_trans (Nat.le_trans hul h4) (by decide)) (fun p hp K' k => ?_) ?_
      · rw [show pcV p = .tup [.bytes p.1, .bytes []] by rw [pcV, (hpc p hp).1]] at k
        k_go
        exact k
      rw [List.nil_append]
      k_go
      refine KCt.of (Cmp.neCut (at_app at_new) at_new (by simp)) ?_
      refine KIf.no rfl ?_
      obtain ⟨σ₇, s7, x7, hw7, hm7, c07, c17, c27, hI7, hN7, hP7⟩ : ∃ σ₇, σ₇ = σ₆ ++ [Ob.list (ps.map pcV)] ++ [Ob.list (ps.map pcV)] ∧ Ext [] σ σ₇ ∧ σ₇[jw]? = some (.list (ws.map wV)) ∧ σ₇[im]? = some (.list (List.map V.str (nms ws.length))) ∧ σ₇[σ.length]? = some (Ob.cell (some (.ref jw))) ∧ σ₇[σ.length + 1]? = some (Ob.cell (some (.ref jI))) ∧ σ₇[σ.length + 1 + 1]? = some (Ob.cell (some (.ref jP))) ∧ σ₇[jI]? = some (DB (layD ((nms ws.length).map row2) ps D)) ∧ σ₇[jN]? = some (DI (nsT (f : Int) (11 + (ps.length : Int)))) ∧ σ₇[jP]? = some (.list (ps.map fstV)) :=
        ⟨_, rfl, x6.trans (Ext.app.trans Ext.app), at_app (at_app hw6), at_app (at_app hm6), at_app (at_app c06), at_app (at_app c16), at_app (at_app c26), at_app (at_app hI6), at_app (at_app hN6), at_app (at_app hP6)⟩
      rw [← s7]
      clear s7 x6 hw6 hm6 c06 c16 c26 hI6 hN6 hP6
      k_go
      refine KI.fin (v := .str (if lv then "over" else "")) (fun hk => ?_) ?_
      · cases lv with
        | true => exact KI.yes rfl (EV.str hk)
        | false => exact KI.no rfl (EV.str hk)
      k_go
      refine KTA.go (by simp) ?_
      k_go
      refine CALL.lenL hP7 (big (by rw [List.length_map]; exact Nat.le_trans (Nat.le_trans hul h4) (by decide))) ?_
      k_go
      rw [List.length_map]
      k_go
      refine KCt.of (Cmp.neOwn hfI (ndB_ok (by kernel_rfl)) (at_app hN7) at_new) ?_
      refine KTA.go rfl ?_
      k_go
      refine KS.of (Sub.dt (at_app hI7) hSo) ?_
      k_go
      refine KTA.go (by simp) (TL.orN (KIf.no rfl ?_))
      obtain ⟨σ₈, s8, x8, hw8, hm8, c08, c18, c28, hI8, hP8⟩ : ∃ σ₈, σ₈ = σ₇ ++ [Ob.dict [("P", V.int f), ("T", V.int (11 + (ps.length : Int)))]] ∧ Ext [] σ σ₈ ∧ σ₈[jw]? = some (.list (ws.map wV)) ∧ σ₈[im]? = some (.list (List.map V.str (nms ws.length))) ∧ σ₈[σ.length]? = some (Ob.cell (some (.ref jw))) ∧ σ₈[σ.length + 1]? = some (Ob.cell (some (.ref jI))) ∧ σ₈[σ.length + 1 + 1]? = some (Ob.cell (some (.ref jP))) ∧ σ₈[jI]? = some (DB (layD ((nms ws.length).map row2) ps D)) ∧ σ₈[jP]? = some (.list (ps.map fstV)) :=
        ⟨_, rfl, x7.trans Ext.app, at_app hw7, at_app hm7, at_app c07, at_app c17, at_app c27, at_app hI7, at_app hP7⟩
      rw [← s8]
      clear s8 x7 hw7 hm7 c07 c17 c27 hI7 hN7 hP7
      k_go
      refine EX1.setC (CompOK.of (by kernel_rfl) rfl (by kernel_rfl) (by kernel_rfl)) ?_ (fun _ => rfl) (fun _ _ => rfl)
      k_go
      refine CALL.lenL hw8 (big (by rw [List.length_map]; exact Nat.le_trans h4 (by decide))) ?_
      k_go
      rw [List.length_map]
      refine KCM.of (SRC.rng0 (Nat.le_trans h4 (by decide))) (.inl fun _ _ => rfl) ?_
      refine CMP.maps (f := fun i : Nat => V.int (((0 : Nat) : Int) + (i : Int))) (g := fun i => V.bytes (dueF ws ps i)) trivial (List.range ws.length) [] (by rw [List.length_nil, Nat.zero_add, List.length_range]; exact Nat.le_trans h4 (by decide)) (fun i hi K' k => ?_) ?_
      · have hi : i < ws.length := List.mem_range.mp hi
        obtain ⟨w, hw'⟩ : ∃ w, ws[i]? = some w := ⟨_, List.getElem?_eq_getElem hi⟩
        have hww := hws w (List.mem_of_getElem? hw')
        have hgd : ws.getD i 0 = w := by rw [List.getD_eq_getElem?_getD, hw']; rfl
        have hi2 : (i : Int) < 9223372036854775808 := by omega
        have hpl : ps.length ≤ 4 := Nat.le_trans hul h4
        show ASG _ _ _ _ (V.int (((0 : Nat) : Int) + (i : Int))) _
        rw [show ((0 : Nat) : Int) + (i : Int) = (i : Int) by omega]
        unfold dueF at k
        rw [hgd] at k
        k_go
        refine CALL.lenL hP8 (big (by rw [List.length_map]; omega)) ?_
        k_go
        rw [List.length_map]
        by_cases hlt : i < ps.length
        · obtain ⟨p, hp⟩ : ∃ p, ps[i]? = some p := ⟨_, List.getElem?_eq_getElem hlt⟩
          have hp1 := (hpc p (List.mem_of_getElem? hp)).2
          rw [hp] at k
          refine KI.yes (decide_eq_true (by omega)) ?_
          k_go
          refine KS.of (Sub.list hP8 (Int.natCast_nonneg _) hi2 (map_at hp)) ?_
          k_go
          refine KS.of (Sub.list hw8 (Int.natCast_nonneg _) hi2 (map_at hw')) ?_
          k_go
          refine KS.of (Sub.list hP8 (Int.natCast_nonneg _) hi2 (map_at hp)) ?_
          k_go
          refine CALL.lenB (big (Nat.le_trans hp1 (Nat.le_trans hx (by decide)))) ?_
          k_go
          refine ⟨_, Bin.mulB [42] _ (by decide) (by omega) (by omega) (by decide), ?_⟩
          rw [flat_rep, show ((w : Int) - (p.1.length : Int)).toNat = w - p.1.length by omega]
          refine KB.addB (big (by rw [List.length_replicate]; omega)) ?_
          exact k
        · rw [List.getElem?_eq_none (Nat.not_lt.mp hlt)] at k
          refine KI.no (decide_eq_false (by omega)) ?_
          k_go
          refine KS.of (Sub.list hw8 (Int.natCast_nonneg _) hi2 (map_at hw')) ?_
          k_go
          refine ⟨_, Bin.mulB [63] _ (by decide) (by omega) (by omega) (by decide), ?_⟩
          rw [flat_rep, Int.toNat_natCast]
          exact k
      rw [List.nil_append, show (List.range ws.length).map (fun i => V.bytes (dueF ws ps i)) = ((List.range ws.length).map (dueF ws ps)).map V.bytes by rw [List.map_map]; rfl]
      k_go
      have hm9 := at_app (l := [Ob.list (((List.range ws.length).map (dueF ws ps)).map V.bytes)]) hm8
      have hI9 := at_app (l := [Ob.list (((List.range ws.length).map (dueF ws ps)).map V.bytes)]) hI8
      have hd9 := at_new (σ := σ₈) (o := Ob.list (((List.range ws.length).map (dueF ws ps)).map V.bytes)) (l := [])
      have c19 := at_app (l := [Ob.list (((List.range ws.length).map (dueF ws ps)).map V.bytes)]) c18
      have x9 := x8.trans (Ext.app (l := [Ob.list (((List.range ws.length).map (dueF ws ps)).map V.bytes)]))
      generalize σ₈ ++ [Ob.list (((List.range ws.length).map (dueF ws ps)).map V.bytes)] = σ₉ at *
      refine EV.comp (CompOK.of (by kernel_rfl) rfl (by kernel_rfl) (by kernel_rfl)) ?_ (fun _ _ => rfl)
      k_go
      refine KCM.of (SRC.list hm9) (.inl fun _ _ => rfl) ?_
      refine CMP.maps (f := V.str) (g := fun m => V.bytes (((layD ((nms ws.length).map row2) ps D).lookup m).getD [])) hm9 (nms ws.length) [] (by rw [List.length_nil, Nat.zero_add, q1]; exact Nat.le_trans h4 (by decide)) (fun m hm K' k => ?_) ?_
      · obtain ⟨y, hy⟩ : ∃ y, (layD ((nms ws.length).map row2) ps D).lookup m = some y := by
          obtain ⟨i, hi⟩ := List.getElem?_of_mem hm
          rw [layD2_at q2 hi]
          obtain ⟨w, _, hl⟩ := hzr m hm
          cases ps[i]? with
          | none => exact ⟨_, hl⟩
          | some p => exact ⟨_, rfl⟩
        rw [hy] at k
        k_go
        exact KS.of (Sub.dt hI9 hy) k
      rw [List.nil_append, show (nms ws.length).map (fun m => V.bytes (((layD ((nms ws.length).map row2) ps D).lookup m).getD [])) = ((nms ws.length).map fun m => ((layD ((nms ws.length).map row2) ps D).lookup m).getD []).map V.bytes by rw [List.map_map]; rfl]
      k_go
      refine Mine.KC.of (Cmp.eqLB hdue at_new (at_app hd9)) ?_
      k_go
      exact h _ (x9.trans Ext.app)
    · have eU : cutB x ws b = ([], b, true) := by unfold cutB; rw [if_neg hr]
      rw [eU] at hI5 hN5 hSo hdue ⊢
      have hI5 : σ₅[jI]? = some (DB D) := by rw [show layD (List.map row2 (nms ws.length)) ([], b, true).1 D = D from layD_nil] at hI5; exact hI5
      have hN5 : σ₅[jN]? = some (DI (nsT (b : Int) 11)) := hN5
      refine KTA.yes2 (fun k => ?_) ?_
      · by_cases h1 : b < 1
        · exact KTA.stop (decide_eq_true (by omega)) (KIf.yes rfl k)
        · refine KTA.go (decide_eq_false (by omega)) ?_
          k_go
          refine CALL.lenB (big (Nat.le_trans hx (by decide))) ?_
          k_go
          exact KTA.stop (decide_eq_true (by omega)) (KIf.yes rfl k)
      k_go
      refine KAnd.yes (by kernel_rfl) ?_
      k_go
      refine Mine.KC.of (Cmp.eqOwn hfI (ndB_ok (by kernel_rfl)) (at_app hN5) at_new) ?_
      k_go
      refine KAnd.yes rfl ?_
      obtain ⟨σ₆, s6, x6, hw6, hm6, c06, c16, hI6⟩ : ∃ σ₆, σ₆ = σ₅ ++ [Ob.dict [("P", V.int b), ("T", V.int 11)]] ∧ Ext [] σ σ₆ ∧ σ₆[jw]? = some (.list (ws.map wV)) ∧ σ₆[im]? = some (.list (List.map V.str (nms ws.length))) ∧ σ₆[σ.length]? = some (Ob.cell (some (.ref jw))) ∧ σ₆[σ.length + 1]? = some (Ob.cell (some (.ref jI))) ∧ σ₆[jI]? = some (DB D) := ⟨_, rfl, xF.trans Ext.app, at_app hw5, at_app hm5, at_app c05, at_app c15, at_app hI5⟩
      rw [← s6]
      clear s6 xF hw5 hm5 c05 c15 c25 hI5 hN5
      k_go
      refine EV.comp (CompOK.of (by kernel_rfl) rfl (by kernel_rfl) (by kernel_rfl)) ?_ (fun _ _ => rfl)
      k_go
      refine KCM.of (SRC.list hm6) (.inl fun _ _ => rfl) ?_
      refine CMP.maps (f := V.str) (g := fun m => V.bytes ((D.lookup m).getD [])) hm6 (nms ws.length) [] (by rw [List.length_nil, Nat.zero_add, q1]; exact Nat.le_trans h4 (by decide)) (fun m hm K' k => ?_) ?_
      · obtain ⟨w, _, hl⟩ := hzr m hm
        rw [hl] at k
        k_go
        exact KS.of (Sub.dt hI6 hl) k
      rw [List.nil_append, show (nms ws.length).map (fun m => V.bytes ((D.lookup m).getD [])) = ((nms ws.length).map fun m => (D.lookup m).getD []).map V.bytes by rw [List.map_map]; rfl]
      k_go
      refine EV.comp (CompOK.of (by kernel_rfl) rfl (by kernel_rfl) (by kernel_rfl)) ?_ (fun _ _ => rfl)
      k_go
      refine KCM.of (SRC.list (at_app hw6)) (.inl fun _ _ => rfl) ?_
      refine CMP.maps (f := wV) (g := fun w => V.bytes (q63 w)) (at_app hw6) ws [] (by rw [List.length_nil, Nat.zero_add]; exact Nat.le_trans h4 (by decide)) (fun w hw K' k => ?_) ?_
      · have hww := hws w hw
        k_go
        refine ⟨_, Bin.mulB [63] _ (by decide) (by omega) (by omega) (by decide), ?_⟩
        rw [flat_rep, Int.toNat_natCast]
        exact k
      rw [List.nil_append, show ws.map (fun w => V.bytes (q63 w)) = (ws.map q63).map V.bytes by rw [List.map_map]; rfl]
      k_go
      refine Mine.KC.of (Cmp.eqLB hmap (at_app at_new) at_new) ?_
      k_go
      exact h _ (x6.trans (Ext.app.trans Ext.app))
end
section
-- HANDS
-- GLOBALS law_ref law_hands string_with cut_by_sizes
-- RULE EV.addL ?_
-- BOOTS len range tuple
theorem Cmp.eqCut2 {n i j : Nat} {σ : List Ob} {ps : List (List UInt8 × List UInt8)} {f : Int} (ei : σ[i]? = some (.list (ps.map pcV))) (ej : σ[j]? = some (.list (ps.map pcV))) (ne : i ≠ j) : Cmp n .Eq σ (.tup [.ref i, .int f]) (.tup [.ref j, .int f]) true :=
  Cmp.eqT (r := true) ⟨true, true, rfl, EQV.list (d := 49) ei ej ne (.inr (EQVs.own (hfT 48 σ) ps)), ⟨true, true, rfl, hfI 50 σ f, rfl⟩⟩
local macro_rules | `(tactic| k_go) => `(tactic| (repeat (first
    | with_reducible refine' EV.addL ?_
    | ((with_reducible refine' EV.glob ?w1 g_law_hands ?_ ?w3); (case w1 => exact rfl); (case w3 => exact rfl))
    | with_reducible refine' KA.fn f_law_hands ?_
    | ((with_reducible refine' EV.cell ?w1 ?w2 ?w3 ?_ ?w4 ?w5); (case w1 => exact (by first | exact .inl rfl | exact .inr rfl)); (case w2 => exact rfl); (case w3 => exact (by first | exact HND.c0 (by assumption) | exact HND.c1 (by assumption) | assumption | exact at_app (by assumption) | exact at_app (at_app (by assumption)))); (case w4 => exact rfl); (case w5 => exact rfl))
    | ((with_reducible refine' KD.of ?w1 ?_); (case w1 => exact (by kernel_rfl)))
    | ((with_reducible refine' KB.mulI ?w1 ?_); (case w1 => exact (by first | assumption | exact IntMulOk.of_left (by decide) | exact IntMulOk.of_right (by decide))))
    | ((with_reducible refine' KB.fmodI ?w1 ?_); (case w1 => exact (by first | assumption | decide)))
    | ((with_reducible refine' KB.fdivI ?w1 ?w2 ?_); (case w1 => exact (by first | assumption | decide)); (case w2 => exact (by first | assumption | decide)))
    | ((with_reducible refine' KB.powI ?w1 ?w2 ?w3 ?_); (case w1 => exact (by decide)); (case w2 => exact (by decide)); (case w3 => exact (by first | assumption | decide)))
    | k_data)))
theorem step_right_ok {n jw b : Nat} {σ : List Ob} {x : List UInt8} {ws : List Nat} {K : V → List Ob → Prop} (hw : σ[jw]? = some (.list (ws.map wV))) (h4 : ws.length ≤ 4) (hx : x.length ≤ 100) (hb : 1 ≤ b)
    (h : ∀ σ', Ext [] σ σ' → K (.bool true) σ') : CALL (n + 8) σ (.val (.ref 238)) [.bytes x, .ref jw, .int b] K := by
  refine CALL.def f_law_step_right (ps := ["source", "widths", "begin"]) (fun _ _ _ _ _ _ _ _ => by show _ = _; kernel_rfl) (by kernel_rfl) (by decide) (by kernel_rfl) rfl rfl rfl fun _ _ => ?_
  k_go
  refine EX1.swap (xs := [Str.ofString "pieces", Str.ofString "place"]) ?_ (fun _ => rfl) (fun _ => rfl)
  k_go
  refine EX1.for ?_ (fun _ _ => rfl)
  k_go
  refine KFor.of (SRC.list (at_app hw)) (.inl fun _ _ => rfl) [("source", .bytes x), ("widths", .ref jw), ("begin", .int b), ("pieces", .ref σ.length), ("place", .int b)] ⟨rfl, rfl, rfl, rfl, rfl, trivial⟩ ?_
  obtain ⟨G, hG, hGs⟩ : ∃ G : List Ob → Prop, G = (fun σ' => σ'[jw]? = some (Ob.list (ws.map wV))) ∧ ∀ σ', Ext [] σ σ' → G σ' := ⟨_, rfl, fun σ' x => x.at_ (by simp) hw⟩
  rw [← hG]
  refine (?_ : ∀ (vs : List Nat) (acc : List (List UInt8 × List UInt8)) (m j : Nat) (σ' : List Ob), 1 ≤ m → vs.length + acc.length ≤ 4 → (cutB x ws b).1 = acc ++ (cutB x vs m).1 → (cutB x ws b).2.1 = (cutB x vs m).2.1 → Ext [] σ σ' → σ'[j]? = some (.list (acc.map pcV)) →
    FORS _ _ _ G _ (vs.map wV) [("source", .bytes x), ("widths", .ref jw), ("begin", .int b), ("pieces", .ref j), ("place", .int (m : Int))] σ') ws [] b σ.length _ hb (by simpa using h4) rfl rfl Ext.app at_new
  intro vs
  induction vs with
  | nil =>
    intro acc m j σ' hm hl e1 e2 x1 hj
    refine ⟨hGs _ x1, ?_⟩
    rw [(cutB_nil hm).1, List.append_nil] at e1
    rw [(cutB_nil hm).2] at e2
    k_go
    refine EV.cut2 ?_
    k_go
    refine cut_ok (b := b) (x1.at_ (by simp) hw) (Nat.le_trans hx (by decide)) (Nat.le_trans h4 (by decide)) ?_
    rw [e1, e2]
    refine KT2.of ?_
    k_go
    refine Mine.KC.of (Cmp.eqCut2 at_new (at_app hj) (Nat.ne_of_gt (at_lt hj))) ?_
    k_go
    exact h _ (x1.trans Ext.app)
  | cons v vs ih =>
    intro acc m j σ' hm hl e1 e2 x1 hj
    refine ⟨hGs _ x1, ?_⟩
    k_go
    refine cut_ok (b := m) (ws := [v]) at_new (Nat.le_trans hx (by decide)) (Nat.le_of_ble_eq_true rfl) ?_
    obtain ⟨s1, s2⟩ := cutB_step (x := x) (w := v) (ws := vs) hm
    have hl1 := cutB_len (x := x) (ws := [v]) (a := m)
    have hm1 : 1 ≤ (cutB x [v] m).2.1 := by
      unfold cutB
      split
      · exact Nat.succ_le_succ (Nat.zero_le _)
      · exact hm
    rw [s1, ← List.append_assoc] at e1
    rw [s2] at e2
    generalize cutB x [v] m = U at *
    obtain ⟨ps, f, lv⟩ := U
    dsimp only at e1 e2 hm1 hl1 ⊢
    k_go
    refine KAd.of (at_app (at_app hj)) at_new (by rw [List.length_map, List.length_map]; simp only [List.length_cons, List.length_nil] at hl hl1; omega) ?_
    k_go
    refine FK.next ?_ (ih (acc ++ ps) f (σ' ++ [Ob.list [wV v]] ++ [Ob.list (ps.map pcV)]).length _ hm1 (by rw [List.length_append]; simp only [List.length_cons, List.length_nil] at hl hl1; omega) e1 e2 (x1.trans (Ext.app.trans (Ext.app.trans Ext.app))) ?_)
    · exact ⟨rfl, rfl, rfl, rfl, rfl, trivial⟩
    · rw [List.map_append]
      exact at_new
end
section
-- HANDS
-- GLOBALS law_ref law_hands string_with cut_by_sizes
-- RULE law_ref_ok ?_
-- BOOTS len range tuple
def nsP (b : Int) : List (Str × Int) := [(Str.ofString "P", b)]
theorem rows2 {D : List (Str × List UInt8)} : ∀ {ns : List Str} {fs : List (List UInt8)}, ns.length = fs.length → (∀ (i : Nat) (m : Str) (f : List UInt8), ns[i]? = some m → fs[i]? = some f → D.lookup m = some f) → ROWS D (ns.map fun m => .tup [refV m, .none]) (fs.map fun f => (f, none))
  | [], [], _, _ => .nil
  | [], _ :: _, h, _ => by cases h
  | _ :: _, [], h, _ => by cases h
  | m :: ns, f :: fs, h, k => .cons (.ref (k 0 m f rfl rfl)) .none (rows2 (by simpa using h) fun i m' f' e1 e2 => k (i + 1) m' f' (by simpa using e1) (by simpa using e2))
theorem sent2 {fs : List (List UInt8)} : sentOf (fs.map fun f => (f, none)) = fs := by
  unfold sentOf
  rw [List.map_map]
  exact (List.map_congr_left fun f _ => rfl).trans (List.map_id _)
theorem flat_le {fs : List (List UInt8)} (h : ∀ f ∈ fs, f ≠ [] ∧ f.length ≤ 6) : fs.flatten.length ≤ 6 * fs.length := by
  induction fs with
  | nil => exact Nat.le_refl _
  | cons f fs ih =>
    have h1 := (h f (.head _)).2
    have h2 := ih fun g m => h g (.tail _ m)
    rw [List.flatten_cons, List.length_append, List.length_cons]
    omega
def dots (k : Nat) : List UInt8 := List.replicate k 46
theorem lay_over {z b : Nat} {l : List UInt8} (h : 1 ≤ b) (h2 : b ≤ z) (h3 : z + 1 < b + l.length) : lay (dots z) b l = dots (b - 1) ++ l.take (z + 1 - b) := by
  unfold lay dots
  rw [List.length_replicate, List.take_replicate, List.drop_of_length_le (by rw [List.length_take, List.length_replicate]; omega), List.append_nil, show min (b - 1) z = b - 1 by omega]
theorem lay_fits {z b : Nat} {l : List UInt8} (h : 1 ≤ b) (h2 : b ≤ z) (h3 : b + l.length ≤ z + 1) : lay (dots z) b l = dots (b - 1) ++ l ++ dots (z + 1 - b - l.length) := by
  unfold lay dots
  rw [List.length_replicate, List.take_replicate, List.take_of_length_le (by omega), List.drop_replicate, show min (b - 1) z = b - 1 by omega, show z - (b - 1 + l.length) = z + 1 - b - l.length by omega]
local macro_rules | `(tactic| k_go) => `(tactic| (repeat (first
    | with_reducible refine' law_ref_ok ?_
    | ((with_reducible refine' EV.glob ?w1 g_law_hands ?_ ?w3); (case w1 => exact rfl); (case w3 => exact rfl))
    | with_reducible refine' KA.fn f_law_hands ?_
    | ((with_reducible refine' EV.cell ?w1 ?w2 ?w3 ?_ ?w4 ?w5); (case w1 => exact (by first | exact .inl rfl | exact .inr rfl)); (case w2 => exact rfl); (case w3 => exact (by first | exact HND.c0 (by assumption) | exact HND.c1 (by assumption) | assumption | exact at_app (by assumption) | exact at_app (at_app (by assumption)))); (case w4 => exact rfl); (case w5 => exact rfl))
    | ((with_reducible refine' KD.of ?w1 ?_); (case w1 => exact (by kernel_rfl)))
    | ((with_reducible refine' KB.mulI ?w1 ?_); (case w1 => exact (by first | assumption | exact IntMulOk.of_left (by decide) | exact IntMulOk.of_right (by decide))))
    | ((with_reducible refine' KB.fmodI ?w1 ?_); (case w1 => exact (by first | assumption | decide)))
    | ((with_reducible refine' KB.fdivI ?w1 ?w2 ?_); (case w1 => exact (by first | assumption | decide)); (case w2 => exact (by first | assumption | decide)))
    | ((with_reducible refine' KB.powI ?w1 ?w2 ?w3 ?_); (case w1 => exact (by decide)); (case w2 => exact (by decide)); (case w3 => exact (by first | assumption | decide)))
    | k_data)))
theorem laid_right_ok {n jf b z : Nat} {σ : List Ob} {fs : List (List UInt8)} {K : V → List Ob → Prop} (hf : σ[jf]? = some (.list (fs.map V.bytes))) (h4 : fs.length ≤ 4) (hfs : ∀ f ∈ fs, f ≠ [] ∧ f.length ≤ 6) (hb : 1 ≤ b) (hb2 : b ≤ z) (hz : z ≤ 100)
    (h : ∀ σ', Ext [] σ σ' → K (.bool true) σ') : CALL (n + 8) σ (.val (.ref 243)) [.ref jf, .int b, .int z] K := by
  refine CALL.def f_law_laid_right (ps := ["fields", "begin", "size"]) (fun _ _ _ _ _ _ _ _ => by show _ = _; kernel_rfl) (by kernel_rfl) (by decide) (by kernel_rfl) rfl rfl rfl fun _ _ => ?_
  obtain ⟨q1, q2, q3, q4⟩ := nms_ok fs.length h4
  k_go
  refine EX1.swap (xs := [Str.ofString "names", Str.ofString "items", Str.ofString "numbers"]) ?_ (fun _ => rfl) (fun _ => rfl)
  k_go
  refine EV.cutL ?_
  k_go
  refine CALL.lenL (at_app hf) (big (by rw [List.length_map]; exact Nat.le_trans h4 (by decide))) ?_
  k_go
  rw [List.length_map]
  refine ⟨_, .list at_new, big (by decide), ?_⟩
  rw [cut_t]
  change KE _ _ _ _ _ _ (_ ++ [Ob.list ((List.map V.str [("A" : Str), "B", "C", "D"]).take fs.length)])
  rw [← List.map_take]
  change KE _ _ _ _ _ _ (_ ++ [Ob.list (List.map V.str (nms fs.length))])
  obtain ⟨σ₁, s1, x1, hf1, hm1⟩ : ∃ σ₁, σ₁ = σ ++ [Ob.list [V.str "A", V.str "B", V.str "C", V.str "D"]] ++ [Ob.list (List.map V.str (nms fs.length))] ∧ Ext [] σ σ₁ ∧ σ₁[jf]? = some (.list (fs.map V.bytes)) ∧ σ₁[(σ ++ [Ob.list [V.str "A", V.str "B", V.str "C", V.str "D"]]).length]? = some (.list (List.map V.str (nms fs.length))) :=
    ⟨_, rfl, Ext.app.trans Ext.app, at_app (at_app hf), at_new⟩
  rw [← s1]
  generalize (σ ++ [Ob.list [V.str "A", V.str "B", V.str "C", V.str "D"]]).length = im at *
  clear s1
  k_go
  refine ⟨_, Bin.mulB [46] _ (by decide) (by omega) (by omega) (by decide), ?_⟩
  rw [flat_rep, Int.toNat_natCast]
  k_go
  obtain ⟨σ₂, s2, x2, hf2, hm2, hI2, hN2⟩ : ∃ σ₂, σ₂ = σ₁ ++ [DB (dS "G" (dots z) [])] ++ [DI (nsP b)] ∧ Ext [] σ σ₂ ∧ σ₂[jf]? = some (.list (fs.map V.bytes)) ∧ σ₂[im]? = some (.list (List.map V.str (nms fs.length))) ∧ σ₂[σ₁.length]? = some (DB (dS "G" (dots z) [])) ∧ σ₂[(σ₁ ++ [DB (dS "G" (dots z) [])]).length]? = some (DI (nsP b)) :=
    ⟨_, rfl, x1.trans (Ext.app.trans Ext.app), at_app (at_app hf1), at_app (at_app hm1), at_app at_new, at_new⟩
  change EX1 _ [("fields", _), ("begin", _), ("size", _), ("numbers", V.ref (σ₁ ++ [DB (dS "G" (dots z) [])]).length), ("items", _), ("names", _)] (σ₁ ++ [DB (dS "G" (dots z) [])] ++ [DI (nsP b)]) _ _
  rw [← s2]
  have nIN : σ₁.length ≠ (σ₁ ++ [DB (dS "G" (dots z) [])]).length := by simp
  have lI : σ.length ≤ σ₁.length := x1.le
  have lN : σ.length ≤ (σ₁ ++ [DB (dS "G" (dots z) [])]).length := by rw [List.length_append]; exact Nat.le_trans lI (Nat.le_add_right ..)
  generalize (σ₁ ++ [DB (dS "G" (dots z) [])]).length = jN at *
  have nF : jf ≠ σ₁.length := Nat.ne_of_lt (at_lt hf1)
  have nM : im ≠ σ₁.length := Nat.ne_of_lt (at_lt hm1)
  generalize σ₁.length = jI at *
  clear s2 hf1 hm1 x1
  refine EX1.for ?_ (fun _ _ => rfl)
  k_go
  refine CALL.lenL hf2 (big (by rw [List.length_map]; exact Nat.le_trans h4 (by decide))) ?_
  k_go
  rw [List.length_map]
  refine KFor.of (SRC.rng0 (Nat.le_trans h4 (by decide))) (.inl fun _ _ => rfl) [("fields", .ref jf), ("begin", .int b), ("size", .int z), ("numbers", .ref jN), ("items", .ref jI), ("names", .ref im)] ⟨rfl, rfl, rfl, rfl, rfl, rfl, trivial⟩ ?_
  refine (?_ : ∀ (wb wa : List (List UInt8)) (nb na : List Str) (i : Nat) (σ' : List Ob), na.length = i → wa.length = i → nms fs.length = na ++ nb → fs = wa ++ wb → Ext [jI] σ₂ σ' → σ'[jI]? = some (DB (dS "G" (dots z) (na.zip wa))) → FORS _ _ _ _ _ (rngV i wb.length) _ σ') fs [] (nms fs.length) [] 0 σ₂ rfl rfl rfl rfl .refl hI2
  intro wb
  induction wb with
  | cons w wb ih =>
    intro wa nb na i σ' e1 e2 e3 e4 x3 hI
    cases nb with
    | nil =>
      have := congrArg List.length e3
      rw [q1, e4] at this
      simp at this
      omega
    | cons nm nb =>
      rw [show (w :: wb).length = wb.length + 1 from rfl, rngV_succ]
      refine ⟨trivial, ?_⟩
      have i4 : i < 4 := by rw [e4] at h4; simp at h4; omega
      have hi2 : (i : Int) < 9223372036854775808 := by omega
      have hf3 := x3.at_ (by simpa using nF) hf2
      have hm3 := x3.at_ (by simpa using nM) hm2
      rw [e4] at hf3
      rw [e3] at hm3
      k_go
      refine KS.of (Sub.list hf3 (Int.natCast_nonneg _) hi2 (at_mid e2)) ?_
      k_go
      refine KS.of (Sub.list hm3 (Int.natCast_nonneg _) hi2 (at_mid e1)) ?_
      have hz' : (na.zip wa).map (·.1) = na := List.map_fst_zip (by rw [e1, e2]; exact Nat.le_refl _)
      refine SET.dt (v := w) hI ?_ ?_
      · show (na.zip wa).length + 1 ≤ 1000
        rw [List.length_zip, e1]
        omega
      rw [dS_put (nms_get (k := fs.length) (by rw [e3]; simp)).2 (by rw [hz']; intro m; rw [e3] at q2; exact (List.nodup_append.mp q2).2.2 _ m _ (.head _) rfl)]
      k_go
      refine FK.next ?_ (ih (wa ++ [w]) nb (na ++ [nm]) (i + 1) _ ?_ ?_ ?_ ?_ ?_ ?_)
      · exact ⟨rfl, rfl, rfl, rfl, rfl, rfl, trivial⟩
      · simp [e1]
      · simp [e2]
      · rw [e3, List.append_assoc]; rfl
      · rw [e4, List.append_assoc]; rfl
      · exact x3.trans (Ext.set (by simp))
      · rw [List.zip_append (by rw [e1, e2])]
        exact at_set hI
  | nil =>
    intro wa nb na i σ₃ e1 e2 e3 e4 x3 hI3
    refine ⟨trivial, ?_⟩
    have enb : nb = [] := by
      have := congrArg List.length e3
      rw [q1, List.length_append, e1, e4, List.append_nil, e2] at this
      exact List.length_eq_zero_iff.mp (by omega)
    rw [enb, List.append_nil] at e3
    rw [List.append_nil] at e4
    subst e3 e4
    clear e1 e2 enb
    have hf3 := x3.at_ (by simpa using nF) hf2
    have hm3 := x3.at_ (by simpa using nM) hm2
    have hN3 := x3.at_ (by simpa using nIN.symm) hN2
    have x3 := x2.trans2 x3 (fun j m => by rw [List.mem_singleton.mp m]; exact lI)
    clear hI2 hN2 hf2 hm2 x2
    have hR : ROWS (dS "G" (dots z) ((nms fs.length).zip fs)) ((nms fs.length).map fun m => .tup [refV m, .none]) (fs.map fun f => (f, none)) := rows2 q1 fun i m f hm hf => by
      rw [dS_off (nms_get (List.mem_of_getElem? hm)).2, zip_look q2 hm hf]
    have hdl : (dS "G" (dots z) ((nms fs.length).zip fs)).length ≤ 5 := by show ((nms fs.length).zip fs).length + 1 ≤ 5; rw [List.length_zip, q1]; omega
    have hown := dS_own (k := "G") (x := dots z) (zs := (nms fs.length).zip fs)
    generalize hD : dS "G" (dots z) ((nms fs.length).zip fs) = D at *
    k_go
    refine EV.comp (CompOK.of (by kernel_rfl) rfl (by kernel_rfl) (by kernel_rfl)) ?_ (fun _ _ => rfl)
    k_go
    refine KCM.of (SRC.list hm3) (.inl fun _ _ => rfl) ?_
    refine CMP.maps (f := V.str) (g := fun m => V.tup [refV m, .none]) hm3 (nms fs.length) [] (by rw [List.length_nil, Nat.zero_add, q1]; exact Nat.le_trans h4 (by decide)) (fun m _ K' k => ?_) ?_
    · k_go
      exact k
    rw [List.nil_append]
    k_go
    refine CALL.tupL at_new (big (by rw [List.length_map, q1]; exact Nat.le_trans h4 (by decide))) ?_
    obtain ⟨σ₄, s4, x4, hf4, hI4, hN4⟩ : ∃ σ₄, σ₄ = σ₃ ++ [Ob.list ((nms fs.length).map fun m => V.tup [refV m, .none])] ∧ Ext [] σ σ₄ ∧ σ₄[jf]? = some (.list (fs.map V.bytes)) ∧ σ₄[jI]? = some (DB D) ∧ σ₄[jN]? = some (DI (nsP b)) := ⟨_, rfl, x3.trans Ext.app, at_app hf3, at_app hI3, at_app hN3⟩
    rw [← s4]
    clear s4 x3 hf3 hm3 hI3 hN3
    k_go
    refine law_hands_ok ?_
    k_go
    refine string_ok (d := D) (e := nsP b) (rs := fs.map fun f => (f, none)) (at_ := b) (x := dots z) (HND.new (at_lt hI4) (at_lt hN4)) nIN (at_app hI4) (at_app hN4) (Nat.le_trans hdl (by decide)) (Nat.le_of_ble_eq_true rfl) hR (fun r hr => ?_) (by rw [List.length_map]; exact Nat.le_trans h4 (by decide)) hown (by unfold dots; rw [List.length_replicate]; omega) (by kernel_rfl) fun σ₅ x5 hI5 hN5 => ?_
    · obtain ⟨f, hf', rfl⟩ := List.mem_map.mp hr
      exact Nat.le_trans (hfs f hf').2 (by decide)
    have hf5 := x5.at_ (off hf4 hI4 hN4) (at_app hf4)
    have xF := (x4.trans (Ext.app (l := handsObs σ₄.length jI jN))).trans2 x5 fun j m => by
      rcases List.mem_cons.mp m with rfl | m
      · exact lI
      · rw [List.mem_singleton.mp m]; exact lN
    have hdz : (dots z).length = z := by unfold dots; rw [List.length_replicate]
    rw [strungB_ok hb (by rw [hdz]; exact hb2), sent2, hdz] at hI5 hN5 ⊢
    have hll : fs.flatten.length ≤ 24 := Nat.le_trans (flat_le hfs) (by omega)
    clear x5 x4 hf4 hI4 hN4
    dsimp only at hI5 hN5 ⊢
    k_go
    refine KM.of MTH.join ?_
    k_go
    refine CALL.join hf5 (Nat.le_trans hll (by decide)) ?_
    k_go
    refine CALL.lenB (big (Nat.le_trans hll (by decide))) ?_
    k_go
    have hIG : ∀ v, (put (Str.ofString "G") v D).lookup (Str.ofString "G") = some v := fun v => by rw [look_put, if_pos rfl]
    have hNP : ∀ v : Int, (put (Str.ofString "P") v (nsP b)).lookup (Str.ofString "P") = some v := fun v => by rw [look_put, if_pos rfl]
    have hlaid := cutF_laid fs (dots (b - 1)) (dots (z + 1 - b - fs.flatten.length)) fun f m => (hfs f m).1
    generalize hl : fs.flatten = l at *
    by_cases ho : z + 1 < b + l.length
    · refine KIf.yes (decide_eq_true (by omega)) ?_
      rw [lay_over hb hb2 ho] at hI5
      rw [decide_eq_true (by omega : z + 1 - b < l.length)]
      k_go
      refine KAnd.yes (by kernel_rfl) ?_
      k_go
      refine KS.of (Sub.dt hI5 (hIG _)) ?_
      k_go
      refine ⟨_, Bin.mulB [46] _ (by decide) (by omega) (by omega) (by decide), ?_⟩
      rw [flat_rep, show ((b : Int) - 1).toNat = b - 1 by omega]
      k_go
      refine EV.cutB ?_ (fun _ _ _ => rfl)
      k_go
      refine ⟨big (by omega), ?_⟩
      rw [show ((z : Int) + 1 - (b : Int)) = ((z + 1 - b : Nat) : Int) by omega, cut_t]
      k_go
      refine KB.addB (big (by rw [List.length_replicate, List.length_take]; omega)) ?_
      k_go
      refine KAnd.yes (by unfold dots; simp) ?_
      k_go
      refine KS.of (Sub.dt hN5 (hNP _)) ?_
      k_go
      rw [show (((b + min l.length (z + 1 - b) : Nat) : Int) == (z : Int) + 1) = true by rw [beq_iff_eq]; omega]
      exact h _ xF
    · refine KIf.no (decide_eq_false (by omega)) ?_
      rw [lay_fits hb hb2 (by omega)] at hI5
      rw [decide_eq_false (by omega : ¬ z + 1 - b < l.length)]
      k_go
      refine KTA.go (by kernel_rfl) ?_
      k_go
      refine KS.of (Sub.dt hI5 (hIG _)) ?_
      k_go
      refine ⟨_, Bin.mulB [46] _ (by decide) (by omega) (by omega) (by decide), ?_⟩
      rw [flat_rep, show ((b : Int) - 1).toNat = b - 1 by omega]
      k_go
      refine KB.addB (big (by rw [List.length_replicate]; omega)) ?_
      k_go
      refine CALL.lenB (big (by omega)) ?_
      k_go
      refine ⟨_, Bin.mulB [46] _ (by decide) (by omega) (by omega) (by decide), ?_⟩
      rw [flat_rep, show ((z : Int) + 1 - (b : Int) - (l.length : Int)).toNat = z + 1 - b - l.length by omega]
      refine KB.addB (big (by rw [List.length_append, List.length_replicate, List.length_replicate]; omega)) ?_
      k_go
      refine KTA.go (by unfold dots; simp) ?_
      k_go
      refine KS.of (Sub.dt hN5 (hNP _)) ?_
      k_go
      refine CALL.lenB (big (by omega)) ?_
      k_go
      refine KTA.go (by show (_ != _) = false; rw [bne_eq_false_iff_eq]; omega) (TL.orN (KIf.no rfl ?_))
      k_go
      refine KS.of (Sub.dt hI5 (hIG _)) ?_
      k_go
      refine EV.comp (CompOK.of (by kernel_rfl) rfl (by kernel_rfl) (by kernel_rfl)) ?_ (fun _ _ => rfl)
      k_go
      refine KCM.of (SRC.list hf5) (.inl fun _ _ => rfl) ?_
      refine CMP.maps (f := V.bytes) (g := fun f => wV f.length) hf5 fs [] (by rw [List.length_nil, Nat.zero_add]; exact Nat.le_trans h4 (by decide)) (fun f hm K' k => ?_) ?_
      · k_go
        refine CALL.lenB (big (Nat.le_trans (hfs f hm).2 (by decide))) ?_
        exact k
      rw [List.nil_append, show fs.map (fun f => wV f.length) = (fs.map (·.length)).map wV by rw [List.map_map]; rfl]
      k_go
      have hdl1 : (dots (b - 1)).length = b - 1 := List.length_replicate ..
      have hgl : (dots (b - 1) ++ l ++ dots (z + 1 - b - l.length)).length = z := by unfold dots; rw [List.length_append, List.length_append, List.length_replicate, List.length_replicate]; omega
      have eC : cutB (dots (b - 1) ++ l ++ dots (z + 1 - b - l.length)) (fs.map (·.length)) b = (fs.map fun f => (f, []), b + l.length, decide (b - 1 + l.length < z)) := by
        unfold cutB
        rw [hdl1] at hlaid
        rw [if_pos ⟨hb, by rw [hgl]; exact hb2⟩, hlaid, hgl]
        show (_, b - 1 + l.length + 1, _) = (_, _, _)
        rw [show b - 1 + l.length + 1 = b + l.length by omega]
      refine cut_ok (b := b) (ws := fs.map (·.length)) at_new (by rw [hgl]; omega) (by rw [List.length_map]; exact Nat.le_trans h4 (by decide)) ?_
      rw [eC]
      k_go
      refine EV.comp (CompOK.of (by kernel_rfl) rfl (by kernel_rfl) (by kernel_rfl)) ?_ (fun _ _ => rfl)
      k_go
      refine KCM.of (SRC.list at_new) (.inr rfl) ?_
      refine CMP.maps (f := pcV) (g := fstV) at_new (fs.map fun f => (f, [])) [] (by rw [List.length_nil, Nat.zero_add, List.length_map]; exact Nat.le_trans h4 (by decide)) (fun p _ K' k => ?_) ?_
      · k_go
        exact k
      rw [List.nil_append, show (fs.map fun f => ((f, []) : List UInt8 × List UInt8)).map fstV = fs.map V.bytes by rw [List.map_map]; rfl]
      k_go
      refine Mine.KC.of (Cmp.eqLB rfl at_new (at_app (at_app (at_app hf5)))) ?_
      k_go
      refine KAnd.yes rfl ?_
      k_go
      refine CALL.lenB (big (by omega)) ?_
      k_go
      rw [show (((b + l.length : Nat) : Int) == (b : Int) + (l.length : Int)) = true by rw [beq_iff_eq]; omega]
      exact h _ (xF.trans (Ext.app.trans (Ext.app.trans Ext.app)))
end
section
-- HANDS
-- GLOBALS law_draw law_pen law_pick law_ref law_cut_right law_step_right law_laid_right cut_by_sizes
-- BOOTS len range int sum abs bytes tuple max
theorem PEN.cell {σ : List Ob} {P Q t j : Nat} {o : Ob} {v : Option V} (p : PEN σ P Q t) (h : σ[j]? = some (.cell v)) : PEN (σ.set j o) P Q t := by
  obtain ⟨ns, a, b, e1, e2, r⟩ := p
  exact ⟨ns, a, b, at_ne (fun e => by rw [e, e1] at h; cases h) e1, at_ne (fun e => by rw [e, e2] at h; cases h) e2, r⟩
theorem PEN.ext {σ σ' : List Ob} {P Q t : Nat} (p : PEN σ P Q t) (x : Ext [] σ σ') : PEN σ' P Q t := by
  obtain ⟨ns, a, b, e1, e2, r⟩ := p
  exact ⟨ns, a, b, x.at_ (by simp) e1, x.at_ (by simp) e2, r⟩
theorem PEN.lt {σ : List Ob} {P Q t : Nat} (p : PEN σ P Q t) : P < σ.length := by
  obtain ⟨ns, a, b, e1, e2, r⟩ := p
  exact at_lt e1
theorem PEN.ltQ {σ : List Ob} {P Q t : Nat} (p : PEN σ P Q t) : Q < σ.length := by
  obtain ⟨ns, a, b, e1, e2, r⟩ := p
  exact at_lt e2
theorem PEN.set {σ : List Ob} {P Q t j : Nat} {o : Ob} (p : PEN σ P Q t) (h1 : j ≠ P) (h2 : j ≠ Q) : PEN (σ.set j o) P Q t := by
  obtain ⟨ns, a, b, e1, e2, r⟩ := p
  exact ⟨ns, a, b, at_ne h1 e1, at_ne h2 e2, r⟩

theorem sumI : ∀ ws : List Nat, (ws.map fun (w : Nat) => (w : Int)).sum = (ws.sum : Int)
  | [] => rfl
  | w :: ws => by rw [List.map_cons, List.sum_cons, sumI ws, List.sum_cons]; omega
theorem sum_flat : ∀ fs : List (List UInt8), (fs.map (·.length)).sum = fs.flatten.length
  | [] => rfl
  | f :: fs => by rw [List.map_cons, List.sum_cons, sum_flat fs, List.flatten_cons, List.length_append]
theorem small3 : ∀ w ∈ ([2, 2, 3] : List Nat), 1 ≤ w ∧ w ≤ 100 := by decide
local macro_rules | `(tactic| k_go) => `(tactic| (repeat (first
    | ((with_reducible refine' EV.cell ?w1 ?w2 ?w3 ?_ ?w4 ?w5); (case w1 => exact (by first | exact .inl rfl | exact .inr rfl)); (case w2 => exact rfl); (case w3 => exact (by first | exact HND.c0 (by assumption) | exact HND.c1 (by assumption) | assumption | exact at_app (by assumption) | exact at_app (at_app (by assumption)))); (case w4 => exact rfl); (case w5 => exact rfl))
    | ((with_reducible refine' KD.of ?w1 ?_); (case w1 => exact (by kernel_rfl)))
    | ((with_reducible refine' KB.mulI ?w1 ?_); (case w1 => exact (by first | assumption | exact IntMulOk.of_left (by decide) | exact IntMulOk.of_right (by decide))))
    | ((with_reducible refine' KB.fmodI ?w1 ?_); (case w1 => exact (by first | assumption | decide)))
    | ((with_reducible refine' KB.fdivI ?w1 ?w2 ?_); (case w1 => exact (by first | assumption | decide)); (case w2 => exact (by first | assumption | decide)))
    | ((with_reducible refine' KB.powI ?w1 ?w2 ?w3 ?_); (case w1 => exact (by decide)); (case w2 => exact (by decide)); (case w3 => exact (by first | assumption | decide)))
    | k_data)))
theorem law_ok {n i : Nat} {σ : List Ob} {ns : List Int} {o : Obj} {us : List Value} {kk : Nat} {K : V → List Ob → Prop} (hi : σ[i]? = some (.frozen o)) (ho : o.cls = .type "list") (ho2 : o.data = .seq us.toArray kk) (ho3 : IntsAre us ns) (hn : ns.length ≤ 63) (h : ∀ σ', σ'[i]? = some (.frozen o) → K (.bool true) σ') : CALL (n + 10) σ (.val (.ref 248)) [.ref i] K := by
  refine CALL.cells f_law (ps := ["script"]) (cs := ["pen"]) (fun _ _ _ _ _ _ => by show _ = _; kernel_rfl) (by decide) (by kernel_rfl) (by kernel_rfl) (by decide) (by kernel_rfl) rfl rfl rfl fun cdv _ => ?_
  change EX _ [("script", _)] (σ ++ [Ob.cell none]) _ _
  obtain ⟨σ₀, s0, hi0, a0⟩ : ∃ σ₀, σ₀ = σ ++ [Ob.cell none] ∧ σ₀[i]? = some (.frozen o) ∧ σ₀[σ.length]? = some (Ob.cell none) := ⟨_, rfl, at_app hi, at_new⟩
  rw [← s0]
  clear s0 hi
  generalize σ.length = c at *
  k_go
  refine cut_right_ok (b := 1) (ws := [2, 2]) at_new (by decide) (by decide) (by decide) (by decide) fun σ₁ x1 => ?_
  have hi1 := x1.at_ (by simp) (at_app hi0)
  have a1 := x1.at_ (by simp) (at_app a0)
  clear x1 hi0 a0
  k_go
  refine KTA.go rfl ?_
  k_go
  refine cut_right_ok (b := 2) (ws := [2, 2, 3]) at_new (by decide) (by decide) (by decide) (by decide) fun σ₂ x2 => ?_
  have hi2 := x2.at_ (by simp) (at_app hi1)
  have a2 := x2.at_ (by simp) (at_app a1)
  clear x2 hi1 a1
  k_go
  refine KTA.go rfl ?_
  k_go
  refine cut_right_ok (b := 2) (ws := [1, 1, 1]) at_new (by decide) (by decide) (by decide) (by decide) fun σ₃ x3 => ?_
  have hi3 := x3.at_ (by simp) (at_app hi2)
  have a3 := x3.at_ (by simp) (at_app a2)
  clear x3 hi2 a2
  k_go
  refine KTA.go rfl (TL.orN (KIf.no rfl ?_))
  k_go
  refine cut_ok (b := 1) (ws := [2, 2, 2]) at_new (by decide) (by decide) ?_
  rw [show cutB [65, 66, 67] [2, 2, 2] 1 = ([([65, 66], []), ([67], [])], 4, false) by kernel_rfl]
  k_go
  refine KCt.of (Cmp.neCut (ps := [([65, 66], []), ([67], [])]) (f := 4) (at_app at_new) at_new (by simp)) ?_
  obtain ⟨σ₄, s4, hi4, a4⟩ : ∃ σ₄, σ₄ = σ₃ ++ [Ob.list ([2, 2, 2].map wV)] ++ [Ob.list ([([65, 66], []), ([67], [])].map pcV)] ++ [Ob.list ([([65, 66], []), ([67], [])].map pcV)] ∧ σ₄[i]? = some (.frozen o) ∧ σ₄[c]? = some (Ob.cell none) := ⟨_, rfl, at_app (at_app (at_app hi3)), at_app (at_app (at_app a3))⟩
  change KTA _ _ _ _ _ _ _ _ _ (σ₃ ++ [Ob.list ([2, 2, 2].map wV)] ++ [Ob.list ([([65, 66], []), ([67], [])].map pcV)] ++ [Ob.list ([([65, 66], []), ([67], [])].map pcV)])
  rw [← s4]
  clear s4 hi3 a3
  refine KTA.go rfl ?_
  k_go
  refine cut_ok (b := 2) (ws := [1]) at_new (by decide) (by decide) ?_
  rw [show cutB [65, 66, 67] [1] 2 = ([([66], [])], 3, true) by kernel_rfl]
  k_go
  refine KCt.of (Cmp.neCut (ps := [([66], [])]) (f := 3) (at_app at_new) at_new (by simp)) ?_
  obtain ⟨σ₅, s5, hi5, a5⟩ : ∃ σ₅, σ₅ = σ₄ ++ [Ob.list ([1].map wV)] ++ [Ob.list ([([66], [])].map pcV)] ++ [Ob.list ([([66], [])].map pcV)] ∧ σ₅[i]? = some (.frozen o) ∧ σ₅[c]? = some (Ob.cell none) := ⟨_, rfl, at_app (at_app (at_app hi4)), at_app (at_app (at_app a4))⟩
  change KTA _ _ _ _ _ _ _ _ _ (σ₄ ++ [Ob.list ([1].map wV)] ++ [Ob.list ([([66], [])].map pcV)] ++ [Ob.list ([([66], [])].map pcV)])
  rw [← s5]
  clear s5 hi4 a4
  refine KTA.go rfl (TL.orN (KIf.no rfl ?_))
  k_go
  refine law_pen_ok (.froz hi5 ho ho2 ho3) hn fun σ₃ P Q x3 p3 _ => ?_
  have a3 := x3.at_ (by simp) a5
  have hi3 := x3.at_ (by simp) hi5
  clear x3 hi5 a5
  k_go
  refine STO.cel rfl rfl a3 ?_
  have ncP : P ≠ c := fun e => by
    obtain ⟨_, _, _, e1, _⟩ := p3
    rw [e, a3] at e1; cases e1
  have p4 := p3.cell (j := c) (o := .cell (some (.ref P))) a3
  have a4 := at_set (o := Ob.cell (some (.ref P))) a3
  have hi4 := at_ne (o' := Ob.cell (some (.ref P))) (fun e : c = i => by rw [e, hi3] at a3; cases a3) hi3
  have niP : i ≠ P := fun e => by
    obtain ⟨_, _, _, e1, _⟩ := p3
    rw [← e, hi3] at e1; cases e1
  change SEQ _ _ _ _ _ (σ₃.set c (.cell (some (.ref P))))
  generalize σ₃.set c (.cell (some (.ref P))) = σ₄ at p4 a4 hi4 ⊢
  clear a3 p3 hi3
  k_go
  refine EX1.for ?_ (fun _ _ => rfl)
  k_go
  refine KFor.of (SRC.rng0 (k := 2) (by decide)) (.inl fun _ _ => rfl) [] trivial ?_
  refine (?_ : ∀ (k : Nat) (a : Int) (t : Nat) (σ' : List Ob), PEN σ' P Q t → t + 60 * k ≤ 200 → σ'[c]? = some (.cell (some (.ref P))) → σ'[i]? = some (.frozen o) → FORS _ _ _ _ _ (rngV a k) [] σ') 2 _ 0 σ₄ p4 (by decide) a4 hi4
  clear p4 a4 hi4
  intro k
  induction k with
  | zero =>
    intro a t σ' p ht hc hi
    refine ⟨trivial, ?_⟩
    k_go
    exact h _ hi
  | succ k ih =>
    intro a t σ' p ht hc hi
    rw [rngV_succ]
    refine ⟨trivial, ?_⟩
    k_go
    refine EX1.setC (CompOK.of (by kernel_rfl) rfl (by kernel_rfl) (by kernel_rfl)) ?_ (fun _ => rfl) (fun _ _ => rfl)
    k_go
    refine law_draw_ok (m := 4) p (by omega) (by decide) (by decide) fun σ₅ m hm x5 p5 => ?_
    have c5 := x5.at_ (by simpa using ncP.symm) hc
    have i5 := x5.at_ (by simpa using niP) hi
    clear x5 hc p hi
    k_go
    rw [show (1 : Int) + ((m : Nat) : Int) = ((1 + m : Nat) : Int) by omega]
    refine KCM.of (SRC.rng0 (k := 1 + m) (by omega)) (.inl fun _ _ => rfl) ?_
    refine (?_ : ∀ (k' : Nat) (a' : Int) (t' : Nat) (σ' : List Ob) (fs : List (List UInt8)), PEN σ' P Q t' → t' + 7 * k' ≤ t + 30 → fs.length + k' ≤ 4 → 0 < fs.length + k' → (∀ f ∈ fs, f ≠ [] ∧ f.length ≤ 6) → σ'[c]? = some (.cell (some (.ref P))) → σ'[i]? = some (.frozen o) → CMP _ _ _ _ _ (rngV a' k') (fs.map V.bytes) σ') (1 + m) _ (t + 1) σ₅ [] p5 (by omega) (by simp; omega) (by simp; omega) (fun _ h => nomatch h) c5 i5
    clear p5 c5 i5
    intro k'
    induction k' with
    | zero =>
      intro a' t' σ₅ fs p ht' hl hl0 hfs hc hi
      refine ⟨trivial, ?_⟩
      have ne : fs ≠ [] := fun e => by rw [e] at hl0; exact absurd hl0 (by decide)
      have fl4 : fs.length ≤ 4 := by omega
      have hll : fs.flatten.length ≤ 24 := Nat.le_trans (flat_le hfs) (by omega)
      have c6 := at_app (l := [Ob.list (fs.map V.bytes)]) hc
      have i6 := at_app (l := [Ob.list (fs.map V.bytes)]) hi
      have p6 := p.ext (Ext.app (l := [Ob.list (fs.map V.bytes)]))
      have f6 := at_new (σ := σ₅) (o := Ob.list (fs.map V.bytes)) (l := [])
      have nFP : σ₅.length ≠ P := Nat.ne_of_gt (PEN.lt p)
      change STO _ _ (σ₅ ++ [Ob.list (fs.map V.bytes)]) _ _ _
      generalize σ₅ ++ [Ob.list (fs.map V.bytes)] = σ₆ at *
      generalize σ₅.length = jF at *
      clear hc hi p
      k_go
      refine EX1.setC (CompOK.of (by kernel_rfl) rfl (by kernel_rfl) (by kernel_rfl)) ?_ (fun _ => rfl) (fun _ _ => rfl)
      k_go
      refine KCM.of (SRC.list f6) (.inl fun _ _ => rfl) ?_
      refine CMP.maps (f := V.bytes) (g := fun f => wV f.length) f6 fs [] (by rw [List.length_nil, Nat.zero_add]; omega) (fun f hm' K' k => ?_) ?_
      · k_go
        refine CALL.lenB (big (Nat.le_trans (hfs f hm').2 (by decide))) ?_
        exact k
      rw [List.nil_append, show fs.map (fun f => wV f.length) = (fs.map (·.length)).map wV by rw [List.map_map]; rfl]
      have c7 := at_app (l := [Ob.list ((fs.map (·.length)).map wV)]) c6
      have i7 := at_app (l := [Ob.list ((fs.map (·.length)).map wV)]) i6
      have f7 := at_app (l := [Ob.list ((fs.map (·.length)).map wV)]) f6
      have p7 := p6.ext (Ext.app (l := [Ob.list ((fs.map (·.length)).map wV)]))
      have w7 := at_new (σ := σ₆) (o := Ob.list ((fs.map (·.length)).map wV)) (l := [])
      have nWP : σ₆.length ≠ P := Nat.ne_of_gt (PEN.lt p6)
      change STO _ _ (σ₆ ++ [Ob.list ((fs.map (·.length)).map wV)]) _ _ _
      generalize σ₆ ++ [Ob.list ((fs.map (·.length)).map wV)] = σ₇ at *
      generalize σ₆.length = jW at *
      clear c6 i6 f6 p6
      have hwl : (fs.map (·.length)).length ≤ 4 := by rw [List.length_map]; exact fl4
      have hws : ∀ w ∈ fs.map (·.length), 1 ≤ w ∧ w ≤ 100 := fun w hw => by
        obtain ⟨f, hf, rfl⟩ := List.mem_map.mp hw
        have := hfs f hf
        exact ⟨List.length_pos_iff.mpr this.1, by omega⟩
      have hsum := sum_flat fs
      generalize hW : fs.map (·.length) = ws at *
      k_go
      refine EV.cutB ?_ (fun _ _ _ => rfl)
      k_go
      refine KM.of MTH.join ?_
      k_go
      refine CALL.join f7 (Nat.le_trans hll (by decide)) ?_
      k_go
      refine KB.addB (big (show fs.flatten.length + 3 ≤ 1000 by omega)) ?_
      k_go
      refine CALL.sum (ns := ws.map fun (w : Nat) => (w : Int)) (by rw [List.map_map]; exact w7) ?_
      rw [sumI, hsum]
      k_go
      refine law_draw_ok (m := 7) p7 (by omega) (by decide) (by decide) fun σ₈ r hr x8 p8 => ?_
      have c8 := x8.at_ (by simpa using ncP.symm) c7
      have i8 := x8.at_ (by simpa using niP) i7
      have f8 := x8.at_ (by simpa using nFP) f7
      have w8 := x8.at_ (by simpa using nWP) w7
      clear x8 p7 c7 i7 f7 w7
      k_go
      refine ⟨big (by rw [List.length_append]; exact (show fs.flatten.length + 3 ≤ 1000 by omega)), ?_⟩
      rw [show (if (fs.flatten.length : Int) + 3 - (r : Int) > 1 then (fs.flatten.length : Int) + 3 - (r : Int) else 1) = ((max 1 (fs.flatten.length + 3 - r) : Nat) : Int) by split <;> omega, cut_t]
      have hxl : ((fs.flatten ++ [120, 121, 122]).take (max 1 (fs.flatten.length + 3 - r))).length ≤ 27 := by
        rw [List.length_take, List.length_append]
        exact Nat.le_trans (Nat.min_le_right _ _) (show fs.flatten.length + 3 ≤ 27 by omega)
      generalize (fs.flatten ++ [120, 121, 122]).take (max 1 (fs.flatten.length + 3 - r)) = x at *
      k_go
      refine CALL.lenB (big (by omega)) ?_
      k_go
      refine CALL.lenB (big (by omega)) ?_
      k_go
      refine pick_list (x := [1, 1, 2, 3, (x.length : Int), (x.length : Int) + 1, 0]) (p8.ext Ext.app) at_new (Nat.ne_of_gt (PEN.lt p8)) (by omega) (Nat.zero_lt_succ 6) (Nat.le_of_ble_eq_true rfl) fun σ₉ b hb x9 p9 => ?_
      have c9 := x9.at_ (by simpa using ncP.symm) (at_app c8)
      have i9 := x9.at_ (by simpa using niP) (at_app i8)
      have f9 := x9.at_ (by simpa using nFP) (at_app f8)
      have w9 := x9.at_ (by simpa using nWP) (at_app w8)
      clear x9 p8 c8 i8 f8 w8
      obtain ⟨b, rfl, hb2⟩ : ∃ b' : Nat, b = b' ∧ b' ≤ 100 := by
        simp only [List.mem_cons, List.not_mem_nil, or_false] at hb
        exact ⟨b.toNat, by omega, by omega⟩
      clear hb
      k_go
      refine cut_right_ok w9 hwl hws (by omega) (by omega) fun σA xA => ?_
      have cA := xA.at_ (by simp) c9
      have iA := xA.at_ (by simp) i9
      have fA := xA.at_ (by simp) f9
      have wA := xA.at_ (by simp) w9
      have pA := p9.ext xA
      clear xA p9 c9 i9 f9 w9
      k_go
      refine KTA.go rfl ?_
      k_go
      rw [show (if (b : Int) > 1 then (b : Int) else 1) = ((max 1 b : Nat) : Int) by split <;> omega]
      refine step_right_ok wA hwl (by omega) (Nat.le_max_left _ _) fun σB xB => ?_
      have cB := xB.at_ (by simp) cA
      have iB := xB.at_ (by simp) iA
      have fB := xB.at_ (by simp) fA
      have wB := xB.at_ (by simp) wA
      have pB := pA.ext xB
      clear xB pA cA iA fA wA
      k_go
      refine KTA.go rfl (TL.orN (KIf.no rfl ?_))
      k_go
      refine law_draw_ok (m := 4) pB (by omega) (by decide) (by decide) fun σC q hq xC pC => ?_
      have cC := xC.at_ (by simpa using ncP.symm) cB
      have iC := xC.at_ (by simpa using niP) iB
      have fC := xC.at_ (by simpa using nFP) fB
      have wC := xC.at_ (by simpa using nWP) wB
      clear xC pB cB iB fB wB
      k_go
      refine CALL.sum (ns := ws.map fun (w : Nat) => (w : Int)) (by rw [List.map_map]; exact wC) ?_
      rw [sumI, hsum]
      k_go
      refine law_draw_ok (m := 6) pC (by omega) (by decide) (by decide) fun σD u hu xD pD => ?_
      have cD := xD.at_ (by simpa using ncP.symm) cC
      have iD := xD.at_ (by simpa using niP) iC
      have fD := xD.at_ (by simpa using nFP) fC
      clear xD pC cC iC fC wC
      k_go
      rw [show (1 : Int) + ((q : Nat) : Int) = ((1 + q : Nat) : Int) by omega, show (if (fs.flatten.length : Int) + (u : Int) - 1 > ((1 + q : Nat) : Int) then (fs.flatten.length : Int) + (u : Int) - 1 else ((1 + q : Nat) : Int)) = ((max (1 + q) (fs.flatten.length + u - 1) : Nat) : Int) by split <;> omega]
      refine laid_right_ok fD fl4 hfs (by omega) (Nat.le_max_left _ _) (by omega) fun σE xE => ?_
      have cE := xE.at_ (by simp) cD
      have iE := xE.at_ (by simp) iD
      have pE := pD.ext xE
      k_go
      refine KIf.no rfl ?_
      k_go
      exact FK.next (r := []) trivial (ih _ _ _ pE (by omega) cE iE)
    | succ k' ih' =>
      intro a'' t' σ₅ fs p ht' hl hl0 hfs hc hi
      rw [rngV_succ]
      refine ⟨trivial, ?_⟩
      k_go
      refine EV.comp (CompOK.of (by kernel_rfl) rfl (by kernel_rfl) (by kernel_rfl)) ?_ (fun _ _ => rfl)
      k_go
      refine law_draw_ok (m := 6) p (by omega) (by decide) (by decide) fun σ₆ q hq x6 p6 => ?_
      have c6 := x6.at_ (by simpa using ncP.symm) hc
      have i6 := x6.at_ (by simpa using niP) hi
      clear x6 p hc hi
      k_go
      rw [show (1 : Int) + ((q : Nat) : Int) = ((1 + q : Nat) : Int) by omega]
      refine KCM.of (SRC.rng0 (k := 1 + q) (by omega)) (.inl fun _ _ => rfl) ?_
      refine (?_ : ∀ (q' : Nat) (a' : Int) (s : Nat) (σ' : List Ob) (cs : List UInt8), PEN σ' P Q s → s + q' ≤ t' + 7 → cs.length + q' ≤ 6 → 0 < cs.length + q' → σ'[c]? = some (.cell (some (.ref P))) → σ'[i]? = some (.frozen o) → CMP _ _ _ _ _ (rngV a' q') (cs.map fun c => V.int (UInt8.toNat c : Nat)) σ') (1 + q) _ (t' + 1) σ₆ [] p6 (by omega) (by simp; omega) (by simp; omega) c6 i6
      clear p6 c6 i6
      intro q'
      induction q' with
      | zero =>
        intro a' s σ₆ cs p hs hcl hcs hc hi
        refine ⟨trivial, ?_⟩
        have ecs : cs.map (fun c => V.int ((UInt8.toNat c : Nat) : Int)) = (cs.map fun c => ((UInt8.toNat c : Nat) : Int)).map V.int := by rw [List.map_map]; rfl
        rw [ecs]
        k_go
        refine CALL.bytesI (ns := cs.map fun c => ((UInt8.toNat c : Nat) : Int)) at_new (fun i hi' => ?_) (by rw [List.length_map]; omega) ?_
        · obtain ⟨c, _, rfl⟩ := List.mem_map.mp hi'
          have := c.toNat_lt
          omega
        rw [show (cs.map fun c => ((UInt8.toNat c : Nat) : Int)).map (fun i : Int => i.toNat.toUInt8) = cs by
          rw [List.map_map]
          exact (List.map_congr_left fun c _ => by simp).trans (List.map_id _)]
        refine ⟨by rw [List.length_map]; omega, ?_⟩
        have := ih' (a'' + 1) s _ (fs ++ [cs]) (p.ext (Ext.app (l := [Ob.list ((cs.map fun c => ((UInt8.toNat c : Nat) : Int)).map V.int)]))) (by omega) (by rw [List.length_append, List.length_singleton]; omega) (by rw [List.length_append, List.length_singleton]; omega) (fun f m => by
          rcases List.mem_append.mp m with m | m
          · exact hfs f m
          · rw [List.mem_singleton.mp m]; exact ⟨fun e => by rw [e] at hcs; exact absurd hcs (by decide), by omega⟩) (at_app hc) (at_app hi)
        rw [List.map_append] at this
        exact this
      | succ q' ihq =>
        intro a' s σ₆ cs p hs hcl hcs hc hi
        rw [rngV_succ]
        refine ⟨trivial, ?_⟩
        k_go
        refine pick_bytes p (by omega) (by decide) (by decide) fun σ₇ ch hch x7 p7 => ?_
        refine ⟨by rw [List.length_map]; omega, ?_⟩
        have := ihq (a' + 1) (s + 1) σ₇ (cs ++ [ch]) p7 (by omega) (by simp; omega) (by simp; omega) (x7.at_ (by simpa using ncP.symm) hc) (x7.at_ (by simpa using niP) hi)
        rw [List.map_append] at this
        exact this
end
section
theorem top_ghost {p : Program} {loose : List Str} {mean : ExcName → Option Value} {mg mb : Str → Option Value} {h h₀ : Heap} (k : ∀ b o, h.get? b = some o → o ≠ tabObj #[] → (∀ xs n, o.data ≠ .seq xs n) → h₀.get? b = some o) (T : Top p loose mean mg mb h) :
    Top topProg (loose ++ (recsOf p).map (·.name) ++ (litsOf p).map (·.1) ++ (clssOf p loose).map (·.name)) mean mg mb h₀ :=
  have kn : ∀ {a : Addr} {mm : Str → Option Value}, h.Ns a mm → h₀.Ns a mm := fun x => let ⟨o, es, ep, e, hd, r⟩ := x; ⟨o, es, ep, k _ _ e (fun q => by rw [q] at hd; cases hd) (fun _ _ q => by rw [q] at hd; cases hd), hd, r⟩
  { g := kn T.g
    b := kn T.b
    nolimit := let ⟨mc, a, r⟩ := T.nolimit; ⟨mc, kn a, r⟩
    nodigits := let ⟨mc, a, r⟩ := T.nodigits; ⟨mc, kn a, r⟩
    fn := fun d hd => absurd (show d ∈ ([] : List DefRec) from hd) List.not_mem_nil
    own := fun o ho => absurd (show o ∈ ([] : List OwnSpec) from ho) List.not_mem_nil
    const := fun x d e => by cases (show (none : Option PyData) = some d from e)
    free := fun x h1 h2 _ _ _ => T.free x h1 (fun q => h2 (List.mem_append_left _ (List.mem_append_left _ (List.mem_append_left _ q))))
      (fun q => h2 (List.mem_append_left _ (List.mem_append_left _ (List.mem_append_right _ q)))) (fun q => h2 (List.mem_append_left _ (List.mem_append_right _ q))) fun q => h2 (List.mem_append_right _ q)
    builtins := T.builtins
    tab := fun d hd => absurd (show d ∈ ([] : List DefRec) from hd) List.not_mem_nil
    bmain := let ⟨bm, ob, a1, a2, a3, a4, a5, a6⟩ := T.bmain; ⟨bm, ob, a1, a2, k _ _ a3 (fun q => by rw [q] at a4; cases a4) (fun _ _ q => by rw [q] at a6; cases a6), a4, a5, a6⟩
    seer := fun e => absurd (show false = true from e) Bool.false_ne_true }
def noSeq (o : Obj) : Bool := match o.data with
  | .seq _ _ => false
  | _ => true
def noSeqs (K : Frag) : Bool := K.all fun p => noSeq p.2
theorem join {w : World} {loose : List Str} {mean : ExcName → Option Value} {mg mb : Str → Option Value} {s : Shared} {L fa : Addr} {us : List Value} {ns : List Int} {Q E : Value → Shared → Prop} (T : Top PV loose mean mg mb s.heap) (KX : (PK w.params).In s.heap) (T8 : s.heap.get? PT = some (tabObj #[]))
    (hL : s.heap.IsList L us.toArray) (hI : IntsAre us ns) (hn : ns.length ≤ 63) (hfa : mg (Str.ofString "law") = some (.ref fa)) (hQ : ∀ h' tk, OldK s.heap h' → Q (.bool true) { s with heap := h', toks := tk }) : wpAny (model PG w) callerA (PySem.call (.ref fa) [.ref L]) Q E s := by
  have e := mg_of KX T.g (g_law w)
  rw [hfa] at e
  cases e
  obtain ⟨o, eo, hc, k, hd⟩ := hL
  have nL : L ≠ PT := fun z => by rw [z, T8] at eo; cases eo; cases hc
  have kh : ∀ b o', s.heap.get? b = some o' → o' ≠ tabObj #[] → (∀ xs n, o'.data ≠ .seq xs n) → (hideAll s.heap [PT, L]).get? b = some o' := fun b o' e n1 n2 => hideAll_get _ e fun m => by
    rcases List.mem_cons.mp m with rfl | m
    · rw [T8] at e; cases e; exact n1 rfl
    · rw [List.mem_singleton.mp m, eo] at e; cases e; exact n2 _ _ hd
  have hK : (PK w.params).In (hideAll s.heap [PT, L]) := fun a o' e => kh _ _ (KX _ _ e) (fun q => by
      have h2 := List.all_eq_true.mp (show noTabs (PK w.params) = true by kernel_rfl) (a, o') (mem_of_lookupK e)
      subst q
      exact absurd (show false = true from h2) Bool.false_ne_true) fun xs n q => by
      have h2 := List.all_eq_true.mp (show noSeqs (PK w.params) = true by kernel_rfl) (a, o') (mem_of_lookupK e)
      have h2 : noSeq o' = true := h2
      unfold noSeq at h2
      rw [q] at h2
      cases h2
  have hsy : ∃ o, (hideAll s.heap [PT, L]).get? sysModules = some o := by
    obtain ⟨mm, ⟨om, es, ep, e, hdm, _⟩, _⟩ := (T.seer (by kernel_rfl)).mods
    exact ⟨om, kh _ _ e (fun q => by rw [q] at hdm; cases hdm) (fun _ _ q => by rw [q] at hdm; cases hdm)⟩
  have hfn : ∀ d ∈ recsOf PV, ∃ a o pm code doc, mg d.name = some (.ref a) ∧ (hideAll s.heap [PT, L]).get? a = some o ∧ o.data = .func (docDef d.name d.params d.body d.scope pm code doc) ∧ (hideAll s.heap [PT, L]).CodeRec code d.name := fun d hd => by
    obtain ⟨a, o', pm, code, doc, h1, h2, h3, h4⟩ := T.fn d hd
    refine ⟨a, o', pm, code, doc, h1, kh _ _ h2 (fun q => by rw [q] at h3; cases h3) (fun _ _ q => by rw [q] at h3; cases h3), h3, ?_⟩
    obtain ⟨c₂, oc, vs, t, e2, hoc, hd', hv⟩ := h4
    refine ⟨c₂, oc, vs, t, e2, kh _ _ hoc (fun q => ?_) (fun _ _ q => by rw [q] at hd'; cases hd'), hd', hv⟩
    rw [q] at hd'
    injection hd' with hd'
    subst hd'
    simp at hv
  have T' := top_ghost kh T
  generalize loose ++ (recsOf PV).map (·.name) ++ (litsOf PV).map (·.1) ++ (clssOf PV loose).map (·.name) = lo at T'
  have ok : (⟨w, mean, mg, mb, lo, hideAll s.heap [PT, L], callerA⟩ : Cx).OK 10 := ⟨hK, T', rfl, by show callerA.depth + 10 < recursionLimit; rw [depth_caller]; decide, by show callerA.units + (8 * 10 + 200) < cLine; rw [units_caller, cLine_is]; decide, hideAll_none _ (.head _), hsy, hfn⟩
  have rs : RS ⟨w, mean, mg, mb, lo, hideAll s.heap [PT, L], callerA⟩ s.heap [L] [.frozen o] := {
    base := fun b o' e => of_hideAll _ e
    len := rfl
    nd := by simp
    at_ := fun i a o' e1 e2 => by
      cases i with
      | zero => cases e1; cases e2; exact eo
      | succ i => cases e1
    off := fun a ha => by
      rw [List.mem_singleton.mp ha]
      exact ⟨hideAll_none _ (.tail _ (.head _)), nL, o, eo⟩
    tab := ⟨#[], T8, trivial, fun _ _ e => by cases e⟩ }
  refine law_ok (n := 0) (K := fun v σ' => v = .bool true ∧ σ'[0]? = some (.frozen o)) (i := 0) rfl hc hd hI hn (fun σ' h => ⟨rfl, h⟩) ⟨w, mean, mg, mb, lo, hideAll s.heap [PT, L], callerA⟩ s [L] ok rs (.ref 248) [.ref L] rfl (.cons ⟨L, rfl, rfl⟩ .nil) _ _ fun a b σ' h' tk φ' kk rs' l r => ?_
  obtain ⟨rfl, hf⟩ := kk
  cases r
  refine hQ h' tk ⟨fun b ob e => ?_, fun b ob e => l.live b ob e⟩
  by_cases b1 : b = PT
  · subst b1
    rw [T8] at e
    cases e
    obtain ⟨ps, hp, _⟩ := rs'.tab
    exact .inr (.inl ⟨((codeHd_of_K (c := PC) (P := PT) KX (by kernel_rfl)).tab T8).isCodeTable, rfl, #[], ps, rfl, by rw [hp, Array.empty_append]⟩)
  · by_cases b2 : b = L
    · subst b2
      rw [eo] at e
      cases e
      exact .inl (rs'.at_ 0 _ _ (by simpa using l.at (i := 0) rfl) hf)
    · exact .inl (l.keep b ob e (by simpa using b2) b1 (fun m => nomatch m))
theorem final : PySem.Challenge.rw_pq0616_02.Holds := hd (by
  k_fill
  intro w s₀ s₁ mg mb G Y fa o pm cd doc dV kV ho hd hcd hD hmg hg args vals as hpre hlay hrd hwl hlo
  have KX := km_in_of Y
  have T8 := km_tabs_of Y 214 (.head _)
  have hfa : mg (Str.ofString "law") = some (.ref fa) := hmg
  clear hmg hd hD ho hcd
  refine Ground.open G ?_
  intro T B D TE TW
  wrow_args hpre hlay hrd hwl hlo
  rename_i hLs _ _ _ hI _ hc1 _
  refine join T KX T8 hLs hI (by omega) hfa fun h' tk K => ?_
  refine ⟨.inl ⟨_, ofPy (.bool true), [], rfl, fun _ => rfl, ?_, ?_, fun _ => ⟨.nil, fun _ h => nomatch h⟩⟩, K, rfl, .of_eq hg⟩
  · exact .bool true
  · kernel_rfl)
end
end
end Mine
theorem PySem.Challenge.cw_pq0616_02_holds : PySem.Challenge.rw_pq0616_02.Holds :=
  Mine.final
