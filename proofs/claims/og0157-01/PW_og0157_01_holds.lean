import PyProof.Rows.All
import Wide.All
import OpenK.AllK
import Wide.FinOn
import PySem.Challenge.RW_og0157_01
open PySem PySem.W PyProof.Rows
set_option Elab.async false
namespace Mine
/-- parts of the program's text, by their place -/
noncomputable def inner : Stmt → List Stmt
  | .FunctionDef (body := b) .. => b
  | .ClassDef (body := b) .. => b
  | _ => []
noncomputable def nth (b : List Stmt) (i : Nat) : Stmt := (b[i]?).getD (.Pass ⟨0, 0, 0, 0⟩)
noncomputable def st (i : Nat) : Stmt := nth PySem.Challenge.pw_og0157_01.main.body i
noncomputable def su (i j : Nat) : Stmt := nth (inner (st i)) j
noncomputable def parOf : Stmt → Arguments
  | .FunctionDef (args := a) .. => a
  | _ => { posonlyargs := [], args := [], vararg := none, kwonlyargs := [], kw_defaults := [], kwarg := none, defaults := [] }
noncomputable def scoOf : Stmt → Scope
  | .FunctionDef (scope := s) .. => s
  | _ => { kind := .function, names := [], isGenerator := false, isCoroutine := false, more := [] }
set_option maxRecDepth 100000
/-- the statements of the text that the look keeps -/
noncomputable def hd.view_39 : Program := { PySem.Challenge.rw_og0157_01.row.toRowW.prog with main := { PySem.Challenge.rw_og0157_01.row.toRowW.prog.main with body := [st 0, st 2, st 3, st 4, st 5, st 6, st 8, st 9, st 11, st 12, st 13, st 14, st 15, st 16, st 17, st 18, st 19, st 21, st 22, st 23, st 24, st 25, st 26, st 27] } }
/-- the objects that stand behind the top -/
noncomputable def hd.heap_39 : Params → Frag := fun P =>
   (nat_lit 2, (
     { cls := PySem.Value.none,
       data :=
         PySem.Data.dict
           #[{ hash := PySem.PyData.keyHash P (PySem.Str.ofString "type.__subclasses__.Exception.0"), key := PySem.Value.str (PySem.Str.ofString "type.__subclasses__.Exception.0") 378, val := PySem.Value.int 160 0 },
             { hash := PySem.PyData.keyHash P (PySem.Str.ofString "type.__subclasses__.Exception.n"), key := PySem.Value.str (PySem.Str.ofString "type.__subclasses__.Exception.n") 379, val := PySem.Value.int 1 0 }]
           2 })) ::
   (nat_lit 3, (
     { cls := PySem.Value.type "dict",
       data :=
         PySem.Data.dict
           #[{ hash := PySem.PyData.keyHash P (PySem.Str.ofString "__name__"), key := PySem.Value.str (PySem.Str.ofString "__name__") 165, val := PySem.Value.str (PySem.Str.ofString "law_og0157_01") 484 },
             { hash := PySem.PyData.keyHash P (PySem.Str.ofString "__doc__"), key := PySem.Value.str (PySem.Str.ofString "__doc__") 166, val := PySem.Value.none },
             { hash := PySem.PyData.keyHash P (PySem.Str.ofString "__package__"), key := PySem.Value.str (PySem.Str.ofString "__package__") 167, val := PySem.Value.none },
             { hash := PySem.PyData.keyHash P (PySem.Str.ofString "__loader__"), key := PySem.Value.str (PySem.Str.ofString "__loader__") 168, val := PySem.Value.builtin "__main__.__loader__#opaque" },
             { hash := PySem.PyData.keyHash P (PySem.Str.ofString "__spec__"), key := PySem.Value.str (PySem.Str.ofString "__spec__") 169, val := PySem.Value.none },
             { hash := PySem.PyData.keyHash P (PySem.Str.ofString "__annotations__"), key := PySem.Value.str (PySem.Str.ofString "__annotations__") 170, val := PySem.Value.ref 6 },
             { hash := PySem.PyData.keyHash P (PySem.Str.ofString "__builtins__"), key := PySem.Value.str (PySem.Str.ofString "__builtins__") 171, val := PySem.Value.ref 4 },
             { hash := PySem.PyData.keyHash P (PySem.Str.ofString "__file__"), key := PySem.Value.str (PySem.Str.ofString "__file__") 173, val := PySem.Value.str (PySem.Str.ofString "/claim/cut.py") 172 },
             { hash := PySem.PyData.keyHash P (PySem.Str.ofString "__cached__"), key := PySem.Value.str (PySem.Str.ofString "__cached__") 174, val := PySem.Value.none },
             { hash := PySem.PyData.keyHash P (PySem.Str.ofString "_wall"), key := PySem.Value.str (PySem.Str.ofString "_wall") 193, val := PySem.Value.ref 21 },
             { hash := PySem.PyData.keyHash P (PySem.Str.ofString "LINE_FEED"), key := PySem.Value.str (PySem.Str.ofString "LINE_FEED") 197, val := PySem.Value.int 10 196 },
             { hash := PySem.PyData.keyHash P (PySem.Str.ofString "RETURN"), key := PySem.Value.str (PySem.Str.ofString "RETURN") 199, val := PySem.Value.int 13 198 },
             { hash := PySem.PyData.keyHash P (PySem.Str.ofString "MOST_FIGURES"), key := PySem.Value.str (PySem.Str.ofString "MOST_FIGURES") 201, val := PySem.Value.int 20 200 },
             { hash := PySem.PyData.keyHash P (PySem.Str.ofString "is_figure"), key := PySem.Value.str (PySem.Str.ofString "is_figure") 208, val := PySem.Value.ref 28 },
             { hash := PySem.PyData.keyHash P (PySem.Str.ofString "Cursor"), key := PySem.Value.str (PySem.Str.ofString "Cursor") 339, val := PySem.Value.ref 131 },
             { hash := PySem.PyData.keyHash P (PySem.Str.ofString "PaperError"), key := PySem.Value.str (PySem.Str.ofString "PaperError") 381, val := PySem.Value.ref 160 },
             { hash := PySem.PyData.keyHash P (PySem.Str.ofString "CrossFault"), key := PySem.Value.str (PySem.Str.ofString "CrossFault") 397, val := PySem.Value.ref 173 },
             { hash := PySem.PyData.keyHash P (PySem.Str.ofString "MOST_GENERATION"), key := PySem.Value.str (PySem.Str.ofString "MOST_GENERATION") 401, val := PySem.Value.int 65535 400 },
             { hash := PySem.PyData.keyHash P (PySem.Str.ofString "BLANK"), key := PySem.Value.str (PySem.Str.ofString "BLANK") 403, val := PySem.Value.int 32 402 },
             { hash := PySem.PyData.keyHash P (PySem.Str.ofString "LETTER_F"), key := PySem.Value.str (PySem.Str.ofString "LETTER_F") 405, val := PySem.Value.int 102 404 },
             { hash := PySem.PyData.keyHash P (PySem.Str.ofString "LETTER_N"), key := PySem.Value.str (PySem.Str.ofString "LETTER_N") 407, val := PySem.Value.int 110 406 },
             { hash := PySem.PyData.keyHash P (PySem.Str.ofString "Entry"), key := PySem.Value.str (PySem.Str.ofString "Entry") 447, val := PySem.Value.ref 199 },
             { hash := PySem.PyData.keyHash P (PySem.Str.ofString "take_figures"), key := PySem.Value.str (PySem.Str.ofString "take_figures") 457, val := PySem.Value.ref 210 },
             { hash := PySem.PyData.keyHash P (PySem.Str.ofString "take_blank"), key := PySem.Value.str (PySem.Str.ofString "take_blank") 464, val := PySem.Value.ref 217 },
             { hash := PySem.PyData.keyHash P (PySem.Str.ofString "take_entry_end"), key := PySem.Value.str (PySem.Str.ofString "take_entry_end") 472, val := PySem.Value.ref 224 },
             { hash := PySem.PyData.keyHash P (PySem.Str.ofString "take_entry"), key := PySem.Value.str (PySem.Str.ofString "take_entry") 483, val := PySem.Value.ref 231 },
             { hash := PySem.PyData.keyHash P (PySem.Str.ofString "_law_pen"), key := PySem.Value.str (PySem.Str.ofString "_law_pen") 491, val := PySem.Value.ref 236 },
             { hash := PySem.PyData.keyHash P (PySem.Str.ofString "_law_draw"), key := PySem.Value.str (PySem.Str.ofString "_law_draw") 500, val := PySem.Value.ref 243 },
             { hash := PySem.PyData.keyHash P (PySem.Str.ofString "_law_pick"), key := PySem.Value.str (PySem.Str.ofString "_law_pick") 508, val := PySem.Value.ref 250 },
             { hash := PySem.PyData.keyHash P (PySem.Str.ofString "_law_columns"), key := PySem.Value.str (PySem.Str.ofString "_law_columns") 522, val := PySem.Value.ref 257 },
             { hash := PySem.PyData.keyHash P (PySem.Str.ofString "_law_end"), key := PySem.Value.str (PySem.Str.ofString "_law_end") 529, val := PySem.Value.ref 264 },
             { hash := PySem.PyData.keyHash P (PySem.Str.ofString "_law_heard"), key := PySem.Value.str (PySem.Str.ofString "_law_heard") 541, val := PySem.Value.ref 271 },
             { hash := PySem.PyData.keyHash P (PySem.Str.ofString "law"), key := PySem.Value.str (PySem.Str.ofString "law") 547, val := PySem.Value.ref 276 }]
           33 })) ::
   (nat_lit 15, (
     { cls := PySem.Value.type "tuple", data := PySem.Data.seq #[] })) ::
   (nat_lit 17, (
     { cls := PySem.Value.type "tuple", data := PySem.Data.seq #[PySem.Value.str (PySem.Str.ofString "k") 190] })) ::
   (nat_lit 18, (
     { cls := PySem.Value.type "tuple", data := PySem.Data.seq #[] })) ::
   (nat_lit 20, (
     { cls := PySem.Value.type "code",
       data :=
         PySem.Data.fields
           #[PySem.Value.str (PySem.Str.ofString "_wall") 187, PySem.Value.str (PySem.Str.ofString "_wall") 188, PySem.Value.str (PySem.Str.ofString "/claim/cut.py") 189, PySem.Value.int 1 0, PySem.Value.int 1 0, PySem.Value.int 0 0,
             PySem.Value.int 0 0, PySem.Value.int 3 0, PySem.Value.ref 15, PySem.Value.bool Bool.true, PySem.Value.int 181 0, PySem.Value.ref 16, PySem.Value.none, PySem.Value.ref 17, PySem.Value.ref 18, PySem.Value.ref 19,
             PySem.Value.int 191 0, PySem.Value.int 1 0, PySem.Value.str (PySem.Str.ofString "/claim/cut.py") 192] })) ::
   (nat_lit 21, (
     { cls := PySem.Value.type "function",
       data :=
         PySem.Data.func
           { name := PySem.Str.ofString "_wall", qualname := PySem.Str.ofString "_wall", params := parOf (st 0), body := PySem.FuncBody.stmts (inner (st 0)), scope := scoOf (st 0), globals := 3, closure := [],
             defaults := PySem.Value.none, kwdefaults := PySem.Value.none, pyModule := PySem.Value.str (PySem.Str.ofString "__main__") 164, code := PySem.Value.ref 20 } })) ::
   (nat_lit 22, (
     { cls := PySem.Value.type "tuple", data := PySem.Data.seq #[] })) ::
   (nat_lit 24, (
     { cls := PySem.Value.type "tuple", data := PySem.Data.seq #[PySem.Value.str (PySem.Str.ofString "code") 205] })) ::
   (nat_lit 25, (
     { cls := PySem.Value.type "tuple", data := PySem.Data.seq #[] })) ::
   (nat_lit 27, (
     { cls := PySem.Value.type "code",
       data :=
         PySem.Data.fields
           #[PySem.Value.str (PySem.Str.ofString "is_figure") 202, PySem.Value.str (PySem.Str.ofString "is_figure") 203, PySem.Value.str (PySem.Str.ofString "/claim/cut.py") 204, PySem.Value.int 8 0, PySem.Value.int 1 0, PySem.Value.int 0 0,
             PySem.Value.int 0 0, PySem.Value.int 3 0, PySem.Value.ref 22, PySem.Value.bool Bool.true, PySem.Value.int 181 0, PySem.Value.ref 23, PySem.Value.none, PySem.Value.ref 24, PySem.Value.ref 25, PySem.Value.ref 26,
             PySem.Value.int 206 0, PySem.Value.int 8 0, PySem.Value.str (PySem.Str.ofString "/claim/cut.py") 207] })) ::
   (nat_lit 28, (
     { cls := PySem.Value.type "function",
       data :=
         PySem.Data.func
           { name := PySem.Str.ofString "is_figure", qualname := PySem.Str.ofString "is_figure", params := parOf (st 5), body := PySem.FuncBody.stmts (inner (st 5)), scope := scoOf (st 5), globals := 3,
             closure := [], defaults := PySem.Value.none, kwdefaults := PySem.Value.none, pyModule := PySem.Value.str (PySem.Str.ofString "paperhold.cursor") 194, code := PySem.Value.ref 27 } })) ::
   (nat_lit 36, (
     { cls := PySem.Value.type "tuple", data := PySem.Data.seq #[PySem.Value.int 0 221, PySem.Value.int (-1) 223] })) ::
   (nat_lit 37, (
     { cls := PySem.Value.type "tuple", data := PySem.Data.seq #[] })) ::
   (nat_lit 39, (
     { cls := PySem.Value.type "tuple",
       data := PySem.Data.seq #[PySem.Value.str (PySem.Str.ofString "self") 227, PySem.Value.str (PySem.Str.ofString "data") 228, PySem.Value.str (PySem.Str.ofString "at") 229, PySem.Value.str (PySem.Str.ofString "end") 230] })) ::
   (nat_lit 40, (
     { cls := PySem.Value.type "tuple", data := PySem.Data.seq #[] })) ::
   (nat_lit 42, (
     { cls := PySem.Value.type "code",
       data :=
         PySem.Data.fields
           #[PySem.Value.str (PySem.Str.ofString "__init__") 224, PySem.Value.str (PySem.Str.ofString "Cursor.__init__") 225, PySem.Value.str (PySem.Str.ofString "/claim/cut.py") 226, PySem.Value.int 12 0, PySem.Value.int 4 0,
             PySem.Value.int 0 0, PySem.Value.int 0 0, PySem.Value.int 3 0, PySem.Value.ref 37, PySem.Value.bool Bool.true, PySem.Value.int 181 0, PySem.Value.ref 38, PySem.Value.none, PySem.Value.ref 39, PySem.Value.ref 40, PySem.Value.ref 41,
             PySem.Value.int 231 0, PySem.Value.int 12 0, PySem.Value.str (PySem.Str.ofString "/claim/cut.py") 232] })) ::
   (nat_lit 43, (
     { cls := PySem.Value.type "function",
       data :=
         PySem.Data.func
           { name := PySem.Str.ofString "__init__", qualname := PySem.Str.ofString "Cursor.__init__", params := parOf (su 6 0), body := PySem.FuncBody.stmts (inner (su 6 0)), scope := scoOf (su 6 0), globals := 3,
             closure := [], defaults := PySem.Value.ref 36, kwdefaults := PySem.Value.none, pyModule := PySem.Value.str (PySem.Str.ofString "paperhold.cursor") 194, code := PySem.Value.ref 42 } })) ::
   (nat_lit 44, (
     { cls := PySem.Value.type "tuple", data := PySem.Data.seq #[] })) ::
   (nat_lit 46, (
     { cls := PySem.Value.type "tuple", data := PySem.Data.seq #[PySem.Value.str (PySem.Str.ofString "self") 237] })) ::
   (nat_lit 47, (
     { cls := PySem.Value.type "tuple", data := PySem.Data.seq #[] })) ::
   (nat_lit 49, (
     { cls := PySem.Value.type "code",
       data :=
         PySem.Data.fields
           #[PySem.Value.str (PySem.Str.ofString "is_done") 234, PySem.Value.str (PySem.Str.ofString "Cursor.is_done") 235, PySem.Value.str (PySem.Str.ofString "/claim/cut.py") 236, PySem.Value.int 17 0, PySem.Value.int 1 0, PySem.Value.int 0 0,
             PySem.Value.int 0 0, PySem.Value.int 3 0, PySem.Value.ref 44, PySem.Value.bool Bool.true, PySem.Value.int 181 0, PySem.Value.ref 45, PySem.Value.none, PySem.Value.ref 46, PySem.Value.ref 47, PySem.Value.ref 48,
             PySem.Value.int 238 0, PySem.Value.int 17 0, PySem.Value.str (PySem.Str.ofString "/claim/cut.py") 239] })) ::
   (nat_lit 50, (
     { cls := PySem.Value.type "function",
       data :=
         PySem.Data.func
           { name := PySem.Str.ofString "is_done", qualname := PySem.Str.ofString "Cursor.is_done", params := parOf (su 6 1), body := PySem.FuncBody.stmts (inner (su 6 1)), scope := scoOf (su 6 9), globals := 3,
             closure := [], defaults := PySem.Value.none, kwdefaults := PySem.Value.none, pyModule := PySem.Value.str (PySem.Str.ofString "paperhold.cursor") 194, code := PySem.Value.ref 49 } })) ::
   (nat_lit 51, (
     { cls := PySem.Value.type "tuple", data := PySem.Data.seq #[PySem.Value.int 0 241] })) ::
   (nat_lit 52, (
     { cls := PySem.Value.type "tuple", data := PySem.Data.seq #[] })) ::
   (nat_lit 54, (
     { cls := PySem.Value.type "tuple", data := PySem.Data.seq #[PySem.Value.str (PySem.Str.ofString "self") 245, PySem.Value.str (PySem.Str.ofString "ahead") 246, PySem.Value.str (PySem.Str.ofString "spot") 247] })) ::
   (nat_lit 55, (
     { cls := PySem.Value.type "tuple", data := PySem.Data.seq #[] })) ::
   (nat_lit 57, (
     { cls := PySem.Value.type "code",
       data :=
         PySem.Data.fields
           #[PySem.Value.str (PySem.Str.ofString "peek") 242, PySem.Value.str (PySem.Str.ofString "Cursor.peek") 243, PySem.Value.str (PySem.Str.ofString "/claim/cut.py") 244, PySem.Value.int 20 0, PySem.Value.int 2 0, PySem.Value.int 0 0,
             PySem.Value.int 0 0, PySem.Value.int 3 0, PySem.Value.ref 52, PySem.Value.bool Bool.true, PySem.Value.int 181 0, PySem.Value.ref 53, PySem.Value.none, PySem.Value.ref 54, PySem.Value.ref 55, PySem.Value.ref 56,
             PySem.Value.int 248 0, PySem.Value.int 20 0, PySem.Value.str (PySem.Str.ofString "/claim/cut.py") 249] })) ::
   (nat_lit 58, (
     { cls := PySem.Value.type "function",
       data :=
         PySem.Data.func
           { name := PySem.Str.ofString "peek", qualname := PySem.Str.ofString "Cursor.peek", params := parOf (su 6 2), body := PySem.FuncBody.stmts (inner (su 6 2)), scope := scoOf (su 6 2), globals := 3,
             closure := [], defaults := PySem.Value.ref 51, kwdefaults := PySem.Value.none, pyModule := PySem.Value.str (PySem.Str.ofString "paperhold.cursor") 194, code := PySem.Value.ref 57 } })) ::
   (nat_lit 59, (
     { cls := PySem.Value.type "tuple", data := PySem.Data.seq #[] })) ::
   (nat_lit 61, (
     { cls := PySem.Value.type "tuple", data := PySem.Data.seq #[PySem.Value.str (PySem.Str.ofString "self") 254, PySem.Value.str (PySem.Str.ofString "code") 255] })) ::
   (nat_lit 62, (
     { cls := PySem.Value.type "tuple", data := PySem.Data.seq #[] })) ::
   (nat_lit 64, (
     { cls := PySem.Value.type "code",
       data :=
         PySem.Data.fields
           #[PySem.Value.str (PySem.Str.ofString "take") 251, PySem.Value.str (PySem.Str.ofString "Cursor.take") 252, PySem.Value.str (PySem.Str.ofString "/claim/cut.py") 253, PySem.Value.int 24 0, PySem.Value.int 1 0, PySem.Value.int 0 0,
             PySem.Value.int 0 0, PySem.Value.int 3 0, PySem.Value.ref 59, PySem.Value.bool Bool.true, PySem.Value.int 181 0, PySem.Value.ref 60, PySem.Value.none, PySem.Value.ref 61, PySem.Value.ref 62, PySem.Value.ref 63,
             PySem.Value.int 256 0, PySem.Value.int 24 0, PySem.Value.str (PySem.Str.ofString "/claim/cut.py") 257] })) ::
   (nat_lit 65, (
     { cls := PySem.Value.type "function",
       data :=
         PySem.Data.func
           { name := PySem.Str.ofString "take", qualname := PySem.Str.ofString "Cursor.take", params := parOf (su 6 3), body := PySem.FuncBody.stmts (inner (su 6 3)), scope := scoOf (su 6 3), globals := 3,
             closure := [], defaults := PySem.Value.none, kwdefaults := PySem.Value.none, pyModule := PySem.Value.str (PySem.Str.ofString "paperhold.cursor") 194, code := PySem.Value.ref 64 } })) ::
   (nat_lit 66, (
     { cls := PySem.Value.type "tuple", data := PySem.Data.seq #[] })) ::
   (nat_lit 68, (
     { cls := PySem.Value.type "tuple", data := PySem.Data.seq #[PySem.Value.str (PySem.Str.ofString "self") 262, PySem.Value.str (PySem.Str.ofString "word") 263] })) ::
   (nat_lit 69, (
     { cls := PySem.Value.type "tuple", data := PySem.Data.seq #[] })) ::
   (nat_lit 71, (
     { cls := PySem.Value.type "code",
       data :=
         PySem.Data.fields
           #[PySem.Value.str (PySem.Str.ofString "starts") 259, PySem.Value.str (PySem.Str.ofString "Cursor.starts") 260, PySem.Value.str (PySem.Str.ofString "/claim/cut.py") 261, PySem.Value.int 31 0, PySem.Value.int 2 0, PySem.Value.int 0 0,
             PySem.Value.int 0 0, PySem.Value.int 3 0, PySem.Value.ref 66, PySem.Value.bool Bool.true, PySem.Value.int 181 0, PySem.Value.ref 67, PySem.Value.none, PySem.Value.ref 68, PySem.Value.ref 69, PySem.Value.ref 70,
             PySem.Value.int 264 0, PySem.Value.int 31 0, PySem.Value.str (PySem.Str.ofString "/claim/cut.py") 265] })) ::
   (nat_lit 72, (
     { cls := PySem.Value.type "function",
       data :=
         PySem.Data.func
           { name := PySem.Str.ofString "starts", qualname := PySem.Str.ofString "Cursor.starts", params := parOf (su 6 4), body := PySem.FuncBody.stmts (inner (su 6 4)), scope := scoOf (su 6 5), globals := 3,
             closure := [], defaults := PySem.Value.none, kwdefaults := PySem.Value.none, pyModule := PySem.Value.str (PySem.Str.ofString "paperhold.cursor") 194, code := PySem.Value.ref 71 } })) ::
   (nat_lit 73, (
     { cls := PySem.Value.type "tuple", data := PySem.Data.seq #[] })) ::
   (nat_lit 75, (
     { cls := PySem.Value.type "tuple", data := PySem.Data.seq #[PySem.Value.str (PySem.Str.ofString "self") 270, PySem.Value.str (PySem.Str.ofString "word") 271] })) ::
   (nat_lit 76, (
     { cls := PySem.Value.type "tuple", data := PySem.Data.seq #[] })) ::
   (nat_lit 78, (
     { cls := PySem.Value.type "code",
       data :=
         PySem.Data.fields
           #[PySem.Value.str (PySem.Str.ofString "skip") 267, PySem.Value.str (PySem.Str.ofString "Cursor.skip") 268, PySem.Value.str (PySem.Str.ofString "/claim/cut.py") 269, PySem.Value.int 34 0, PySem.Value.int 2 0, PySem.Value.int 0 0,
             PySem.Value.int 0 0, PySem.Value.int 3 0, PySem.Value.ref 73, PySem.Value.bool Bool.true, PySem.Value.int 181 0, PySem.Value.ref 74, PySem.Value.none, PySem.Value.ref 75, PySem.Value.ref 76, PySem.Value.ref 77,
             PySem.Value.int 272 0, PySem.Value.int 34 0, PySem.Value.str (PySem.Str.ofString "/claim/cut.py") 273] })) ::
   (nat_lit 79, (
     { cls := PySem.Value.type "function",
       data :=
         PySem.Data.func
           { name := PySem.Str.ofString "skip", qualname := PySem.Str.ofString "Cursor.skip", params := parOf (su 6 5), body := PySem.FuncBody.stmts (inner (su 6 5)), scope := scoOf (su 6 5), globals := 3,
             closure := [], defaults := PySem.Value.none, kwdefaults := PySem.Value.none, pyModule := PySem.Value.str (PySem.Str.ofString "paperhold.cursor") 194, code := PySem.Value.ref 78 } })) ::
   (nat_lit 80, (
     { cls := PySem.Value.type "tuple", data := PySem.Data.seq #[] })) ::
   (nat_lit 82, (
     { cls := PySem.Value.type "tuple", data := PySem.Data.seq #[PySem.Value.str (PySem.Str.ofString "self") 278] })) ::
   (nat_lit 83, (
     { cls := PySem.Value.type "tuple", data := PySem.Data.seq #[] })) ::
   (nat_lit 85, (
     { cls := PySem.Value.type "code",
       data :=
         PySem.Data.fields
           #[PySem.Value.str (PySem.Str.ofString "skip_white") 275, PySem.Value.str (PySem.Str.ofString "Cursor.skip_white") 276, PySem.Value.str (PySem.Str.ofString "/claim/cut.py") 277, PySem.Value.int 40 0, PySem.Value.int 1 0,
             PySem.Value.int 0 0, PySem.Value.int 0 0, PySem.Value.int 3 0, PySem.Value.ref 80, PySem.Value.bool Bool.true, PySem.Value.int 181 0, PySem.Value.ref 81, PySem.Value.none, PySem.Value.ref 82, PySem.Value.ref 83, PySem.Value.ref 84,
             PySem.Value.int 279 0, PySem.Value.int 40 0, PySem.Value.str (PySem.Str.ofString "/claim/cut.py") 280] })) ::
   (nat_lit 86, (
     { cls := PySem.Value.type "function",
       data :=
         PySem.Data.func
           { name := PySem.Str.ofString "skip_white", qualname := PySem.Str.ofString "Cursor.skip_white", params := parOf (su 6 6), body := PySem.FuncBody.stmts (inner (su 6 6)), scope := scoOf (su 6 9),
             globals := 3, closure := [], defaults := PySem.Value.none, kwdefaults := PySem.Value.none, pyModule := PySem.Value.str (PySem.Str.ofString "paperhold.cursor") 194, code := PySem.Value.ref 85 } })) ::
   (nat_lit 87, (
     { cls := PySem.Value.type "tuple", data := PySem.Data.seq #[] })) ::
   (nat_lit 89, (
     { cls := PySem.Value.type "tuple", data := PySem.Data.seq #[PySem.Value.str (PySem.Str.ofString "self") 285] })) ::
   (nat_lit 90, (
     { cls := PySem.Value.type "tuple", data := PySem.Data.seq #[] })) ::
   (nat_lit 92, (
     { cls := PySem.Value.type "code",
       data :=
         PySem.Data.fields
           #[PySem.Value.str (PySem.Str.ofString "take_regular") 282, PySem.Value.str (PySem.Str.ofString "Cursor.take_regular") 283, PySem.Value.str (PySem.Str.ofString "/claim/cut.py") 284, PySem.Value.int 43 0, PySem.Value.int 1 0,
             PySem.Value.int 0 0, PySem.Value.int 0 0, PySem.Value.int 3 0, PySem.Value.ref 87, PySem.Value.bool Bool.true, PySem.Value.int 181 0, PySem.Value.ref 88, PySem.Value.none, PySem.Value.ref 89, PySem.Value.ref 90, PySem.Value.ref 91,
             PySem.Value.int 286 0, PySem.Value.int 43 0, PySem.Value.str (PySem.Str.ofString "/claim/cut.py") 287] })) ::
   (nat_lit 93, (
     { cls := PySem.Value.type "function",
       data :=
         PySem.Data.func
           { name := PySem.Str.ofString "take_regular", qualname := PySem.Str.ofString "Cursor.take_regular", params := parOf (su 6 7), body := PySem.FuncBody.stmts (inner (su 6 7)), scope := scoOf (su 6 9),
             globals := 3, closure := [], defaults := PySem.Value.none, kwdefaults := PySem.Value.none, pyModule := PySem.Value.str (PySem.Str.ofString "paperhold.cursor") 194, code := PySem.Value.ref 92 } })) ::
   (nat_lit 94, (
     { cls := PySem.Value.type "tuple", data := PySem.Data.seq #[] })) ::
   (nat_lit 96, (
     { cls := PySem.Value.type "tuple", data := PySem.Data.seq #[PySem.Value.str (PySem.Str.ofString "self") 292] })) ::
   (nat_lit 97, (
     { cls := PySem.Value.type "tuple", data := PySem.Data.seq #[] })) ::
   (nat_lit 99, (
     { cls := PySem.Value.type "code",
       data :=
         PySem.Data.fields
           #[PySem.Value.str (PySem.Str.ofString "skip_line_end") 289, PySem.Value.str (PySem.Str.ofString "Cursor.skip_line_end") 290, PySem.Value.str (PySem.Str.ofString "/claim/cut.py") 291, PySem.Value.int 46 0, PySem.Value.int 1 0,
             PySem.Value.int 0 0, PySem.Value.int 0 0, PySem.Value.int 3 0, PySem.Value.ref 94, PySem.Value.bool Bool.true, PySem.Value.int 181 0, PySem.Value.ref 95, PySem.Value.none, PySem.Value.ref 96, PySem.Value.ref 97, PySem.Value.ref 98,
             PySem.Value.int 293 0, PySem.Value.int 46 0, PySem.Value.str (PySem.Str.ofString "/claim/cut.py") 294] })) ::
   (nat_lit 100, (
     { cls := PySem.Value.type "function",
       data :=
         PySem.Data.func
           { name := PySem.Str.ofString "skip_line_end", qualname := PySem.Str.ofString "Cursor.skip_line_end", params := parOf (su 6 8), body := PySem.FuncBody.stmts (inner (su 6 8)), scope := scoOf (su 6 8),
             globals := 3, closure := [], defaults := PySem.Value.none, kwdefaults := PySem.Value.none, pyModule := PySem.Value.str (PySem.Str.ofString "paperhold.cursor") 194, code := PySem.Value.ref 99 } })) ::
   (nat_lit 101, (
     { cls := PySem.Value.type "tuple", data := PySem.Data.seq #[] })) ::
   (nat_lit 103, (
     { cls := PySem.Value.type "tuple", data := PySem.Data.seq #[PySem.Value.str (PySem.Str.ofString "self") 299] })) ::
   (nat_lit 104, (
     { cls := PySem.Value.type "tuple", data := PySem.Data.seq #[] })) ::
   (nat_lit 106, (
     { cls := PySem.Value.type "code",
       data :=
         PySem.Data.fields
           #[PySem.Value.str (PySem.Str.ofString "take_line") 296, PySem.Value.str (PySem.Str.ofString "Cursor.take_line") 297, PySem.Value.str (PySem.Str.ofString "/claim/cut.py") 298, PySem.Value.int 57 0, PySem.Value.int 1 0,
             PySem.Value.int 0 0, PySem.Value.int 0 0, PySem.Value.int 3 0, PySem.Value.ref 101, PySem.Value.bool Bool.true, PySem.Value.int 181 0, PySem.Value.ref 102, PySem.Value.none, PySem.Value.ref 103, PySem.Value.ref 104,
             PySem.Value.ref 105, PySem.Value.int 300 0, PySem.Value.int 57 0, PySem.Value.str (PySem.Str.ofString "/claim/cut.py") 301] })) ::
   (nat_lit 107, (
     { cls := PySem.Value.type "function",
       data :=
         PySem.Data.func
           { name := PySem.Str.ofString "take_line", qualname := PySem.Str.ofString "Cursor.take_line", params := parOf (su 6 9), body := PySem.FuncBody.stmts (inner (su 6 9)), scope := scoOf (su 6 9), globals := 3,
             closure := [], defaults := PySem.Value.none, kwdefaults := PySem.Value.none, pyModule := PySem.Value.str (PySem.Str.ofString "paperhold.cursor") 194, code := PySem.Value.ref 106 } })) ::
   (nat_lit 108, (
     { cls := PySem.Value.type "tuple", data := PySem.Data.seq #[] })) ::
   (nat_lit 110, (
     { cls := PySem.Value.type "tuple", data := PySem.Data.seq #[PySem.Value.str (PySem.Str.ofString "self") 306, PySem.Value.str (PySem.Str.ofString "first") 307, PySem.Value.str (PySem.Str.ofString "number") 308] })) ::
   (nat_lit 111, (
     { cls := PySem.Value.type "tuple", data := PySem.Data.seq #[] })) ::
   (nat_lit 113, (
     { cls := PySem.Value.type "code",
       data :=
         PySem.Data.fields
           #[PySem.Value.str (PySem.Str.ofString "number") 303, PySem.Value.str (PySem.Str.ofString "Cursor.number") 304, PySem.Value.str (PySem.Str.ofString "/claim/cut.py") 305, PySem.Value.int 60 0, PySem.Value.int 1 0, PySem.Value.int 0 0,
             PySem.Value.int 0 0, PySem.Value.int 3 0, PySem.Value.ref 108, PySem.Value.bool Bool.true, PySem.Value.int 181 0, PySem.Value.ref 109, PySem.Value.none, PySem.Value.ref 110, PySem.Value.ref 111, PySem.Value.ref 112,
             PySem.Value.int 309 0, PySem.Value.int 60 0, PySem.Value.str (PySem.Str.ofString "/claim/cut.py") 310] })) ::
   (nat_lit 114, (
     { cls := PySem.Value.type "function",
       data :=
         PySem.Data.func
           { name := PySem.Str.ofString "number", qualname := PySem.Str.ofString "Cursor.number", params := parOf (su 6 10), body := PySem.FuncBody.stmts (inner (su 6 10)), scope := scoOf (su 6 10), globals := 3,
             closure := [], defaults := PySem.Value.none, kwdefaults := PySem.Value.none, pyModule := PySem.Value.str (PySem.Str.ofString "paperhold.cursor") 194, code := PySem.Value.ref 113 } })) ::
   (nat_lit 115, (
     { cls := PySem.Value.type "tuple", data := PySem.Data.seq #[] })) ::
   (nat_lit 117, (
     { cls := PySem.Value.type "tuple", data := PySem.Data.seq #[PySem.Value.str (PySem.Str.ofString "self") 315, PySem.Value.str (PySem.Str.ofString "word") 316, PySem.Value.str (PySem.Str.ofString "first") 317] })) ::
   (nat_lit 118, (
     { cls := PySem.Value.type "tuple", data := PySem.Data.seq #[] })) ::
   (nat_lit 120, (
     { cls := PySem.Value.type "code",
       data :=
         PySem.Data.fields
           #[PySem.Value.str (PySem.Str.ofString "find") 312, PySem.Value.str (PySem.Str.ofString "Cursor.find") 313, PySem.Value.str (PySem.Str.ofString "/claim/cut.py") 314, PySem.Value.int 70 0, PySem.Value.int 3 0, PySem.Value.int 0 0,
             PySem.Value.int 0 0, PySem.Value.int 3 0, PySem.Value.ref 115, PySem.Value.bool Bool.true, PySem.Value.int 181 0, PySem.Value.ref 116, PySem.Value.none, PySem.Value.ref 117, PySem.Value.ref 118, PySem.Value.ref 119,
             PySem.Value.int 318 0, PySem.Value.int 70 0, PySem.Value.str (PySem.Str.ofString "/claim/cut.py") 319] })) ::
   (nat_lit 121, (
     { cls := PySem.Value.type "function",
       data :=
         PySem.Data.func
           { name := PySem.Str.ofString "find", qualname := PySem.Str.ofString "Cursor.find", params := parOf (su 6 11), body := PySem.FuncBody.stmts (inner (su 6 11)), scope := scoOf (su 6 11), globals := 3,
             closure := [], defaults := PySem.Value.none, kwdefaults := PySem.Value.none, pyModule := PySem.Value.str (PySem.Str.ofString "paperhold.cursor") 194, code := PySem.Value.ref 120 } })) ::
   (nat_lit 122, (
     { cls := PySem.Value.type "tuple", data := PySem.Data.seq #[] })) ::
   (nat_lit 124, (
     { cls := PySem.Value.type "tuple", data := PySem.Data.seq #[PySem.Value.str (PySem.Str.ofString "self") 324, PySem.Value.str (PySem.Str.ofString "word") 325] })) ::
   (nat_lit 125, (
     { cls := PySem.Value.type "tuple", data := PySem.Data.seq #[] })) ::
   (nat_lit 127, (
     { cls := PySem.Value.type "code",
       data :=
         PySem.Data.fields
           #[PySem.Value.str (PySem.Str.ofString "find_last") 321, PySem.Value.str (PySem.Str.ofString "Cursor.find_last") 322, PySem.Value.str (PySem.Str.ofString "/claim/cut.py") 323, PySem.Value.int 73 0, PySem.Value.int 2 0,
             PySem.Value.int 0 0, PySem.Value.int 0 0, PySem.Value.int 3 0, PySem.Value.ref 122, PySem.Value.bool Bool.true, PySem.Value.int 181 0, PySem.Value.ref 123, PySem.Value.none, PySem.Value.ref 124, PySem.Value.ref 125,
             PySem.Value.ref 126, PySem.Value.int 326 0, PySem.Value.int 73 0, PySem.Value.str (PySem.Str.ofString "/claim/cut.py") 327] })) ::
   (nat_lit 128, (
     { cls := PySem.Value.type "function",
       data :=
         PySem.Data.func
           { name := PySem.Str.ofString "find_last", qualname := PySem.Str.ofString "Cursor.find_last", params := parOf (su 6 12), body := PySem.FuncBody.stmts (inner (su 6 12)), scope := scoOf (su 6 12),
             globals := 3, closure := [], defaults := PySem.Value.none, kwdefaults := PySem.Value.none, pyModule := PySem.Value.str (PySem.Str.ofString "paperhold.cursor") 194, code := PySem.Value.ref 127 } })) ::
   (nat_lit 129, (
     { cls := PySem.Value.type "tuple", data := PySem.Data.seq #[PySem.Value.str (PySem.Str.ofString "at") 329, PySem.Value.str (PySem.Str.ofString "data") 330, PySem.Value.str (PySem.Str.ofString "end") 331] })) ::
   (nat_lit 130, (
     { cls := PySem.Value.type "dict",
       data :=
         PySem.Data.dict
           #[{ hash := PySem.PyData.keyHash P (PySem.Str.ofString "__module__"), key := PySem.Value.str (PySem.Str.ofString "__module__") 216, val := PySem.Value.str (PySem.Str.ofString "paperhold.cursor") 194 },
             { hash := PySem.PyData.keyHash P (PySem.Str.ofString "__firstlineno__"), key := PySem.Value.str (PySem.Str.ofString "__firstlineno__") 220, val := PySem.Value.int 10 219 },
             { hash := PySem.PyData.keyHash P (PySem.Str.ofString "__init__"), key := PySem.Value.str (PySem.Str.ofString "__init__") 233, val := PySem.Value.ref 43 },
             { hash := PySem.PyData.keyHash P (PySem.Str.ofString "is_done"), key := PySem.Value.str (PySem.Str.ofString "is_done") 240, val := PySem.Value.ref 50 },
             { hash := PySem.PyData.keyHash P (PySem.Str.ofString "peek"), key := PySem.Value.str (PySem.Str.ofString "peek") 250, val := PySem.Value.ref 58 },
             { hash := PySem.PyData.keyHash P (PySem.Str.ofString "take"), key := PySem.Value.str (PySem.Str.ofString "take") 258, val := PySem.Value.ref 65 },
             { hash := PySem.PyData.keyHash P (PySem.Str.ofString "starts"), key := PySem.Value.str (PySem.Str.ofString "starts") 266, val := PySem.Value.ref 72 },
             { hash := PySem.PyData.keyHash P (PySem.Str.ofString "skip"), key := PySem.Value.str (PySem.Str.ofString "skip") 274, val := PySem.Value.ref 79 },
             { hash := PySem.PyData.keyHash P (PySem.Str.ofString "skip_white"), key := PySem.Value.str (PySem.Str.ofString "skip_white") 281, val := PySem.Value.ref 86 },
             { hash := PySem.PyData.keyHash P (PySem.Str.ofString "take_regular"), key := PySem.Value.str (PySem.Str.ofString "take_regular") 288, val := PySem.Value.ref 93 },
             { hash := PySem.PyData.keyHash P (PySem.Str.ofString "skip_line_end"), key := PySem.Value.str (PySem.Str.ofString "skip_line_end") 295, val := PySem.Value.ref 100 },
             { hash := PySem.PyData.keyHash P (PySem.Str.ofString "take_line"), key := PySem.Value.str (PySem.Str.ofString "take_line") 302, val := PySem.Value.ref 107 },
             { hash := PySem.PyData.keyHash P (PySem.Str.ofString "number"), key := PySem.Value.str (PySem.Str.ofString "number") 311, val := PySem.Value.ref 114 },
             { hash := PySem.PyData.keyHash P (PySem.Str.ofString "find"), key := PySem.Value.str (PySem.Str.ofString "find") 320, val := PySem.Value.ref 121 },
             { hash := PySem.PyData.keyHash P (PySem.Str.ofString "find_last"), key := PySem.Value.str (PySem.Str.ofString "find_last") 328, val := PySem.Value.ref 128 },
             { hash := PySem.PyData.keyHash P (PySem.Str.ofString "__static_attributes__"), key := PySem.Value.str (PySem.Str.ofString "__static_attributes__") 332, val := PySem.Value.ref 129 },
             { hash := PySem.PyData.keyHash P (PySem.Str.ofString "__dict__"), key := PySem.Value.str (PySem.Str.ofString "__dict__") 334, val := PySem.Value.ref 132 },
             { hash := PySem.PyData.keyHash P (PySem.Str.ofString "__weakref__"), key := PySem.Value.str (PySem.Str.ofString "__weakref__") 336, val := PySem.Value.ref 133 },
             { hash := PySem.PyData.keyHash P (PySem.Str.ofString "__doc__"), key := PySem.Value.str (PySem.Str.ofString "__doc__") 337, val := PySem.Value.none }]
           4 })) ::
   (nat_lit 131, (
     { cls := PySem.Value.type "type",
       data := PySem.Data.cls { name := PySem.Str.ofString "Cursor", bases := [PySem.Value.type "object"], mro := [PySem.Value.ref 131, PySem.Value.type "object"], ns := 130, qualname := PySem.Str.ofString "Cursor" },
       slots :=
         #[Option.none, Option.none, Option.some (PySem.Value.str (PySem.Str.ofString "Cursor") 209), Option.some (PySem.Value.str (PySem.Str.ofString "Cursor") 217), Option.some (PySem.Value.builtin "object.__new__"),
           Option.some (PySem.Value.bool Bool.true)] })) ::
   (nat_lit 132, (
     { cls := PySem.Value.type "getset_descriptor", data := PySem.Data.fields #[PySem.Value.str (PySem.Str.ofString "__dict__") 333, PySem.Value.ref 131, PySem.Value.builtin "function.__dict__", PySem.Value.builtin "function.__dict__#set"] })) ::
   (nat_lit 133, (
     { cls := PySem.Value.type "getset_descriptor", data := PySem.Data.fields #[PySem.Value.str (PySem.Str.ofString "__weakref__") 335, PySem.Value.ref 131, PySem.Value.builtin "ExceptionGroup.__weakref__", PySem.Value.none] })) ::
   (nat_lit 136, (
     { cls := PySem.Value.type "tuple", data := PySem.Data.seq #[PySem.Value.type "Exception"] })) ::
   (nat_lit 143, (
     { cls := PySem.Value.type "tuple", data := PySem.Data.seq #[PySem.Value.int (-1) 355] })) ::
   (nat_lit 144, (
     { cls := PySem.Value.type "tuple", data := PySem.Data.seq #[] })) ::
   (nat_lit 146, (
     { cls := PySem.Value.type "tuple", data := PySem.Data.seq #[PySem.Value.str (PySem.Str.ofString "self") 359, PySem.Value.str (PySem.Str.ofString "what") 360, PySem.Value.str (PySem.Str.ofString "at") 361] })) ::
   (nat_lit 147, (
     { cls := PySem.Value.type "tuple", data := PySem.Data.seq #[] })) ::
   (nat_lit 149, (
     { cls := PySem.Value.type "code",
       data :=
         PySem.Data.fields
           #[PySem.Value.str (PySem.Str.ofString "__init__") 356, PySem.Value.str (PySem.Str.ofString "PaperError.__init__") 357, PySem.Value.str (PySem.Str.ofString "/claim/cut.py") 358, PySem.Value.int 78 0, PySem.Value.int 3 0,
             PySem.Value.int 0 0, PySem.Value.int 0 0, PySem.Value.int 3 0, PySem.Value.ref 144, PySem.Value.bool Bool.true, PySem.Value.int 181 0, PySem.Value.ref 145, PySem.Value.none, PySem.Value.ref 146, PySem.Value.ref 147,
             PySem.Value.ref 148, PySem.Value.int 362 0, PySem.Value.int 78 0, PySem.Value.str (PySem.Str.ofString "/claim/cut.py") 363] })) ::
   (nat_lit 150, (
     { cls := PySem.Value.type "function",
       data :=
         PySem.Data.func
           { name := PySem.Str.ofString "__init__", qualname := PySem.Str.ofString "PaperError.__init__", params := parOf (su 8 0), body := PySem.FuncBody.stmts (inner (su 8 0)), scope := scoOf (su 8 0),
             globals := 3, closure := [], defaults := PySem.Value.ref 143, kwdefaults := PySem.Value.none, pyModule := PySem.Value.str (PySem.Str.ofString "paperhold.errors") 340, code := PySem.Value.ref 149 } })) ::
   (nat_lit 151, (
     { cls := PySem.Value.type "tuple", data := PySem.Data.seq #[] })) ::
   (nat_lit 153, (
     { cls := PySem.Value.type "tuple", data := PySem.Data.seq #[PySem.Value.str (PySem.Str.ofString "self") 368] })) ::
   (nat_lit 154, (
     { cls := PySem.Value.type "tuple", data := PySem.Data.seq #[] })) ::
   (nat_lit 156, (
     { cls := PySem.Value.type "code",
       data :=
         PySem.Data.fields
           #[PySem.Value.str (PySem.Str.ofString "told") 365, PySem.Value.str (PySem.Str.ofString "PaperError.told") 366, PySem.Value.str (PySem.Str.ofString "/claim/cut.py") 367, PySem.Value.int 83 0, PySem.Value.int 1 0, PySem.Value.int 0 0,
             PySem.Value.int 0 0, PySem.Value.int 3 0, PySem.Value.ref 151, PySem.Value.bool Bool.true, PySem.Value.int 181 0, PySem.Value.ref 152, PySem.Value.none, PySem.Value.ref 153, PySem.Value.ref 154, PySem.Value.ref 155,
             PySem.Value.int 369 0, PySem.Value.int 83 0, PySem.Value.str (PySem.Str.ofString "/claim/cut.py") 370] })) ::
   (nat_lit 157, (
     { cls := PySem.Value.type "function",
       data :=
         PySem.Data.func
           { name := PySem.Str.ofString "told", qualname := PySem.Str.ofString "PaperError.told", params := parOf (su 8 1), body := PySem.FuncBody.stmts (inner (su 8 1)), scope := scoOf (su 15 1), globals := 3,
             closure := [], defaults := PySem.Value.none, kwdefaults := PySem.Value.none, pyModule := PySem.Value.str (PySem.Str.ofString "paperhold.errors") 340, code := PySem.Value.ref 156 } })) ::
   (nat_lit 158, (
     { cls := PySem.Value.type "tuple", data := PySem.Data.seq #[PySem.Value.str (PySem.Str.ofString "at") 372, PySem.Value.str (PySem.Str.ofString "what") 373] })) ::
   (nat_lit 159, (
     { cls := PySem.Value.type "dict",
       data :=
         PySem.Data.dict
           #[{ hash := PySem.PyData.keyHash P (PySem.Str.ofString "__module__"), key := PySem.Value.str (PySem.Str.ofString "__module__") 349, val := PySem.Value.str (PySem.Str.ofString "paperhold.errors") 340 },
             { hash := PySem.PyData.keyHash P (PySem.Str.ofString "__firstlineno__"), key := PySem.Value.str (PySem.Str.ofString "__firstlineno__") 353, val := PySem.Value.int 76 352 },
             { hash := PySem.PyData.keyHash P (PySem.Str.ofString "__init__"), key := PySem.Value.str (PySem.Str.ofString "__init__") 364, val := PySem.Value.ref 150 },
             { hash := PySem.PyData.keyHash P (PySem.Str.ofString "told"), key := PySem.Value.str (PySem.Str.ofString "told") 371, val := PySem.Value.ref 157 },
             { hash := PySem.PyData.keyHash P (PySem.Str.ofString "__static_attributes__"), key := PySem.Value.str (PySem.Str.ofString "__static_attributes__") 374, val := PySem.Value.ref 158 },
             { hash := PySem.PyData.keyHash P (PySem.Str.ofString "__weakref__"), key := PySem.Value.str (PySem.Str.ofString "__weakref__") 376, val := PySem.Value.ref 161 },
             { hash := PySem.PyData.keyHash P (PySem.Str.ofString "__doc__"), key := PySem.Value.str (PySem.Str.ofString "__doc__") 377, val := PySem.Value.none }]
           3 })) ::
   (nat_lit 160, (
     { cls := PySem.Value.type "type",
       data :=
         PySem.Data.cls
           { name := PySem.Str.ofString "PaperError", bases := [PySem.Value.type "Exception"], mro := [PySem.Value.ref 160, PySem.Value.type "Exception", PySem.Value.type "BaseException", PySem.Value.type "object"], ns := 159,
             qualname := PySem.Str.ofString "PaperError", subclasses := [PySem.Value.ref 173] },
       slots :=
         #[Option.some (PySem.Value.ref 136), Option.none, Option.some (PySem.Value.str (PySem.Str.ofString "PaperError") 342), Option.some (PySem.Value.str (PySem.Str.ofString "PaperError") 350),
           Option.some (PySem.Value.builtin "Exception.__new__"), Option.some (PySem.Value.bool Bool.true)] })) ::
   (nat_lit 161, (
     { cls := PySem.Value.type "getset_descriptor", data := PySem.Data.fields #[PySem.Value.str (PySem.Str.ofString "__weakref__") 375, PySem.Value.ref 160, PySem.Value.builtin "ExceptionGroup.__weakref__", PySem.Value.none] })) ::
   (nat_lit 164, (
     { cls := PySem.Value.type "tuple", data := PySem.Data.seq #[PySem.Value.ref 160] })) ::
   (nat_lit 171, (
     { cls := PySem.Value.type "tuple", data := PySem.Data.seq #[] })) ::
   (nat_lit 172, (
     { cls := PySem.Value.type "dict",
       data :=
         PySem.Data.dict
           #[{ hash := PySem.PyData.keyHash P (PySem.Str.ofString "__module__"), key := PySem.Value.str (PySem.Str.ofString "__module__") 389, val := PySem.Value.str (PySem.Str.ofString "paperhold.errors") 340 },
             { hash := PySem.PyData.keyHash P (PySem.Str.ofString "__firstlineno__"), key := PySem.Value.str (PySem.Str.ofString "__firstlineno__") 393, val := PySem.Value.int 85 392 },
             { hash := PySem.PyData.keyHash P (PySem.Str.ofString "__static_attributes__"), key := PySem.Value.str (PySem.Str.ofString "__static_attributes__") 394, val := PySem.Value.ref 171 },
             { hash := PySem.PyData.keyHash P (PySem.Str.ofString "__doc__"), key := PySem.Value.str (PySem.Str.ofString "__doc__") 395, val := PySem.Value.none }]
           2 })) ::
   (nat_lit 173, (
     { cls := PySem.Value.type "type",
       data :=
         PySem.Data.cls
           { name := PySem.Str.ofString "CrossFault", bases := [PySem.Value.ref 160], mro := [PySem.Value.ref 173, PySem.Value.ref 160, PySem.Value.type "Exception", PySem.Value.type "BaseException", PySem.Value.type "object"], ns := 172,
             qualname := PySem.Str.ofString "CrossFault" },
       slots :=
         #[Option.some (PySem.Value.ref 164), Option.none, Option.some (PySem.Value.str (PySem.Str.ofString "CrossFault") 382), Option.some (PySem.Value.str (PySem.Str.ofString "CrossFault") 390),
           Option.some (PySem.Value.builtin "Exception.__new__"), Option.some (PySem.Value.bool Bool.true)] })) ::
   (nat_lit 183, (
     { cls := PySem.Value.type "tuple", data := PySem.Data.seq #[] })) ::
   (nat_lit 185, (
     { cls := PySem.Value.type "tuple",
       data := PySem.Data.seq #[PySem.Value.str (PySem.Str.ofString "self") 423, PySem.Value.str (PySem.Str.ofString "way") 424, PySem.Value.str (PySem.Str.ofString "one") 425, PySem.Value.str (PySem.Str.ofString "two") 426] })) ::
   (nat_lit 186, (
     { cls := PySem.Value.type "tuple", data := PySem.Data.seq #[] })) ::
   (nat_lit 188, (
     { cls := PySem.Value.type "code",
       data :=
         PySem.Data.fields
           #[PySem.Value.str (PySem.Str.ofString "__init__") 420, PySem.Value.str (PySem.Str.ofString "Entry.__init__") 421, PySem.Value.str (PySem.Str.ofString "/claim/cut.py") 422, PySem.Value.int 94 0, PySem.Value.int 4 0,
             PySem.Value.int 0 0, PySem.Value.int 0 0, PySem.Value.int 3 0, PySem.Value.ref 183, PySem.Value.bool Bool.true, PySem.Value.int 181 0, PySem.Value.ref 184, PySem.Value.none, PySem.Value.ref 185, PySem.Value.ref 186,
             PySem.Value.ref 187, PySem.Value.int 427 0, PySem.Value.int 94 0, PySem.Value.str (PySem.Str.ofString "/claim/cut.py") 428] })) ::
   (nat_lit 189, (
     { cls := PySem.Value.type "function",
       data :=
         PySem.Data.func
           { name := PySem.Str.ofString "__init__", qualname := PySem.Str.ofString "Entry.__init__", params := parOf (su 15 0), body := PySem.FuncBody.stmts (inner (su 15 0)), scope := scoOf (su 15 0), globals := 3,
             closure := [], defaults := PySem.Value.none, kwdefaults := PySem.Value.none, pyModule := PySem.Value.str (PySem.Str.ofString "paperhold.cross") 398, code := PySem.Value.ref 188 } })) ::
   (nat_lit 190, (
     { cls := PySem.Value.type "tuple", data := PySem.Data.seq #[] })) ::
   (nat_lit 192, (
     { cls := PySem.Value.type "tuple", data := PySem.Data.seq #[PySem.Value.str (PySem.Str.ofString "self") 433] })) ::
   (nat_lit 193, (
     { cls := PySem.Value.type "tuple", data := PySem.Data.seq #[] })) ::
   (nat_lit 195, (
     { cls := PySem.Value.type "code",
       data :=
         PySem.Data.fields
           #[PySem.Value.str (PySem.Str.ofString "told") 430, PySem.Value.str (PySem.Str.ofString "Entry.told") 431, PySem.Value.str (PySem.Str.ofString "/claim/cut.py") 432, PySem.Value.int 99 0, PySem.Value.int 1 0, PySem.Value.int 0 0,
             PySem.Value.int 0 0, PySem.Value.int 3 0, PySem.Value.ref 190, PySem.Value.bool Bool.true, PySem.Value.int 181 0, PySem.Value.ref 191, PySem.Value.none, PySem.Value.ref 192, PySem.Value.ref 193, PySem.Value.ref 194,
             PySem.Value.int 434 0, PySem.Value.int 99 0, PySem.Value.str (PySem.Str.ofString "/claim/cut.py") 435] })) ::
   (nat_lit 196, (
     { cls := PySem.Value.type "function",
       data :=
         PySem.Data.func
           { name := PySem.Str.ofString "told", qualname := PySem.Str.ofString "Entry.told", params := parOf (su 15 1), body := PySem.FuncBody.stmts (inner (su 15 1)), scope := scoOf (su 15 1), globals := 3,
             closure := [], defaults := PySem.Value.none, kwdefaults := PySem.Value.none, pyModule := PySem.Value.str (PySem.Str.ofString "paperhold.cross") 398, code := PySem.Value.ref 195 } })) ::
   (nat_lit 197, (
     { cls := PySem.Value.type "tuple", data := PySem.Data.seq #[PySem.Value.str (PySem.Str.ofString "one") 437, PySem.Value.str (PySem.Str.ofString "two") 438, PySem.Value.str (PySem.Str.ofString "way") 439] })) ::
   (nat_lit 198, (
     { cls := PySem.Value.type "dict",
       data :=
         PySem.Data.dict
           #[{ hash := PySem.PyData.keyHash P (PySem.Str.ofString "__module__"), key := PySem.Value.str (PySem.Str.ofString "__module__") 415, val := PySem.Value.str (PySem.Str.ofString "paperhold.cross") 398 },
             { hash := PySem.PyData.keyHash P (PySem.Str.ofString "__firstlineno__"), key := PySem.Value.str (PySem.Str.ofString "__firstlineno__") 419, val := PySem.Value.int 92 418 },
             { hash := PySem.PyData.keyHash P (PySem.Str.ofString "__init__"), key := PySem.Value.str (PySem.Str.ofString "__init__") 429, val := PySem.Value.ref 189 },
             { hash := PySem.PyData.keyHash P (PySem.Str.ofString "told"), key := PySem.Value.str (PySem.Str.ofString "told") 436, val := PySem.Value.ref 196 },
             { hash := PySem.PyData.keyHash P (PySem.Str.ofString "__static_attributes__"), key := PySem.Value.str (PySem.Str.ofString "__static_attributes__") 440, val := PySem.Value.ref 197 },
             { hash := PySem.PyData.keyHash P (PySem.Str.ofString "__dict__"), key := PySem.Value.str (PySem.Str.ofString "__dict__") 442, val := PySem.Value.ref 200 },
             { hash := PySem.PyData.keyHash P (PySem.Str.ofString "__weakref__"), key := PySem.Value.str (PySem.Str.ofString "__weakref__") 444, val := PySem.Value.ref 201 },
             { hash := PySem.PyData.keyHash P (PySem.Str.ofString "__doc__"), key := PySem.Value.str (PySem.Str.ofString "__doc__") 445, val := PySem.Value.none }]
           4 })) ::
   (nat_lit 199, (
     { cls := PySem.Value.type "type",
       data := PySem.Data.cls { name := PySem.Str.ofString "Entry", bases := [PySem.Value.type "object"], mro := [PySem.Value.ref 199, PySem.Value.type "object"], ns := 198, qualname := PySem.Str.ofString "Entry" },
       slots :=
         #[Option.none, Option.none, Option.some (PySem.Value.str (PySem.Str.ofString "Entry") 408), Option.some (PySem.Value.str (PySem.Str.ofString "Entry") 416), Option.some (PySem.Value.builtin "object.__new__"),
           Option.some (PySem.Value.bool Bool.true)] })) ::
   (nat_lit 200, (
     { cls := PySem.Value.type "getset_descriptor", data := PySem.Data.fields #[PySem.Value.str (PySem.Str.ofString "__dict__") 441, PySem.Value.ref 199, PySem.Value.builtin "function.__dict__", PySem.Value.builtin "function.__dict__#set"] })) ::
   (nat_lit 201, (
     { cls := PySem.Value.type "getset_descriptor", data := PySem.Data.fields #[PySem.Value.str (PySem.Str.ofString "__weakref__") 443, PySem.Value.ref 199, PySem.Value.builtin "ExceptionGroup.__weakref__", PySem.Value.none] })) ::
   (nat_lit 204, (
     { cls := PySem.Value.type "tuple", data := PySem.Data.seq #[] })) ::
   (nat_lit 206, (
     { cls := PySem.Value.type "tuple",
       data := PySem.Data.seq #[PySem.Value.str (PySem.Str.ofString "cursor") 451, PySem.Value.str (PySem.Str.ofString "count") 452, PySem.Value.str (PySem.Str.ofString "total") 453, PySem.Value.str (PySem.Str.ofString "turn") 454] })) ::
   (nat_lit 207, (
     { cls := PySem.Value.type "tuple", data := PySem.Data.seq #[] })) ::
   (nat_lit 209, (
     { cls := PySem.Value.type "code",
       data :=
         PySem.Data.fields
           #[PySem.Value.str (PySem.Str.ofString "take_figures") 448, PySem.Value.str (PySem.Str.ofString "take_figures") 449, PySem.Value.str (PySem.Str.ofString "/claim/cut.py") 450, PySem.Value.int 101 0, PySem.Value.int 2 0,
             PySem.Value.int 0 0, PySem.Value.int 0 0, PySem.Value.int 3 0, PySem.Value.ref 204, PySem.Value.bool Bool.true, PySem.Value.int 181 0, PySem.Value.ref 205, PySem.Value.none, PySem.Value.ref 206, PySem.Value.ref 207,
             PySem.Value.ref 208, PySem.Value.int 455 0, PySem.Value.int 101 0, PySem.Value.str (PySem.Str.ofString "/claim/cut.py") 456] })) ::
   (nat_lit 210, (
     { cls := PySem.Value.type "function",
       data :=
         PySem.Data.func
           { name := PySem.Str.ofString "take_figures", qualname := PySem.Str.ofString "take_figures", params := parOf (st 16), body := PySem.FuncBody.stmts (inner (st 16)), scope := scoOf (st 16), globals := 3,
             closure := [], defaults := PySem.Value.none, kwdefaults := PySem.Value.none, pyModule := PySem.Value.str (PySem.Str.ofString "paperhold.cross") 398, code := PySem.Value.ref 209 } })) ::
   (nat_lit 211, (
     { cls := PySem.Value.type "tuple", data := PySem.Data.seq #[] })) ::
   (nat_lit 213, (
     { cls := PySem.Value.type "tuple", data := PySem.Data.seq #[PySem.Value.str (PySem.Str.ofString "cursor") 461] })) ::
   (nat_lit 214, (
     { cls := PySem.Value.type "tuple", data := PySem.Data.seq #[] })) ::
   (nat_lit 216, (
     { cls := PySem.Value.type "code",
       data :=
         PySem.Data.fields
           #[PySem.Value.str (PySem.Str.ofString "take_blank") 458, PySem.Value.str (PySem.Str.ofString "take_blank") 459, PySem.Value.str (PySem.Str.ofString "/claim/cut.py") 460, PySem.Value.int 108 0, PySem.Value.int 1 0, PySem.Value.int 0 0,
             PySem.Value.int 0 0, PySem.Value.int 3 0, PySem.Value.ref 211, PySem.Value.bool Bool.true, PySem.Value.int 181 0, PySem.Value.ref 212, PySem.Value.none, PySem.Value.ref 213, PySem.Value.ref 214, PySem.Value.ref 215,
             PySem.Value.int 462 0, PySem.Value.int 108 0, PySem.Value.str (PySem.Str.ofString "/claim/cut.py") 463] })) ::
   (nat_lit 217, (
     { cls := PySem.Value.type "function",
       data :=
         PySem.Data.func
           { name := PySem.Str.ofString "take_blank", qualname := PySem.Str.ofString "take_blank", params := parOf (st 17), body := PySem.FuncBody.stmts (inner (st 17)), scope := scoOf (st 17), globals := 3,
             closure := [], defaults := PySem.Value.none, kwdefaults := PySem.Value.none, pyModule := PySem.Value.str (PySem.Str.ofString "paperhold.cross") 398, code := PySem.Value.ref 216 } })) ::
   (nat_lit 218, (
     { cls := PySem.Value.type "tuple", data := PySem.Data.seq #[] })) ::
   (nat_lit 220, (
     { cls := PySem.Value.type "tuple", data := PySem.Data.seq #[PySem.Value.str (PySem.Str.ofString "cursor") 468, PySem.Value.str (PySem.Str.ofString "end") 469] })) ::
   (nat_lit 221, (
     { cls := PySem.Value.type "tuple", data := PySem.Data.seq #[] })) ::
   (nat_lit 223, (
     { cls := PySem.Value.type "code",
       data :=
         PySem.Data.fields
           #[PySem.Value.str (PySem.Str.ofString "take_entry_end") 465, PySem.Value.str (PySem.Str.ofString "take_entry_end") 466, PySem.Value.str (PySem.Str.ofString "/claim/cut.py") 467, PySem.Value.int 112 0, PySem.Value.int 1 0,
             PySem.Value.int 0 0, PySem.Value.int 0 0, PySem.Value.int 3 0, PySem.Value.ref 218, PySem.Value.bool Bool.true, PySem.Value.int 181 0, PySem.Value.ref 219, PySem.Value.none, PySem.Value.ref 220, PySem.Value.ref 221,
             PySem.Value.ref 222, PySem.Value.int 470 0, PySem.Value.int 112 0, PySem.Value.str (PySem.Str.ofString "/claim/cut.py") 471] })) ::
   (nat_lit 224, (
     { cls := PySem.Value.type "function",
       data :=
         PySem.Data.func
           { name := PySem.Str.ofString "take_entry_end", qualname := PySem.Str.ofString "take_entry_end", params := parOf (st 18), body := PySem.FuncBody.stmts (inner (st 18)), scope := scoOf (st 18), globals := 3,
             closure := [], defaults := PySem.Value.none, kwdefaults := PySem.Value.none, pyModule := PySem.Value.str (PySem.Str.ofString "paperhold.cross") 398, code := PySem.Value.ref 223 } })) ::
   (nat_lit 225, (
     { cls := PySem.Value.type "tuple", data := PySem.Data.seq #[] })) ::
   (nat_lit 227, (
     { cls := PySem.Value.type "tuple",
       data :=
         PySem.Data.seq
           #[PySem.Value.str (PySem.Str.ofString "cursor") 476, PySem.Value.str (PySem.Str.ofString "one") 477, PySem.Value.str (PySem.Str.ofString "place") 478, PySem.Value.str (PySem.Str.ofString "two") 479,
             PySem.Value.str (PySem.Str.ofString "letter") 480] })) ::
   (nat_lit 228, (
     { cls := PySem.Value.type "tuple", data := PySem.Data.seq #[] })) ::
   (nat_lit 230, (
     { cls := PySem.Value.type "code",
       data :=
         PySem.Data.fields
           #[PySem.Value.str (PySem.Str.ofString "take_entry") 473, PySem.Value.str (PySem.Str.ofString "take_entry") 474, PySem.Value.str (PySem.Str.ofString "/claim/cut.py") 475, PySem.Value.int 118 0, PySem.Value.int 1 0, PySem.Value.int 0 0,
             PySem.Value.int 0 0, PySem.Value.int 3 0, PySem.Value.ref 225, PySem.Value.bool Bool.true, PySem.Value.int 181 0, PySem.Value.ref 226, PySem.Value.none, PySem.Value.ref 227, PySem.Value.ref 228, PySem.Value.ref 229,
             PySem.Value.int 481 0, PySem.Value.int 118 0, PySem.Value.str (PySem.Str.ofString "/claim/cut.py") 482] })) ::
   (nat_lit 231, (
     { cls := PySem.Value.type "function",
       data :=
         PySem.Data.func
           { name := PySem.Str.ofString "take_entry", qualname := PySem.Str.ofString "take_entry", params := parOf (st 19), body := PySem.FuncBody.stmts (inner (st 19)), scope := scoOf (st 19), globals := 3,
             closure := [], defaults := PySem.Value.none, kwdefaults := PySem.Value.none, pyModule := PySem.Value.str (PySem.Str.ofString "paperhold.cross") 398, code := PySem.Value.ref 230 } })) ::
   (nat_lit 232, (
     { cls := PySem.Value.type "tuple", data := PySem.Data.seq #[] })) ::
   (nat_lit 235, (
     { cls := PySem.Value.type "code",
       data :=
         PySem.Data.fields
           #[PySem.Value.str (PySem.Str.ofString "_law_pen") 486, PySem.Value.str (PySem.Str.ofString "_law_pen") 487, PySem.Value.str (PySem.Str.ofString "/claim/cut.py") 488, PySem.Value.int 133 0, PySem.Value.int 1 0, PySem.Value.int 0 0,
             PySem.Value.int 0 0, PySem.Value.int 3 0, PySem.Value.ref 232, PySem.Value.bool Bool.true, PySem.Value.int 181 0, PySem.Value.ref 233, PySem.Value.none, PySem.Value.none, PySem.Value.none, PySem.Value.ref 234, PySem.Value.int 489 0,
             PySem.Value.int 133 0, PySem.Value.str (PySem.Str.ofString "/claim/cut.py") 490] })) ::
   (nat_lit 236, (
     { cls := PySem.Value.type "function",
       data :=
         PySem.Data.func
           { name := PySem.Str.ofString "_law_pen", qualname := PySem.Str.ofString "_law_pen", params := parOf (st 21), body := PySem.FuncBody.stmts (inner (st 21)), scope := scoOf (st 21), globals := 3,
             closure := [], defaults := PySem.Value.none, kwdefaults := PySem.Value.none, pyModule := PySem.Value.str (PySem.Str.ofString "law_og0157_01") 484, code := PySem.Value.ref 235 } })) ::
   (nat_lit 237, (
     { cls := PySem.Value.type "tuple", data := PySem.Data.seq #[] })) ::
   (nat_lit 239, (
     { cls := PySem.Value.type "tuple", data := PySem.Data.seq #[PySem.Value.str (PySem.Str.ofString "pen") 495, PySem.Value.str (PySem.Str.ofString "many") 496, PySem.Value.str (PySem.Str.ofString "digit") 497] })) ::
   (nat_lit 240, (
     { cls := PySem.Value.type "tuple", data := PySem.Data.seq #[] })) ::
   (nat_lit 242, (
     { cls := PySem.Value.type "code",
       data :=
         PySem.Data.fields
           #[PySem.Value.str (PySem.Str.ofString "_law_draw") 492, PySem.Value.str (PySem.Str.ofString "_law_draw") 493, PySem.Value.str (PySem.Str.ofString "/claim/cut.py") 494, PySem.Value.int 135 0, PySem.Value.int 2 0, PySem.Value.int 0 0,
             PySem.Value.int 0 0, PySem.Value.int 3 0, PySem.Value.ref 237, PySem.Value.bool Bool.true, PySem.Value.int 181 0, PySem.Value.ref 238, PySem.Value.none, PySem.Value.ref 239, PySem.Value.ref 240, PySem.Value.ref 241,
             PySem.Value.int 498 0, PySem.Value.int 135 0, PySem.Value.str (PySem.Str.ofString "/claim/cut.py") 499] })) ::
   (nat_lit 243, (
     { cls := PySem.Value.type "function",
       data :=
         PySem.Data.func
           { name := PySem.Str.ofString "_law_draw", qualname := PySem.Str.ofString "_law_draw", params := parOf (st 22), body := PySem.FuncBody.stmts (inner (st 22)), scope := scoOf (st 22), globals := 3,
             closure := [], defaults := PySem.Value.none, kwdefaults := PySem.Value.none, pyModule := PySem.Value.str (PySem.Str.ofString "law_og0157_01") 484, code := PySem.Value.ref 242 } })) ::
   (nat_lit 244, (
     { cls := PySem.Value.type "tuple", data := PySem.Data.seq #[] })) ::
   (nat_lit 246, (
     { cls := PySem.Value.type "tuple", data := PySem.Data.seq #[PySem.Value.str (PySem.Str.ofString "pen") 504, PySem.Value.str (PySem.Str.ofString "some") 505] })) ::
   (nat_lit 247, (
     { cls := PySem.Value.type "tuple", data := PySem.Data.seq #[] })) ::
   (nat_lit 249, (
     { cls := PySem.Value.type "code",
       data :=
         PySem.Data.fields
           #[PySem.Value.str (PySem.Str.ofString "_law_pick") 501, PySem.Value.str (PySem.Str.ofString "_law_pick") 502, PySem.Value.str (PySem.Str.ofString "/claim/cut.py") 503, PySem.Value.int 142 0, PySem.Value.int 2 0, PySem.Value.int 0 0,
             PySem.Value.int 0 0, PySem.Value.int 3 0, PySem.Value.ref 244, PySem.Value.bool Bool.true, PySem.Value.int 181 0, PySem.Value.ref 245, PySem.Value.none, PySem.Value.ref 246, PySem.Value.ref 247, PySem.Value.ref 248,
             PySem.Value.int 506 0, PySem.Value.int 142 0, PySem.Value.str (PySem.Str.ofString "/claim/cut.py") 507] })) ::
   (nat_lit 250, (
     { cls := PySem.Value.type "function",
       data :=
         PySem.Data.func
           { name := PySem.Str.ofString "_law_pick", qualname := PySem.Str.ofString "_law_pick", params := parOf (st 23), body := PySem.FuncBody.stmts (inner (st 23)), scope := scoOf (st 23), globals := 3,
             closure := [], defaults := PySem.Value.none, kwdefaults := PySem.Value.none, pyModule := PySem.Value.str (PySem.Str.ofString "law_og0157_01") 484, code := PySem.Value.ref 249 } })) ::
   (nat_lit 251, (
     { cls := PySem.Value.type "tuple", data := PySem.Data.seq #[] })) ::
   (nat_lit 253, (
     { cls := PySem.Value.type "tuple",
       data :=
         PySem.Data.seq
           #[PySem.Value.str (PySem.Str.ofString "pen") 512, PySem.Value.str (PySem.Str.ofString "due_signs") 513, PySem.Value.str (PySem.Str.ofString "laid") 514, PySem.Value.str (PySem.Str.ofString "wrong") 515,
             PySem.Value.str (PySem.Str.ofString "column") 516, PySem.Value.str (PySem.Str.ofString "right") 517, PySem.Value.str (PySem.Str.ofString "other") 518, PySem.Value.str (PySem.Str.ofString "is_right") 519] })) ::
   (nat_lit 254, (
     { cls := PySem.Value.type "tuple", data := PySem.Data.seq #[] })) ::
   (nat_lit 256, (
     { cls := PySem.Value.type "code",
       data :=
         PySem.Data.fields
           #[PySem.Value.str (PySem.Str.ofString "_law_columns") 509, PySem.Value.str (PySem.Str.ofString "_law_columns") 510, PySem.Value.str (PySem.Str.ofString "/claim/cut.py") 511, PySem.Value.int 144 0, PySem.Value.int 2 0,
             PySem.Value.int 0 0, PySem.Value.int 0 0, PySem.Value.int 3 0, PySem.Value.ref 251, PySem.Value.bool Bool.true, PySem.Value.int 181 0, PySem.Value.ref 252, PySem.Value.none, PySem.Value.ref 253, PySem.Value.ref 254,
             PySem.Value.ref 255, PySem.Value.int 520 0, PySem.Value.int 144 0, PySem.Value.str (PySem.Str.ofString "/claim/cut.py") 521] })) ::
   (nat_lit 257, (
     { cls := PySem.Value.type "function",
       data :=
         PySem.Data.func
           { name := PySem.Str.ofString "_law_columns", qualname := PySem.Str.ofString "_law_columns", params := parOf (st 24), body := PySem.FuncBody.stmts (inner (st 24)), scope := scoOf (st 24), globals := 3,
             closure := [], defaults := PySem.Value.none, kwdefaults := PySem.Value.none, pyModule := PySem.Value.str (PySem.Str.ofString "law_og0157_01") 484, code := PySem.Value.ref 256 } })) ::
   (nat_lit 258, (
     { cls := PySem.Value.type "tuple", data := PySem.Data.seq #[] })) ::
   (nat_lit 260, (
     { cls := PySem.Value.type "tuple", data := PySem.Data.seq #[PySem.Value.str (PySem.Str.ofString "pen") 526] })) ::
   (nat_lit 261, (
     { cls := PySem.Value.type "tuple", data := PySem.Data.seq #[] })) ::
   (nat_lit 263, (
     { cls := PySem.Value.type "code",
       data :=
         PySem.Data.fields
           #[PySem.Value.str (PySem.Str.ofString "_law_end") 523, PySem.Value.str (PySem.Str.ofString "_law_end") 524, PySem.Value.str (PySem.Str.ofString "/claim/cut.py") 525, PySem.Value.int 158 0, PySem.Value.int 1 0, PySem.Value.int 0 0,
             PySem.Value.int 0 0, PySem.Value.int 3 0, PySem.Value.ref 258, PySem.Value.bool Bool.true, PySem.Value.int 181 0, PySem.Value.ref 259, PySem.Value.none, PySem.Value.ref 260, PySem.Value.ref 261, PySem.Value.ref 262,
             PySem.Value.int 527 0, PySem.Value.int 158 0, PySem.Value.str (PySem.Str.ofString "/claim/cut.py") 528] })) ::
   (nat_lit 264, (
     { cls := PySem.Value.type "function",
       data :=
         PySem.Data.func
           { name := PySem.Str.ofString "_law_end", qualname := PySem.Str.ofString "_law_end", params := parOf (st 25), body := PySem.FuncBody.stmts (inner (st 25)), scope := scoOf (st 25), globals := 3,
             closure := [], defaults := PySem.Value.none, kwdefaults := PySem.Value.none, pyModule := PySem.Value.str (PySem.Str.ofString "law_og0157_01") 484, code := PySem.Value.ref 263 } })) ::
   (nat_lit 265, (
     { cls := PySem.Value.type "tuple", data := PySem.Data.seq #[] })) ::
   (nat_lit 267, (
     { cls := PySem.Value.type "tuple",
       data :=
         PySem.Data.seq
           #[PySem.Value.str (PySem.Str.ofString "data") 533, PySem.Value.str (PySem.Str.ofString "at") 534, PySem.Value.str (PySem.Str.ofString "cursor") 535, PySem.Value.str (PySem.Str.ofString "caught") 536,
             PySem.Value.str (PySem.Str.ofString "entry") 537, PySem.Value.str (PySem.Str.ofString "fault") 538] })) ::
   (nat_lit 268, (
     { cls := PySem.Value.type "tuple", data := PySem.Data.seq #[] })) ::
   (nat_lit 270, (
     { cls := PySem.Value.type "code",
       data :=
         PySem.Data.fields
           #[PySem.Value.str (PySem.Str.ofString "_law_heard") 530, PySem.Value.str (PySem.Str.ofString "_law_heard") 531, PySem.Value.str (PySem.Str.ofString "/claim/cut.py") 532, PySem.Value.int 160 0, PySem.Value.int 2 0, PySem.Value.int 0 0,
             PySem.Value.int 0 0, PySem.Value.int 3 0, PySem.Value.ref 265, PySem.Value.bool Bool.true, PySem.Value.int 181 0, PySem.Value.ref 266, PySem.Value.none, PySem.Value.ref 267, PySem.Value.ref 268, PySem.Value.ref 269,
             PySem.Value.int 539 0, PySem.Value.int 160 0, PySem.Value.str (PySem.Str.ofString "/claim/cut.py") 540] })) ::
   (nat_lit 271, (
     { cls := PySem.Value.type "function",
       data :=
         PySem.Data.func
           { name := PySem.Str.ofString "_law_heard", qualname := PySem.Str.ofString "_law_heard", params := parOf (st 26), body := PySem.FuncBody.stmts (inner (st 26)), scope := scoOf (st 26), globals := 3,
             closure := [], defaults := PySem.Value.none, kwdefaults := PySem.Value.none, pyModule := PySem.Value.str (PySem.Str.ofString "law_og0157_01") 484, code := PySem.Value.ref 270 } })) ::
   (nat_lit 272, (
     { cls := PySem.Value.type "tuple", data := PySem.Data.seq #[] })) ::
   (nat_lit 275, (
     { cls := PySem.Value.type "code",
       data :=
         PySem.Data.fields
           #[PySem.Value.str (PySem.Str.ofString "law") 542, PySem.Value.str (PySem.Str.ofString "law") 543, PySem.Value.str (PySem.Str.ofString "/claim/cut.py") 544, PySem.Value.int 169 0, PySem.Value.int 1 0, PySem.Value.int 0 0,
             PySem.Value.int 0 0, PySem.Value.int 3 0, PySem.Value.ref 272, PySem.Value.bool Bool.true, PySem.Value.int 181 0, PySem.Value.ref 273, PySem.Value.none, PySem.Value.none, PySem.Value.none, PySem.Value.ref 274, PySem.Value.int 545 0,
             PySem.Value.int 169 0, PySem.Value.str (PySem.Str.ofString "/claim/cut.py") 546] })) ::
   (nat_lit 276, (
     { cls := PySem.Value.type "function",
       data :=
         PySem.Data.func
           { name := PySem.Str.ofString "law", qualname := PySem.Str.ofString "law", params := parOf (st 27), body := PySem.FuncBody.stmts (inner (st 27)), scope := scoOf (st 27), globals := 3, closure := [],
             defaults := PySem.Value.none, kwdefaults := PySem.Value.none, pyModule := PySem.Value.str (PySem.Str.ofString "law_og0157_01") 484, code := PySem.Value.ref 275 } })) :: []
theorem filled : (PySem.Challenge.rw_og0157_01, hd.heap_39) = (PySem.Challenge.rw_og0157_01, hd.heap_39) := by
  k_fill
  rfl
theorem raw_left : LeftO PySem.Challenge.rw_og0157_01.row.toRowW.prog hd.view_39 [Str.ofString "PaperError"] (fun s => xlAt hd.view_39 [] s && recOk PySem.Challenge.rw_og0157_01.row.records s) (kHook hd.heap_39 [nat_lit 2, nat_lit 3, nat_lit 15, nat_lit 17, nat_lit 18, nat_lit 20, nat_lit 21, nat_lit 22, nat_lit 24, nat_lit 25, nat_lit 27, nat_lit 28, nat_lit 36, nat_lit 37, nat_lit 39, nat_lit 40, nat_lit 42, nat_lit 43, nat_lit 44, nat_lit 46, nat_lit 47, nat_lit 49, nat_lit 50, nat_lit 51, nat_lit 52, nat_lit 54, nat_lit 55, nat_lit 57, nat_lit 58, nat_lit 59, nat_lit 61, nat_lit 62, nat_lit 64, nat_lit 65, nat_lit 66, nat_lit 68, nat_lit 69, nat_lit 71, nat_lit 72, nat_lit 73, nat_lit 75, nat_lit 76, nat_lit 78, nat_lit 79, nat_lit 80, nat_lit 82, nat_lit 83, nat_lit 85, nat_lit 86, nat_lit 87, nat_lit 89, nat_lit 90, nat_lit 92, nat_lit 93, nat_lit 94, nat_lit 96, nat_lit 97, nat_lit 99, nat_lit 100, nat_lit 101, nat_lit 103, nat_lit 104, nat_lit 106, nat_lit 107, nat_lit 108, nat_lit 110, nat_lit 111, nat_lit 113, nat_lit 114, nat_lit 115, nat_lit 117, nat_lit 118, nat_lit 120, nat_lit 121, nat_lit 122, nat_lit 124, nat_lit 125, nat_lit 127, nat_lit 128, nat_lit 129, nat_lit 130, nat_lit 131, nat_lit 132, nat_lit 133, nat_lit 136, nat_lit 143, nat_lit 144, nat_lit 146, nat_lit 147, nat_lit 149, nat_lit 150, nat_lit 151, nat_lit 153, nat_lit 154, nat_lit 156, nat_lit 157, nat_lit 158, nat_lit 159, nat_lit 160, nat_lit 161, nat_lit 164, nat_lit 171, nat_lit 172, nat_lit 173, nat_lit 183, nat_lit 185, nat_lit 186, nat_lit 188, nat_lit 189, nat_lit 190, nat_lit 192, nat_lit 193, nat_lit 195, nat_lit 196, nat_lit 197, nat_lit 198, nat_lit 199, nat_lit 200, nat_lit 201, nat_lit 204, nat_lit 206, nat_lit 207, nat_lit 209, nat_lit 210, nat_lit 211, nat_lit 213, nat_lit 214, nat_lit 216, nat_lit 217, nat_lit 218, nat_lit 220, nat_lit 221, nat_lit 223, nat_lit 224, nat_lit 225, nat_lit 227, nat_lit 228, nat_lit 230, nat_lit 231, nat_lit 232, nat_lit 235, nat_lit 236, nat_lit 237, nat_lit 239, nat_lit 240, nat_lit 242, nat_lit 243, nat_lit 244, nat_lit 246, nat_lit 247, nat_lit 249, nat_lit 250, nat_lit 251, nat_lit 253, nat_lit 254, nat_lit 256, nat_lit 257, nat_lit 258, nat_lit 260, nat_lit 261, nat_lit 263, nat_lit 264, nat_lit 265, nat_lit 267, nat_lit 268, nat_lit 270, nat_lit 271, nat_lit 272, nat_lit 275, nat_lit 276] (fun _ => by kernel_rfl)).obs (kHook hd.heap_39 [nat_lit 2, nat_lit 3, nat_lit 15, nat_lit 17, nat_lit 18, nat_lit 20, nat_lit 21, nat_lit 22, nat_lit 24, nat_lit 25, nat_lit 27, nat_lit 28, nat_lit 36, nat_lit 37, nat_lit 39, nat_lit 40, nat_lit 42, nat_lit 43, nat_lit 44, nat_lit 46, nat_lit 47, nat_lit 49, nat_lit 50, nat_lit 51, nat_lit 52, nat_lit 54, nat_lit 55, nat_lit 57, nat_lit 58, nat_lit 59, nat_lit 61, nat_lit 62, nat_lit 64, nat_lit 65, nat_lit 66, nat_lit 68, nat_lit 69, nat_lit 71, nat_lit 72, nat_lit 73, nat_lit 75, nat_lit 76, nat_lit 78, nat_lit 79, nat_lit 80, nat_lit 82, nat_lit 83, nat_lit 85, nat_lit 86, nat_lit 87, nat_lit 89, nat_lit 90, nat_lit 92, nat_lit 93, nat_lit 94, nat_lit 96, nat_lit 97, nat_lit 99, nat_lit 100, nat_lit 101, nat_lit 103, nat_lit 104, nat_lit 106, nat_lit 107, nat_lit 108, nat_lit 110, nat_lit 111, nat_lit 113, nat_lit 114, nat_lit 115, nat_lit 117, nat_lit 118, nat_lit 120, nat_lit 121, nat_lit 122, nat_lit 124, nat_lit 125, nat_lit 127, nat_lit 128, nat_lit 129, nat_lit 130, nat_lit 131, nat_lit 132, nat_lit 133, nat_lit 136, nat_lit 143, nat_lit 144, nat_lit 146, nat_lit 147, nat_lit 149, nat_lit 150, nat_lit 151, nat_lit 153, nat_lit 154, nat_lit 156, nat_lit 157, nat_lit 158, nat_lit 159, nat_lit 160, nat_lit 161, nat_lit 164, nat_lit 171, nat_lit 172, nat_lit 173, nat_lit 183, nat_lit 185, nat_lit 186, nat_lit 188, nat_lit 189, nat_lit 190, nat_lit 192, nat_lit 193, nat_lit 195, nat_lit 196, nat_lit 197, nat_lit 198, nat_lit 199, nat_lit 200, nat_lit 201, nat_lit 204, nat_lit 206, nat_lit 207, nat_lit 209, nat_lit 210, nat_lit 211, nat_lit 213, nat_lit 214, nat_lit 216, nat_lit 217, nat_lit 218, nat_lit 220, nat_lit 221, nat_lit 223, nat_lit 224, nat_lit 225, nat_lit 227, nat_lit 228, nat_lit 230, nat_lit 231, nat_lit 232, nat_lit 235, nat_lit 236, nat_lit 237, nat_lit 239, nat_lit 240, nat_lit 242, nat_lit 243, nat_lit 244, nat_lit 246, nat_lit 247, nat_lit 249, nat_lit 250, nat_lit 251, nat_lit 253, nat_lit 254, nat_lit 256, nat_lit 257, nat_lit 258, nat_lit 260, nat_lit 261, nat_lit 263, nat_lit 264, nat_lit 265, nat_lit 267, nat_lit 268, nat_lit 270, nat_lit 271, nat_lit 272, nat_lit 275, nat_lit 276] (fun _ => by kernel_rfl)).val 3824 := by
  intro w
  unfold openEnds fencedOpening topFrom
  rw [Fast.te14364793385576792824, Fast.te10274390034422433532, Fast.te1435165496053646825, Fast.te14289696077712309145, Fast.te14082659384304107361, Fast.te5923862056798008813, Fast.te4187177175401517315]
  kernel_rfl
end Mine
open PySem PySem.W PyProof.Rows
set_option compiler.extract_closed false
set_option maxRecDepth 100000
namespace Mine
set_option hygiene false
local macro_rules | `(tactic| walk_at "ca") => `(tactic| ((case P1 => repeat (first | exact Pull.head | apply Pull.tail)); (case P2 => repeat (first | exact Pull.head | apply Pull.tail))))
local macro_rules | `(tactic| walk_at "cb") => `(tactic| ((case B => k_asm); (case F => k_asm); (case X => k_asm); (case T => k_asm); (case hk => first | exact rfl | assumption); (case hd => ktr_room); (case hu => ktr_units)))
local macro_rules | `(tactic| walk_at "cc") => `(tactic| ((case hc => first | assumption | exact ⟨_, _, _, _, _, _, _, _, _, rfl⟩); (case hi => first | assumption | omega); (case hD => assumption); (case hdx => assumption)))
local macro_rules | `(tactic| walk_at "cd") => `(tactic| ((case hqp => assumption); (case hi => assumption); (case hlen => assumption); (case hp => k_all); (case hq => k_all)))
local macro_rules | `(tactic| walk_at "ce") => `(tactic| ((case hl => repeat (first | exact List.Mem.head _ | apply List.Mem.tail)); (case hv => exact Nat.zero_lt_succ _); (case hv2 => (simp only [List.length_cons, List.length_nil]; omega))))
local macro_rules | `(tactic| walk_at "cf") => `(tactic| ((refine' call_cls ?k1 ?k2 ?k3 ?k4 ?k5 ?k6 ?_; (case k1 => k_asm); (case k2 => k_asm); (case k3 => k_asm); (case k4 => k_is); (case k5 => k_is); (case k6 => k_is); k_whole)))
local macro_rules | `(tactic| walk_at "cg") => `(tactic| (repeat (first | exact fun _ h => h | exact List.forall_mem_nil _ | (refine sub_cons (by walk_at "cl") ?_) | apply sub_tail)))
local macro_rules | `(tactic| walk_at "ch") => `(tactic| (((try simp only [bs_length, rep_len, List.length_append, List.length_take, List.length_nil, List.length_cons]); omega)))
local macro_rules | `(tactic| walk_at "ci") => `(tactic| ((try dsimp only); (try k_sweep)))
local macro_rules | `(tactic| walk_at "cj") => `(tactic| ((k_here; (with_reducible show wpAny _ _ (pyIter (Value.ref _)) (fun it s₂ => LoopAtV _ _ _ _ _ _ _ _ _ it s₂) _ _); refine stop_here ?_)))
local macro_rules | `(tactic| walk_at "ck") => `(tactic| ((case hx => k_all); (case hx' => k_all)))
local macro_rules | `(tactic| walk_at "cl") => `(tactic| (repeat (first | exact List.Mem.head _ | apply List.Mem.tail)))
local macro_rules | `(tactic| walk_at "cm") => `(tactic| ((case N => k_asm); walk_at "ca"; walk_at "cb"; walk_at "cc"))
local macro_rules | `(tactic| walk_at "cn") => `(tactic| ((case N => k_asm); walk_at "ca"; walk_at "cb"; walk_at "cd"))
local macro_rules | `(tactic| walk_at "co") => `(tactic| ((case F => k_asm); (case N => k_asm)))
local macro_rules | `(tactic| walk_at "cp") => `(tactic| ((case N => k_asm); walk_at "cb"))
local macro_rules | `(tactic| walk_at "cq") => `(tactic| ((refine' List.forall_mem_cons.mpr ⟨?a, ?b⟩; (case a => k_ne); (case b => k_all))))
local macro_rules | `(tactic| walk_at "cr") => `(tactic| ((case h1 => exact rfl); (case h2 => exact rfl)))
local macro_rules | `(tactic| walk_at "cs") => `(tactic| ((case hi => assumption); (case hl => assumption)))
set_option hygiene true
section
open PySem PySem.W PyProof.Rows
theorem ka0 {a x : Nat} {R : Prop} (h : a < x ∧ R) : a ≠ x := Nat.ne_of_lt h.1
theorem kb0 {a x : Nat} {R : Prop} (h : a < x ∧ R) : x ≠ a := Nat.ne_of_gt h.1
theorem ka1 {a x : Nat} {P0 R : Prop} (h : P0 ∧ a < x ∧ R) : a ≠ x := Nat.ne_of_lt h.2.1
theorem kb1 {a x : Nat} {P0 R : Prop} (h : P0 ∧ a < x ∧ R) : x ≠ a := Nat.ne_of_gt h.2.1
theorem ka2 {a x : Nat} {P0 P1 R : Prop} (h : P0 ∧ P1 ∧ a < x ∧ R) : a ≠ x := Nat.ne_of_lt h.2.2.1
theorem kb2 {a x : Nat} {P0 P1 R : Prop} (h : P0 ∧ P1 ∧ a < x ∧ R) : x ≠ a := Nat.ne_of_gt h.2.2.1
theorem ka3 {a x : Nat} {P0 P1 P2 R : Prop} (h : P0 ∧ P1 ∧ P2 ∧ a < x ∧ R) : a ≠ x := Nat.ne_of_lt h.2.2.2.1
theorem kb3 {a x : Nat} {P0 P1 P2 R : Prop} (h : P0 ∧ P1 ∧ P2 ∧ a < x ∧ R) : x ≠ a := Nat.ne_of_gt h.2.2.2.1
theorem ka4 {a x : Nat} {P0 P1 P2 P3 R : Prop} (h : P0 ∧ P1 ∧ P2 ∧ P3 ∧ a < x ∧ R) : a ≠ x := Nat.ne_of_lt h.2.2.2.2.1
theorem kb4 {a x : Nat} {P0 P1 P2 P3 R : Prop} (h : P0 ∧ P1 ∧ P2 ∧ P3 ∧ a < x ∧ R) : x ≠ a := Nat.ne_of_gt h.2.2.2.2.1
theorem ka5 {a x : Nat} {P0 P1 P2 P3 P4 R : Prop} (h : P0 ∧ P1 ∧ P2 ∧ P3 ∧ P4 ∧ a < x ∧ R) : a ≠ x := Nat.ne_of_lt h.2.2.2.2.2.1
theorem kb5 {a x : Nat} {P0 P1 P2 P3 P4 R : Prop} (h : P0 ∧ P1 ∧ P2 ∧ P3 ∧ P4 ∧ a < x ∧ R) : x ≠ a := Nat.ne_of_gt h.2.2.2.2.2.1
theorem ka6 {a x : Nat} {P0 P1 P2 P3 P4 P5 R : Prop} (h : P0 ∧ P1 ∧ P2 ∧ P3 ∧ P4 ∧ P5 ∧ a < x ∧ R) : a ≠ x := Nat.ne_of_lt h.2.2.2.2.2.2.1
theorem kb6 {a x : Nat} {P0 P1 P2 P3 P4 P5 R : Prop} (h : P0 ∧ P1 ∧ P2 ∧ P3 ∧ P4 ∧ P5 ∧ a < x ∧ R) : x ≠ a := Nat.ne_of_gt h.2.2.2.2.2.2.1
theorem ka7 {a x : Nat} {P0 P1 P2 P3 P4 P5 P6 R : Prop} (h : P0 ∧ P1 ∧ P2 ∧ P3 ∧ P4 ∧ P5 ∧ P6 ∧ a < x ∧ R) : a ≠ x := Nat.ne_of_lt h.2.2.2.2.2.2.2.1
theorem kb7 {a x : Nat} {P0 P1 P2 P3 P4 P5 P6 R : Prop} (h : P0 ∧ P1 ∧ P2 ∧ P3 ∧ P4 ∧ P5 ∧ P6 ∧ a < x ∧ R) : x ≠ a := Nat.ne_of_gt h.2.2.2.2.2.2.2.1
theorem kc0 {a x : Nat} {R : Prop} (h : a ≠ x ∧ R) : a ≠ x := h.1
theorem kd0 {a x : Nat} {R : Prop} (h : a ≠ x ∧ R) : x ≠ a := Ne.symm h.1
theorem kc1 {a x : Nat} {P0 R : Prop} (h : P0 ∧ a ≠ x ∧ R) : a ≠ x := h.2.1
theorem kd1 {a x : Nat} {P0 R : Prop} (h : P0 ∧ a ≠ x ∧ R) : x ≠ a := Ne.symm h.2.1
theorem kc2 {a x : Nat} {P0 P1 R : Prop} (h : P0 ∧ P1 ∧ a ≠ x ∧ R) : a ≠ x := h.2.2.1
theorem kd2 {a x : Nat} {P0 P1 R : Prop} (h : P0 ∧ P1 ∧ a ≠ x ∧ R) : x ≠ a := Ne.symm h.2.2.1
theorem kc3 {a x : Nat} {P0 P1 P2 R : Prop} (h : P0 ∧ P1 ∧ P2 ∧ a ≠ x ∧ R) : a ≠ x := h.2.2.2.1
theorem kd3 {a x : Nat} {P0 P1 P2 R : Prop} (h : P0 ∧ P1 ∧ P2 ∧ a ≠ x ∧ R) : x ≠ a := Ne.symm h.2.2.2.1
theorem kc4 {a x : Nat} {P0 P1 P2 P3 R : Prop} (h : P0 ∧ P1 ∧ P2 ∧ P3 ∧ a ≠ x ∧ R) : a ≠ x := h.2.2.2.2.1
theorem kd4 {a x : Nat} {P0 P1 P2 P3 R : Prop} (h : P0 ∧ P1 ∧ P2 ∧ P3 ∧ a ≠ x ∧ R) : x ≠ a := Ne.symm h.2.2.2.2.1
theorem kc5 {a x : Nat} {P0 P1 P2 P3 P4 R : Prop} (h : P0 ∧ P1 ∧ P2 ∧ P3 ∧ P4 ∧ a ≠ x ∧ R) : a ≠ x := h.2.2.2.2.2.1
theorem kd5 {a x : Nat} {P0 P1 P2 P3 P4 R : Prop} (h : P0 ∧ P1 ∧ P2 ∧ P3 ∧ P4 ∧ a ≠ x ∧ R) : x ≠ a := Ne.symm h.2.2.2.2.2.1
noncomputable abbrev LW : List Str := looseW hd.view_39 [Str.ofString "PaperError"]
noncomputable abbrev PP : Program := PySem.Challenge.rw_og0157_01.row.prog
def IntV (v : Value) : Prop := ∃ (n : Int) (t : Tok), v = .int n t

end
local macro_rules | `(tactic| k_ne) => `(tactic| (refine neN ?_; (try dsimp only); first | (with_reducible assumption) | (refine Ne.symm ?_; with_reducible assumption) | (refine Nat.ne_of_lt ?_; with_reducible assumption) | (refine Nat.ne_of_gt ?_; with_reducible assumption) | (apply ka0; with_reducible assumption) | (apply kb0; with_reducible assumption) | (apply kc0; with_reducible assumption) | (apply kd0; with_reducible assumption) | (apply ka1; with_reducible assumption) | (apply kb1; with_reducible assumption) | (apply kc1; with_reducible assumption) | (apply kd1; with_reducible assumption) | (apply ka2; with_reducible assumption) | (apply kb2; with_reducible assumption) | (apply kc2; with_reducible assumption) | (apply kd2; with_reducible assumption) | (apply ka3; with_reducible assumption) | (apply kb3; with_reducible assumption) | (apply kc3; with_reducible assumption) | (apply kd3; with_reducible assumption) | (apply ka4; with_reducible assumption) | (apply kb4; with_reducible assumption) | (apply kc4; with_reducible assumption) | (apply kd4; with_reducible assumption) | (apply ka5; with_reducible assumption) | (apply kb5; with_reducible assumption) | (apply kc5; with_reducible assumption) | (apply kd5; with_reducible assumption) | (apply ka6; with_reducible assumption) | (apply kb6; with_reducible assumption) | (apply ka7; with_reducible assumption) | (apply kb7; with_reducible assumption) | omega))
section
open PySem PySem.W PyProof.Rows
local macro_rules | `(tactic| k_all) => `(tactic| assumption)
section
variable {prog : Program} {w : World} {A : Around} {E : Value → Shared → Prop} {s : Shared} {h₀ : Heap} {L D : Addr} {m : Str → Option Value} {news news' : List (Addr × Obj)} {vs : List Value} {n : Nat} {k : Int} {t : Tok} {v : Value}
theorem set_any {Q : Unit → Shared → Prop} (F : Fr h₀ L s.heap m) (N : News h₀ L s.heap news) (U : Upd D (listOf vs.toArray n) (listOf (vs.set k.toNat v).toArray n) news news') (h0 : 0 ≤ k) (h1 : k < vs.length) (hfit : k < 2 ^ 63)
    (h : ∀ h', Fr h₀ L h' m → News h₀ L h' news' → Q () { s with heap := h' }) :
    wpAny (model prog w) A (setItem (.ref D) (.int k t) v) Q E s := by
  obtain ⟨pre, post, rfl, rfl, a, b⟩ := U.split
  have z := N (D, listOf vs.toArray n) (List.mem_append.mpr (.inr (.head _)))
  refine ki_setAt z.1 h0 hfit (by simpa using h1) (h _ (F.change (Heap.SameBut.update ..) z.2.1 z.2.2) (ki_turn _ N a b ?_ ?_))
  · exact Array.toList_inj.mp (by simp)
  · simp
theorem pop_first {Q : Value → Shared → Prop} (F : Fr h₀ L s.heap m) (N : News h₀ L s.heap news) (U : Upd D (listOf (v :: vs).toArray n) (listOf vs.toArray (n + 1)) news news') (hz : (v :: vs).length ≤ 2 ^ 22)
    (h : ∀ h', Fr h₀ L h' m → News h₀ L h' news' → Q v { s with heap := h' }) :
    wpAny (model prog w) A (call (.builtin "list.pop") [.ref D, .int 0 t]) Q E s := by
  refine kl_popAt (p := []) (q := vs) (k := 0) F N (by decide +kernel) ?_ rfl U ?_ ?_
  · simp [seqIndex?]
  · rw [sizeLine_eq]; exact Nat.le_trans hz (by decide)
  · exact h
end
local macro_rules | `(tactic| walk_at "setItem ref int") => `(tactic| (k_here; k_dflt (refine' set_any ?k1 ?k2 ?k3 ?k4 ?k5 ?k6 ?_; (case k1 => k_asm); (case k2 => k_asm); (case k3 => k_upd); (case k4 => decide); (case k5 => (simp only [List.length_cons]; omega)); (case k6 => decide); k_whole); intro h' F' N'; (try k_sweep)))
local macro_rules | `(tactic| walk_at "compareOp NotEq ref ref") => `(tactic| (k_here; (with_reducible show wpAny _ _ (compareOp CmpOp.NotEq (Value.ref _) (Value.ref _)) _ _ _); (with_unfolding_all refine' ne_intsK ?k1 ?k2 ?k3 ?k4 ?k5 ?_; (case k1 => is_list); (case k2 => l_intsC); (case k3 => is_list); (case k4 => l_intsC); (case k5 => ktr_units); k_whole)))
local macro_rules | `(tactic| walk_at "binaryOp FloorDiv int int") => `(tactic| (k_here; (with_reducible refine floordiv_int ?kbe ?_ (Or.inl (PyProof.noPylong_of_log2 ?kbp))); (case kbe => omega); (case kbp => assumption)))
local macro_rules | `(tactic| walk_at "call builtin:list.pop") => `(tactic| (k_here; k_dflt (refine' pop_first ?F ?N ?U ?z ?_; walk_at "co"; (case U => k_upd); (case z => assumption); k_whole); intro h' F' N'; (try k_sweep)))
set_option maxHeartbeats 4000000 in
theorem draw_ok {w : World} {mean : ExcName → Option Value} {mg mb : Str → Option Value} {dp un : Nat} {gd : Option (List Code)} {cn : Str} {cs : Scope} {a : Addr} {ccd : Value} {cl : List (Str × Addr)} {outer : List Env} {A₀ : Around} {base h₀ : Heap} {L : Addr} {m : Str → Option Value} {s : Shared} {Q E : Value → Shared → Prop}
    {p q : Nat} {its : List Value} {ns : List Int} {ia ib many : Int} {ta tb tm : Tok} {np nq : Nat} {more : List (Addr × Obj)}
    (B : Below A₀ base outer h₀) (F : Fr h₀ L s.heap m) (X : (hd.heap_39 w.params).In h₀) (N : News h₀ L s.heap ((p, listOf [.ref q, .int ia ta, .int ib tb].toArray np) :: (q, listOf its.toArray nq) :: more))
    (T : Top hd.view_39 LW mean mg mb h₀) (hk : cs.kind = .function)
    (hqp : q < p) (hi : IntsAre its ns) (hm : 0 < many) (hm2 : many.natAbs.log2 < 9000) (hlen : its.length ≤ 2 ^ 22) (hp : ∀ e ∈ more, e.1 ≠ p) (hq : ∀ e ∈ more, e.1 ≠ q) (hd : dp + 1 < recursionLimit) (hu : un + 100 < cLine)
    (ret : ∀ d td its' ns' a' ta' b' tb' np' nq' h' tk', 0 ≤ d → d < many → IntsAre its' ns' → its'.length ≤ 2 ^ 22 → Fr h₀ L h' m → News h₀ L h' ((p, listOf [.ref q, .int a' ta', .int b' tb'].toArray np') :: (q, listOf its'.toArray nq') :: more) → Q (.int d td) { s with heap := h', toks := tk' }) :
    wpAny (model PP w) (ktrTop dp un gd cn cs L a ccd cl outer) (call (.ref 243) [.ref p, .int many tm]) Q E s := by
  refine wpAny_call ?_
  cases hi
  all_goals k_dflt cell_enter
  k_steps
  all_goals first
    | (exfalso; rename (decide (_ :: _ = []) = true) => hno; simp at hno; done)
    | (rename News h₀ L _ _ => kN9
       rename Fr h₀ L _ m => kF9
       first
       | exact ret _ _ _ _ _ _ _ _ _ _ _ _ (Int.fmod_nonneg_of_pos _ hm) (Int.fmod_lt_of_pos _ hm) (by first | exact IntsAre.nil | assumption | exact IntsAre.cons _ _ (by assumption)) (by first | assumption | (simp only [List.length_cons] at *; omega)) kF9 kN9
       | exact ret _ _ _ _ _ _ _ _ _ _ _ _ (Int.fmod_nonneg_of_pos _ hm) (Int.fmod_lt_of_pos _ hm) (by first | exact IntsAre.nil | assumption | exact IntsAre.cons _ _ (by assumption)) (by first | assumption | (simp only [List.length_cons] at *; omega)) kF9 (cb_drop kN9 fun _ he => List.Mem.tail _ he))
end
section
open PySem PySem.W PyProof.Rows
/-- a list is another with one entry put in somewhere -/
inductive Pull (d : Addr) (o : Obj) : List (Addr × Obj) → List (Addr × Obj) → Prop
  | head {r} : Pull d o ((d, o) :: r) r
  | tail {e l r} : Pull d o l r → Pull d o (e :: l) (e :: r)
theorem Pull.mem {d : Addr} {o : Obj} {l r : List (Addr × Obj)} (h : Pull d o l r) : ∀ e ∈ (d, o) :: r, e ∈ l := by
  induction h with
  | head => exact fun _ h => h
  | tail _ ih =>
    intro e he
    rcases List.mem_cons.mp he with h1 | h1
    · exact List.Mem.tail _ (ih e (by rw [h1]; exact List.Mem.head _))
    · rcases List.mem_cons.mp h1 with h2 | h2
      · rw [h2]; exact List.Mem.head _
      · exact List.Mem.tail _ (ih e (List.Mem.tail _ h2))
theorem Pull.two {d d' : Addr} {o o' : Obj} {l l' r : List (Addr × Obj)} (h : Pull d o l l') (h' : Pull d' o' l' r) : ∀ e ∈ (d, o) :: (d', o') :: r, e ∈ l := by
  intro e he
  rcases List.mem_cons.mp he with h1 | h1
  · exact h.mem e (by rw [h1]; exact List.Mem.head _)
  · exact h.mem e (List.Mem.tail _ (h'.mem e h1))

theorem draw_use {w : World} {mean : ExcName → Option Value} {mg mb : Str → Option Value} {dp un : Nat} {gd : Option (List Code)} {cn : Str} {cs : Scope} {a : Addr} {ccd : Value} {cl : List (Str × Addr)} {outer : List Env} {A₀ : Around} {base h₀ : Heap} {L : Addr} {m : Str → Option Value} {s : Shared} {Q E : Value → Shared → Prop}
    {p q : Nat} {its : List Value} {ns : List Int} {ia ib many : Int} {ta tb tm : Tok} {np nq : Nat} {news n1 more : List (Addr × Obj)}
    (B : Below A₀ base outer h₀) (F : Fr h₀ L s.heap m) (X : (hd.heap_39 w.params).In h₀) (N : News h₀ L s.heap news) (T : Top hd.view_39 LW mean mg mb h₀) (hk : cs.kind = .function)
    (P1 : Pull p (listOf [.ref q, .int ia ta, .int ib tb].toArray np) news n1) (P2 : Pull q (listOf its.toArray nq) n1 more)
    (hqp : q < p) (hi : IntsAre its ns) (hm : 0 < many) (hm2 : many.natAbs.log2 < 9000) (hlen : its.length ≤ 2 ^ 22) (hp : ∀ e ∈ more, e.1 ≠ p) (hq : ∀ e ∈ more, e.1 ≠ q) (hd : dp + 1 < recursionLimit) (hu : un + 100 < cLine)
    (ret : ∀ d td its' ns' a' ta' b' tb' np' nq' h' tk', 0 ≤ d → d < many → IntsAre its' ns' → its'.length ≤ 2 ^ 22 → Fr h₀ L h' m → News h₀ L h' ((p, listOf [.ref q, .int a' ta', .int b' tb'].toArray np') :: (q, listOf its'.toArray nq') :: more) → Q (.int d td) { s with heap := h', toks := tk' }) :
    wpAny (model PP w) (ktrTop dp un gd cn cs L a ccd cl outer) (call (.ref 243) [.ref p, .int many tm]) Q E s :=
  draw_ok B F X (cb_drop N (P1.two P2)) T hk hqp hi hm hm2 hlen hp hq hd hu ret

end
local macro_rules | `(tactic| k_mem) => `(tactic| assumption)
section
open PySem PySem.W PyProof.Rows
local macro_rules | `(tactic| k_all) => `(tactic| assumption)
local macro_rules | `(tactic| walk_at "call ref") => `(tactic| (k_here; (with_reducible show wpAny _ _ (call (Value.ref 243) [Value.ref _, Value.int _ _]) _ _ _); k_dflt (refine' draw_use ?B ?F ?X ?N ?T ?hk ?P1 ?P2 ?hqp ?hi ?hm ?hm2 ?hlen ?hp ?hq ?hd ?hu ?_; (case B => k_asm); (case F => k_asm); (case X => k_asm); (case N => k_asm); (case T => k_asm); (case hk => first | exact rfl | assumption); walk_at "ca"; walk_at "cd"; (case hd => ktr_room); (case hu => ktr_units); (case hm => first | assumption | omega | decide); (case hm2 => first | assumption | decide +kernel)); intro d9 td9 its9 ns9 a9 ta9 b9 tb9 np9 nq9 h9 tk9 hd0 hd1 hi9 hl9 F9 N9; walk_at "ci"))

section
variable {prog : Program} {w : World} {A : Around} {E : Value → Shared → Prop} {s : Shared} {h₀ : Heap} {L l : Addr} {news : List (Addr × Obj)} {vs : List Value} {n : Nat} {k : Int} {t : Tok}
theorem len_any {Q : Value → Shared → Prop} (N : News h₀ L s.heap news) (hm : (l, listOf vs.toArray n) ∈ news) (hz : vs.length < 2 ^ 22) (h : ∀ t tk, Q (.int vs.length t) { s with toks := tk }) :
    wpAny (model prog w) A (call (.builtin "len") [.ref l]) Q E s :=
  len_list (PySem.IsL.isList (n := n) (N _ hm).1) (by rw [List.size_toArray]; omega) (by rw [List.size_toArray]; exact h _ _)
theorem item_some {value slice : PySem.Expr} {Q : Value → Shared → Prop} (N : News h₀ L s.heap news) (hm : (l, listOf vs.toArray n) ∈ news) (h0 : 0 ≤ k) (h1 : k < vs.length) (hz : vs.length < 2 ^ 22) (h : ∀ v, vs[k.toNat]? = some v → Q v s)
    (hs : subscripted slice false (.ref l) (.int k t) = operate [.ref l, .int k t] (getItem (.ref l) (.int k t)) := by with_unfolding_all rfl) :
    wpAny (model prog w) A (subscriptTail value slice (.ref l) (.int k t)) Q E s := by
  have hj : k.toNat < vs.length := by omega
  have hL := PySem.IsL.isList (n := n) (N _ hm).1
  exact tail_any hL.typeIs slot_list_getitem.lookup (wpAny_getItem_list hL h0 (by omega) (by simp [hj]) (h _ (List.getElem?_eq_getElem hj))) hs
end
local macro_rules | `(tactic| walk_at "call builtin:len") => `(tactic| (k_here; (with_reducible show wpAny _ _ (call (Value.builtin _) [Value.ref _]) _ _ _); k_dflt (refine' len_any ?N ?m ?z ?_; (case N => k_asm); (case m => k_mem); (case z => assumption); k_whole); intro t9 tk9; (try dsimp only)))
local macro_rules | `(tactic| walk_at "subscriptTail") => `(tactic| (k_here; (with_reducible show wpAny _ _ (subscriptTail _ _ (Value.ref _) (Value.int _ _)) _ _ _); k_dflt (refine' item_some ?N ?m ?a ?b ?z ?_ ?hs; (case N => k_asm); (case m => k_mem); (case a => assumption); (case b => assumption); (case z => assumption); (case hs => with_unfolding_all rfl); k_whole); intro v9 hv9; (try dsimp only)))

set_option maxHeartbeats 4000000 in
theorem pick_ok {w : World} {mean : ExcName → Option Value} {mg mb : Str → Option Value} {dp un : Nat} {gd : Option (List Code)} {cn : Str} {cs : Scope} {a : Addr} {ccd : Value} {cl : List (Str × Addr)} {outer : List Env} {A₀ : Around} {base h₀ : Heap} {L : Addr} {m : Str → Option Value} {s : Shared} {Q E : Value → Shared → Prop}
    {p q l : Nat} {its vs : List Value} {ns : List Int} {ia ib : Int} {ta tb : Tok} {np nq nl : Nat} {more : List (Addr × Obj)}
    (B : Below A₀ base outer h₀) (F : Fr h₀ L s.heap m) (X : (hd.heap_39 w.params).In h₀) (N : News h₀ L s.heap ((p, listOf [.ref q, .int ia ta, .int ib tb].toArray np) :: (q, listOf its.toArray nq) :: more))
    (T : Top hd.view_39 LW mean mg mb h₀) (hk : cs.kind = .function) (hl : (l, listOf vs.toArray nl) ∈ more) (hv : 0 < vs.length) (hv2 : vs.length < 2 ^ 22)
    (hqp : q < p) (hi : IntsAre its ns) (hlen : its.length ≤ 2 ^ 22) (hp : ∀ e ∈ more, e.1 ≠ p) (hq : ∀ e ∈ more, e.1 ≠ q) (hd : dp + 2 < recursionLimit) (hu : un + 110 < cLine)
    (ret : ∀ (d : Nat) v its' ns' a' ta' b' tb' np' nq' h' tk', vs[d]? = some v → IntsAre its' ns' → its'.length ≤ 2 ^ 22 → Fr h₀ L h' m → News h₀ L h' ((p, listOf [.ref q, .int a' ta', .int b' tb'].toArray np') :: (q, listOf its'.toArray nq') :: more) → Q v { s with heap := h', toks := tk' }) :
    wpAny (model PP w) (ktrTop dp un gd cn cs L a ccd cl outer) (call (.ref 250) [.ref p, .ref l]) Q E s := by
  have hlog : (vs.length : Int).natAbs.log2 < 9000 := by
    have h22 : vs.length.log2 < 22 := (Nat.log2_lt (by omega)).mpr hv2
    simp only [Int.natAbs_natCast]; omega
  have hv' : (0 : Int) < (vs.length : Int) := by omega
  refine wpAny_call ?_
  k_dflt cell_enter
  k_steps
  all_goals first
    | (rename News h₀ L _ _ => kN9
       rename Fr h₀ L _ m => kF9
       exact ret _ _ _ _ _ _ _ _ _ _ _ _ (by assumption) (by assumption) (by assumption) kF9 kN9)
end
section
open PySem PySem.W PyProof.Rows
theorem bInts_inj {a b : List UInt8} (h : a.map (fun c => (c.toNat : Int)) = b.map (fun c => (c.toNat : Int))) : a = b := by
  induction a generalizing b with
  | nil => cases b with | nil => rfl | cons => simp at h
  | cons x r ih =>
    cases b with
    | nil => simp at h
    | cons y r' =>
      simp only [List.map_cons, List.cons.injEq] at h
      have : x = y := UInt8.toNat_inj.mp (by omega)
      rw [this, ih h.2]
theorem picked_is {D W : List UInt8} {i : Int} (hi : 0 ≤ i) (h : i + (W.toArray.size : Int) ≤ D.length)
    (k : KBw.bInts (KBy.picked D.toArray (some i) (some (i + (W.toArray.size : Int)))) = (List.drop ((some i).elim 0 (clipAt (KBw.bInts D.toArray).length)) (KBw.bInts D.toArray)).take ((some (i + (W.toArray.size : Int))).elim (KBw.bInts D.toArray).length (clipAt (KBw.bInts D.toArray).length) - (some i).elim 0 (clipAt (KBw.bInts D.toArray).length))) :
    (KBy.picked D.toArray (some i) (some (i + (W.toArray.size : Int)))).toList = (D.drop i.toNat).take W.length := by
  apply bInts_inj
  rw [List.size_toArray] at *
  have hl : (KBw.bInts D.toArray).length = D.length := by rw [KBw.ints_length, List.size_toArray]
  have e1 : clipAt D.length i = i.toNat := by unfold clipAt; split <;> omega
  have e2 : clipAt D.length (i + W.length) = i.toNat + W.length := by unfold clipAt; split <;> omega
  simp only [hl, Option.elim, e1, e2, Nat.add_sub_cancel_left] at k
  rw [List.map_take, List.map_drop]
  exact k
/-- what peek tells at a place -/
def byteAt (D : List UInt8) (i : Int) : Int := if i < D.length then ((D.getD i.toNat 0).toNat : Int) else -1
/-- the entries of a Cursor's own dict -/
def CurE (D : List UInt8) (i : Int) (es : List DictEntry) : Prop :=
  ∃ h1 t1 td h2 t2 ti h3 t3 te, es = [⟨h1, .str (Str.ofString "data") t1, .bytes D.toArray td⟩, ⟨h2, .str (Str.ofString "at") t2, .int i ti⟩, ⟨h3, .str (Str.ofString "end") t3, .int (D.length : Int) te⟩]

end
local macro_rules | `(tactic| cell_enter) => `(tactic| (refine' code_def ?k1 ?k2 ?k3 ?k4 ?k5 ?kA ?kF ?kK ?k6 ?k7 ?k8 ?k9 ?kB ?_ ?c2 ?c3 ?c4 ?c5; (case kA => exact rfl); (case kF => exact rfl); (case kK => first | exact rfl | assumption); (case k1 => k_asm); (case k2 => k_asm); (case k3 => k_asm); (case k4 => k_asm); (case k5 => k_asm); (case k6 => k_is); (case k7 => k_is); (case k8 => ktr_room); (case k9 => first | exact BindsTo.of_eq rfl | exact binds_K (by k_in) rfl (by k_is) rfl rfl rfl); (case c5 => decide); (case kB => exact locs rfl); (case c2 => exact rfl); (case c3 => exact rfl); (case c4 => exact rfl); k_whole; intro g' L' h' FG' F' N' B' X' T'; (try dsimp only); (try k_fold)))
section
open PySem PySem.W PyProof.Rows
local macro_rules | `(tactic| walk_at "zz") => `(tactic| fail "zz")
local macro_rules | `(tactic| walk_at "zz") => `(tactic| fail "zz")
local macro_rules | `(tactic| walk_at "zz") => `(tactic| fail "zz")
local macro_rules | `(tactic| k_all) => `(tactic| assumption)

local macro_rules | `(tactic| walk_at "subscriptTail") => `(tactic| ((with_reducible show wpAny _ _ (subscriptTail _ _ (Value.bytes (List.toArray _) _) (Value.int _ _)) _ _ _); refine subscriptTail_builtin (typeIs_bytes _ _ _) FB.slot_bytes_getitem.lookup (getItem_bytes (by omega) (by omega) (by omega) ?_)))
local macro_rules | `(tactic| walk_at "subscriptTail") => `(tactic| (k_here; (with_reducible show wpAny _ _ (subscriptTail _ (Expr.Slice _ _ none _) (Value.bytes _ _) (Value.ref _)) _ _ _); (with_reducible rename Fr _ _ _ _ => F'); (with_reducible rename News _ _ _ _ => N'); (refine KBc.slice_K (s := ⟨_, _, _, _, _⟩) F' N' rfl (by constructor) (by constructor) (by rw [KBw.ints_length, List.size_toArray]; omega) ?_); intro h9 t9 k9 F9 N9 kbcK))
set_option maxHeartbeats 4000000 in
theorem peek_ok0 {w : World} {mean : ExcName → Option Value} {mg mb : Str → Option Value} {dp un : Nat} {gd : Option (List Code)} {cn : Str} {cs : Scope} {a : Addr} {ccd : Value} {cl : List (Str × Addr)} {outer : List Env} {A₀ : Around} {base h₀ : Heap} {L : Addr} {m : Str → Option Value} {s : Shared} {Q E : Value → Shared → Prop}
    {x dx : Nat} {D : List UInt8} {i : Int} {es : List DictEntry} {more : List (Addr × Obj)}
    (B : Below A₀ base outer h₀) (F : Fr h₀ L s.heap m) (X : (hd.heap_39 w.params).In h₀) (N : News h₀ L s.heap ((x, instObj 131 dx) :: (dx, dictOf es 3) :: more))
    (T : Top hd.view_39 LW mean mg mb h₀) (hk : cs.kind = .function) (hc : CurE D i es) (hi : 0 ≤ i) (hD : D.length ≤ 1000)
    (hdx : dx < x) (hd : dp + 1 < recursionLimit) (hu : un + 100 < cLine)
    (ret : ∀ v t h' tk', (i < D.length → v = ((D.getD i.toNat 0).toNat : Int)) → ((D.length : Int) ≤ i → v = -1) → Fr h₀ L h' m → News h₀ L h' ((x, instObj 131 dx) :: (dx, dictOf es 3) :: more) → Q (.int v t) { s with heap := h', toks := tk' }) :
    wpAny (model PP w) (ktrTop dp un gd cn cs L a ccd cl outer) (call (.ref 58) [.ref x]) Q E s := by
  obtain ⟨h1, t1, td, h2, t2, ti, h3, t3, te, rfl⟩ := hc
  refine wpAny_call ?_
  k_dflt cell_enter
  k_steps
  all_goals first
    | (rename News h₀ L _ _ => kN9
       rename Fr h₀ L _ m => kF9
       refine ret _ _ _ _ (fun hlt => ?_) (fun hge => ?_) kF9 kN9
       all_goals first | omega | (simp only [Int.add_zero]; done))
theorem peek_ok {w : World} {mean : ExcName → Option Value} {mg mb : Str → Option Value} {dp un : Nat} {gd : Option (List Code)} {cn : Str} {cs : Scope} {a : Addr} {ccd : Value} {cl : List (Str × Addr)} {outer : List Env} {A₀ : Around} {base h₀ : Heap} {L : Addr} {m : Str → Option Value} {s : Shared} {Q E : Value → Shared → Prop}
    {x dx : Nat} {D : List UInt8} {i : Int} {es : List DictEntry} {more : List (Addr × Obj)}
    (B : Below A₀ base outer h₀) (F : Fr h₀ L s.heap m) (X : (hd.heap_39 w.params).In h₀) (N : News h₀ L s.heap ((x, instObj 131 dx) :: (dx, dictOf es 3) :: more))
    (T : Top hd.view_39 LW mean mg mb h₀) (hk : cs.kind = .function) (hc : CurE D i es) (hi : 0 ≤ i) (hD : D.length ≤ 1000)
    (hdx : dx < x) (hd : dp + 1 < recursionLimit) (hu : un + 100 < cLine)
    (ret : ∀ t h' tk', Fr h₀ L h' m → News h₀ L h' ((x, instObj 131 dx) :: (dx, dictOf es 3) :: more) → Q (.int (byteAt D i) t) { s with heap := h', toks := tk' }) :
    wpAny (model PP w) (ktrTop dp un gd cn cs L a ccd cl outer) (call (.ref 58) [.ref x]) Q E s :=
  peek_ok0 B F X N T hk hc hi hD hdx hd hu fun v t h' tk' ha hb F' N' => by
    have e : v = byteAt D i := by
      unfold byteAt
      split
      · exact ha (by assumption)
      · exact hb (by omega)
    rw [e]; exact ret t h' tk' F' N'
set_option maxHeartbeats 4000000 in
theorem take_ok {w : World} {mean : ExcName → Option Value} {mg mb : Str → Option Value} {dp un : Nat} {gd : Option (List Code)} {cn : Str} {cs : Scope} {a : Addr} {ccd : Value} {cl : List (Str × Addr)} {outer : List Env} {A₀ : Around} {base h₀ : Heap} {L : Addr} {m : Str → Option Value} {s : Shared} {Q E : Value → Shared → Prop}
    {x dx : Nat} {D : List UInt8} {i : Int} {es : List DictEntry} {more : List (Addr × Obj)}
    (B : Below A₀ base outer h₀) (F : Fr h₀ L s.heap m) (X : (hd.heap_39 w.params).In h₀) (N : News h₀ L s.heap ((x, instObj 131 dx) :: (dx, dictOf es 3) :: more))
    (T : Top hd.view_39 LW mean mg mb h₀) (hk : cs.kind = .function) (hc : CurE D i es) (hi : 0 ≤ i) (hlt : i < D.length) (hD : D.length ≤ 1000)
    (hx : ∀ e ∈ more, e.1 ≠ x) (hx' : ∀ e ∈ more, e.1 ≠ dx)
    (hdx : dx < x) (hd : dp + 1 < recursionLimit) (hu : un + 100 < cLine)
    (ret : ∀ t es' h' tk', CurE D (i + 1) es' → Fr h₀ L h' m → News h₀ L h' ((x, instObj 131 dx) :: (dx, dictOf es' 3) :: more) → Q (.int (byteAt D i) t) { s with heap := h', toks := tk' }) :
    wpAny (model PP w) (ktrTop dp un gd cn cs L a ccd cl outer) (call (.ref 65) [.ref x]) Q E s := by
  obtain ⟨h1, t1, td, h2, t2, ti, h3, t3, te, rfl⟩ := hc
  refine wpAny_call ?_
  k_dflt cell_enter
  k_steps
  all_goals first
    | (exfalso; omega)
    | (rename News h₀ L _ _ => kN9
       rename Fr h₀ L _ m => kF9
       have eb : byteAt D i = ((D.getD i.toNat 0).toNat : Int) := by unfold byteAt; rw [if_pos hlt]
       rw [eb] at ret
       exact ret _ _ _ _ ⟨_, _, _, _, _, _, _, _, _, rfl⟩ kF9 kN9)
set_option maxHeartbeats 4000000 in
theorem fig_ok {w : World} {mean : ExcName → Option Value} {mg mb : Str → Option Value} {dp un : Nat} {gd : Option (List Code)} {cn : Str} {cs : Scope} {a : Addr} {ccd : Value} {cl : List (Str × Addr)} {outer : List Env} {A₀ : Around} {base h₀ : Heap} {L : Addr} {m : Str → Option Value} {s : Shared} {Q E : Value → Shared → Prop}
    {c : Int} {tc : Tok} {news : List (Addr × Obj)}
    (B : Below A₀ base outer h₀) (F : Fr h₀ L s.heap m) (X : (hd.heap_39 w.params).In h₀) (N : News h₀ L s.heap news)
    (T : Top hd.view_39 LW mean mg mb h₀) (hk : cs.kind = .function) (hd : dp + 1 < recursionLimit) (hu : un + 100 < cLine)
    (ret : ∀ b h' tk', (b = true → 48 ≤ c ∧ c ≤ 57) → (b = false → c < 48 ∨ 57 < c) → Fr h₀ L h' m → News h₀ L h' news → Q (.bool b) { s with heap := h', toks := tk' }) :
    wpAny (model PP w) (ktrTop dp un gd cn cs L a ccd cl outer) (call (.ref 28) [.int c tc]) Q E s := by
  refine wpAny_call ?_
  k_dflt cell_enter
  k_steps
  all_goals first
    | (rename News h₀ L _ _ => kN9
       rename Fr h₀ L _ m => kF9
       refine ret _ _ _ (fun hb => ?_) (fun hb => ?_) kF9 kN9
       all_goals simp only [decide_eq_true_eq, decide_eq_false_iff_not] at hb
       all_goals omega)
set_option maxHeartbeats 4000000 in
theorem starts_ok {w : World} {mean : ExcName → Option Value} {mg mb : Str → Option Value} {dp un : Nat} {gd : Option (List Code)} {cn : Str} {cs : Scope} {a : Addr} {ccd : Value} {cl : List (Str × Addr)} {outer : List Env} {A₀ : Around} {base h₀ : Heap} {L : Addr} {m : Str → Option Value} {s : Shared} {Q E : Value → Shared → Prop}
    {x dx : Nat} {D W : List UInt8} {i : Int} {es : List DictEntry} {tw : Tok} {more : List (Addr × Obj)}
    (B : Below A₀ base outer h₀) (F : Fr h₀ L s.heap m) (X : (hd.heap_39 w.params).In h₀) (N : News h₀ L s.heap ((x, instObj 131 dx) :: (dx, dictOf es 3) :: more))
    (T : Top hd.view_39 LW mean mg mb h₀) (hk : cs.kind = .function) (hc : CurE D i es) (hi : 0 ≤ i) (hi' : i ≤ D.length) (hD : D.length ≤ 1000) (hW : W.length ≤ 1000)
    (hdx : dx < x) (hd : dp + 1 < recursionLimit) (hu : un + 100 < cLine)
    (ret : ∀ b h' tk', (b = true → i + W.length ≤ D.length ∧ (D.drop i.toNat).take W.length = W) → (b = false → ¬ (i + W.length ≤ D.length ∧ (D.drop i.toNat).take W.length = W)) → Fr h₀ L h' m → News h₀ L h' ((x, instObj 131 dx) :: (dx, dictOf es 3) :: more) → Q (.bool b) { s with heap := h', toks := tk' }) :
    wpAny (model PP w) (ktrTop dp un gd cn cs L a ccd cl outer) (call (.ref 72) [.ref x, .bytes W.toArray tw]) Q E s := by
  obtain ⟨h1, t1, td, h2, t2, ti, h3, t3, te, rfl⟩ := hc
  refine wpAny_call ?_
  k_dflt cell_enter
  k_steps
  all_goals first
    | (rename News h₀ L _ _ => kN9
       rename Fr h₀ L _ m => kF9
       rename KBw.bInts _ = _ => kb9
       rename i + _ ≤ (D.length : Int) => hle9
       have hpk := picked_is hi hle9 kb9
       refine ret _ _ _ (fun hb => ?_) (fun hb => ?_) kF9 kN9
       all_goals simp only [beq_iff_eq, beq_eq_false_iff_ne, ne_eq, hpk] at hb
       all_goals simp only [List.size_toArray] at hle9
       · exact ⟨hle9, hb⟩
       · exact fun hh => hb hh.2)
    | (rename News h₀ L _ _ => kN9
       rename Fr h₀ L _ m => kF9
       rename ¬ (i + _ ≤ (D.length : Int)) => hle9
       simp only [List.size_toArray] at hle9
       refine ret _ _ _ (fun hb => ?_) (fun hb => ?_) kF9 kN9
       · simp only [List.size_toArray, decide_eq_true_eq] at hb; omega
       · exact fun hh => hle9 hh.1)

local macro_rules | `(tactic| walk_at "call ref") => `(tactic| (k_here; (with_reducible show wpAny _ _ (call (Value.ref 58) _) _ _ _); k_dflt (refine' peek_ok ?B ?F ?X (cb_drop ?N (Pull.two ?P1 ?P2)) ?T ?hk ?hc ?hi ?hD ?hdx ?hd ?hu ?_; (case N => k_asm); walk_at "ca"; (case B => k_asm); (case F => k_asm); (case X => k_asm); (case T => k_asm); (case hk => first | exact rfl | assumption); walk_at "cc"; (case hd => ktr_room); (case hu => ktr_units)); intro t9 h9 tk9 F9 N9; walk_at "ci"))
local macro_rules | `(tactic| walk_at "call ref") => `(tactic| (k_here; (with_reducible show wpAny _ _ (call (Value.ref 72) _) _ _ _); k_dflt (refine' starts_ok ?B ?F ?X (cb_drop ?N (Pull.two ?P1 ?P2)) ?T ?hk ?hc ?hi ?hi' ?hD ?hW ?hdx ?hd ?hu ?_; (case N => k_asm); walk_at "ca"; (case B => k_asm); (case F => k_asm); (case X => k_asm); (case T => k_asm); (case hk => first | exact rfl | assumption); (case hc => first | assumption | exact ⟨_, _, _, _, _, _, _, _, _, rfl⟩); (case hi => first | assumption | omega); (case hi' => first | assumption | omega); (case hD => assumption); (case hW => assumption); (case hdx => assumption); (case hd => ktr_room); (case hu => ktr_units)); intro b9 h9 tk9 hv9 hw9 F9 N9; walk_at "ci"))
set_option maxHeartbeats 4000000 in
theorem skip_ok {w : World} {mean : ExcName → Option Value} {mg mb : Str → Option Value} {dp un : Nat} {gd : Option (List Code)} {cn : Str} {cs : Scope} {a : Addr} {ccd : Value} {cl : List (Str × Addr)} {outer : List Env} {A₀ : Around} {base h₀ : Heap} {L : Addr} {m : Str → Option Value} {s : Shared} {Q E : Value → Shared → Prop}
    {x dx : Nat} {D W : List UInt8} {i : Int} {es : List DictEntry} {tw : Tok} {more : List (Addr × Obj)}
    (B : Below A₀ base outer h₀) (F : Fr h₀ L s.heap m) (X : (hd.heap_39 w.params).In h₀) (N : News h₀ L s.heap ((x, instObj 131 dx) :: (dx, dictOf es 3) :: more))
    (T : Top hd.view_39 LW mean mg mb h₀) (hk : cs.kind = .function) (hc : CurE D i es) (hi : 0 ≤ i) (hi' : i ≤ D.length) (hD : D.length ≤ 1000) (hW : W.length ≤ 1000)
    (hx : ∀ e ∈ more, e.1 ≠ x) (hx' : ∀ e ∈ more, e.1 ≠ dx)
    (hdx : dx < x) (hd : dp + 2 < recursionLimit) (hu : un + 110 < cLine)
    (ret : ∀ b es' h' tk', (b = true → (i + W.length ≤ D.length ∧ (D.drop i.toNat).take W.length = W) ∧ CurE D (i + W.length) es') → (b = false → ¬ (i + W.length ≤ D.length ∧ (D.drop i.toNat).take W.length = W) ∧ CurE D i es') → Fr h₀ L h' m → News h₀ L h' ((x, instObj 131 dx) :: (dx, dictOf es' 3) :: more) → Q (.bool b) { s with heap := h', toks := tk' }) :
    wpAny (model PP w) (ktrTop dp un gd cn cs L a ccd cl outer) (call (.ref 79) [.ref x, .bytes W.toArray tw]) Q E s := by
  obtain ⟨h1, t1, td, h2, t2, ti, h3, t3, te, rfl⟩ := hc
  have hc := (⟨_, _, _, _, _, _, _, _, _, rfl⟩ : CurE D i [⟨h1, .str (Str.ofString "data") t1, .bytes D.toArray td⟩, ⟨h2, .str (Str.ofString "at") t2, .int i ti⟩, ⟨h3, .str (Str.ofString "end") t3, .int (D.length : Int) te⟩])
  refine wpAny_call ?_
  k_dflt cell_enter
  k_steps
  all_goals first
    | (rename News h₀ L _ _ => kN9
       rename Fr h₀ L _ m => kF9
       refine ret _ _ _ _ (fun hb => ?_) (fun hb => ?_) kF9 kN9
       all_goals first
         | (cases hb; done)
         | exact ⟨by first | exact hv9 (by assumption) | (rename _ = true → _ => hh9; exact hh9 (by assumption)) | (rename _ = false → _ => hh9; exact hh9 (by assumption)), ⟨_, _, _, _, _, _, _, _, _, rfl⟩⟩)
/-- what skip_line_end does: its answer and the place behind -/
def LineEnd (D : List UInt8) (i : Int) (b : Bool) (j : Int) : Prop :=
  (byteAt D i = 13 ∧ byteAt D (i + 1) = 10 ∧ b = true ∧ j = i + 1 + 1) ∨ (byteAt D i = 13 ∧ byteAt D (i + 1) ≠ 10 ∧ b = true ∧ j = i + 1) ∨ (byteAt D i = 10 ∧ b = true ∧ j = i + 1) ∨ (byteAt D i ≠ 13 ∧ byteAt D i ≠ 10 ∧ b = false ∧ j = i)
set_option maxHeartbeats 4000000 in
theorem line_ok {w : World} {mean : ExcName → Option Value} {mg mb : Str → Option Value} {dp un : Nat} {gd : Option (List Code)} {cn : Str} {cs : Scope} {a : Addr} {ccd : Value} {cl : List (Str × Addr)} {outer : List Env} {A₀ : Around} {base h₀ : Heap} {L : Addr} {m : Str → Option Value} {s : Shared} {Q E : Value → Shared → Prop}
    {x dx : Nat} {D : List UInt8} {i : Int} {es : List DictEntry} {more : List (Addr × Obj)}
    (B : Below A₀ base outer h₀) (F : Fr h₀ L s.heap m) (X : (hd.heap_39 w.params).In h₀) (N : News h₀ L s.heap ((x, instObj 131 dx) :: (dx, dictOf es 3) :: more))
    (T : Top hd.view_39 LW mean mg mb h₀) (hk : cs.kind = .function) (hc : CurE D i es) (hi : 0 ≤ i) (hD : D.length ≤ 1000)
    (hx : ∀ e ∈ more, e.1 ≠ x) (hx' : ∀ e ∈ more, e.1 ≠ dx)
    (hdx : dx < x) (hd : dp + 2 < recursionLimit) (hu : un + 110 < cLine)
    (ret : ∀ b j es' h' tk', LineEnd D i b j → CurE D j es' → Fr h₀ L h' m → News h₀ L h' ((x, instObj 131 dx) :: (dx, dictOf es' 3) :: more) → Q (.bool b) { s with heap := h', toks := tk' }) :
    wpAny (model PP w) (ktrTop dp un gd cn cs L a ccd cl outer) (call (.ref 100) [.ref x]) Q E s := by
  obtain ⟨h1, t1, td, h2, t2, ti, h3, t3, te, rfl⟩ := hc
  refine wpAny_call ?_
  k_dflt cell_enter
  k_steps
  all_goals first
    | (rename News h₀ L _ _ => kN9
       rename Fr h₀ L _ m => kF9
       exact ret _ _ _ _ _ (by unfold LineEnd; first | exact .inl ⟨by assumption, by assumption, rfl, rfl⟩ | exact .inr (.inl ⟨by assumption, by assumption, rfl, rfl⟩) | exact .inr (.inr (.inl ⟨by assumption, rfl, rfl⟩)) | exact .inr (.inr (.inr ⟨by assumption, by assumption, rfl, rfl⟩))) ⟨_, _, _, _, _, _, _, _, _, rfl⟩ kF9 kN9)
end
section
open PySem PySem.W PyProof.Rows
/-- what stands in CrossFault's row of parents behind itself -/
abbrev bmC : List Value := [.ref 160, .type "Exception", .type "BaseException", .type "object"]
section
variable {M : Model} {A : Around} {E : Value → Shared → Prop} {h : Heap} {g : Array GenState} {d : Drawn} {t : Nat} {os : OsState}
variable {nm q : Str} {bs : List Value} {hdct : Bool} {sn : List Str} {sub : List Value} {ab : Bool} {col : Option Bool} {dd : Option Addr} {k0 k1 k2 k3 k5 : Option Value}
theorem cross_check_new {rest : List Value} {Q : Unit → Shared → Prop} (hC : h.get? 173 = some (excClassObj nm q 173 172 bs bmC hdct sn sub ab col dd k0 k1 k2 k3 k5 "Exception.__new__"))
    (hq : Q () ⟨h, g, d, t, os⟩) : wpAny M A (checkBuiltinCall "Exception.__new__" ⟨.ref 173 :: rest, []⟩) Q E ⟨h, g, d, t, os⟩ := by
  have F := PySem.F.excBase_Exception
  have hcont : (Value.ref 173 :: bmC).contains (.type "Exception") = true := by decide
  have hstar := F.noStar
  simp only [checkBuiltinCall, F.newKind, F.newSplit, F.newRow]
  repeat (first | refine wpAny_loadPart_at hC ?_ | (refine wpAny_isSubtype_exc hC ?_; rw [hcont]) | refine wpAny_staticBase_exc hC ?_ | refine wpAny_madeBy_exc hC ?_ | simp only [bne_self_eq_false, Bool.false_eq_true, if_false] | wp_step)
  exact hq
end
section
variable {prog : Program} {w : World} {A : Around} {R : Result → Shared → Prop} {h : Heap} {g : Array GenState} {d : Drawn} {t : Nat} {os : OsState}
variable {nm q : Str} {bs : List Value} {hdct : Bool} {sn : List Str} {sub : List Value} {ab : Bool} {col : Option Bool} {dd : Option Addr} {k0 k1 k2 k3 k5 : Option Value}
theorem cross_new {rest : List Value} (hC : h.get? 173 = some (excClassObj nm q 173 172 bs bmC hdct sn sub ab col dd k0 k1 k2 k3 k5 "Exception.__new__"))
    (hq : R (.ok (.ret (.ref (h.objs.size + 1)))) ⟨(h.push { cls := .type "tuple", data := .seq rest.toArray }).push
      { cls := .ref 173, data := .fields #[.ref h.objs.size, .none, .none, .none, .bool false, .none] }, g, d, t, os⟩) (hrest : rest.length ≤ sizeLine) :
    codeAny (model prog w) A (.builtin "Exception.__new__" ⟨.ref 173 :: rest, []⟩) R ⟨h, g, d, t, os⟩ := by
  have F := PySem.F.excBase_Exception
  have hends := F.ends
  have hcB : (Value.ref 173 :: bmC).contains (.type "Exception") = true := by decide
  have hcA : (Value.ref 173 :: bmC).contains (.type "AttributeError") = false := by decide
  have hcN : (Value.ref 173 :: bmC).contains (.type "NameError") = false := by decide
  refine codeAny_builtinAt F.entry ?_
  unfold Builtin.«BaseException.__new__»
  refine PySem.wpAt_bind ?_
  show PySem.wpAt _ _ _ (stack >>= _) _ _ _
  refine PySem.wpAt_bind (PySem.wpAt_stack fun p below => PySem.wpAt_of_wpAny ?_)
  wp_walk
  refine PySem.wpAt_of_wpAny ?_
  rw [F.owner]
  repeat (first | with_reducible refine wpAny_madeHere_exc F.canon hC ?_ | with_reducible refine wpAny_loadPart_at hC ?_ | (with_reducible refine wpAny_isSubtype_exc hC ?_; first | rw [hcB] | rw [hcA] | rw [hcN]) | wp_step)
  show R _ _
  rw [Heap.size_push]
  exact hq
end
section
variable {prog : Program} {w : World} {A : Around} {E : Value → Shared → Prop} {s : Shared} {h₀ : Heap} {L : Addr} {m : Str → Option Value} {news : List (Addr × Obj)}
theorem cross_call {v1 v2 : Value} {Q : Value → Shared → Prop} (F : Fr h₀ L s.heap m) (N : News h₀ L s.heap news) (X₀ : (hd.heap_39 w.params).In h₀)
    (hq : ∀ e t h', Fr h₀ L h' m → News h₀ L h' ((e, { cls := .ref 173, data := .fields #[.ref t, .none, .none, .none, .bool false, .none] }) :: (t, { cls := .type "tuple", data := .seq #[v1, v2] }) :: news) → (∀ p ∈ news, p.1 < t) → t < e →
      codeAny (model prog w) (A.under (.builtin "type.__call__" ⟨.ref 173 :: [v1, v2], []⟩)) (.call (.ref 150) ⟨[.ref e, v1, v2], []⟩) (InitBack e fun r s' => match r with | .ok (.ret v) => Q v s' | .ok _ => False | .error x => E x s') { s with heap := h' }) :
    wpAny (model prog w) A (call (.ref 173) [v1, v2]) Q E s := by
  obtain ⟨h, g, d, t, os⟩ := s
  have X := X₀.keeps F.keep
  obtain ⟨nm, q, bs, hdct, sn, sub, ab, col, dd, k0, k1, k2, k3, k5, hC⟩ : ∃ nm q bs hdct sn sub ab col dd k0 k1 k2 k3 k5, h.get? 173 = some (excClassObj nm q 173 172 bs bmC hdct sn sub ab col dd k0 k1 k2 k3 k5 "Exception.__new__") := ⟨_, _, _, _, _, _, _, _, _, _, _, _, _, _, X 173 _ (by k_is)⟩
  have f1 := tc_lookup
  have f2 := tc_bind (.ref 173)
  have hT : (⟨h, g, d, t, os⟩ : Shared).TypeIs (.ref 173) "type" := ⟨_, hC, rfl⟩
  refine wpAny_call (codeAny_of_tree ?_)
  show wpAny _ _ (callAny (.ref 173) _) _ _ _
  repeat (any_goals (first | assumption | with_reducible refine wpAny_loadPart_at hC ?_ | wp_step))
  refine ⟨rfl, ?_⟩
  refine codeAny_call_builtin_at (Code.quiet_builtin _ (by decide +kernel)) entry_typeCall (wpAny_check_type_call_sub hC ?_)
  repeat (first | with_reducible refine wpAny_loadPart_at hC ?_ | with_reducible refine wpAny_madeBy_exc hC ?_ | wp_step)
  refine codeAny_call_builtin_code (Code.quiet_builtin _ PySem.F.excBase_Exception.quiet) (cross_check_new hC ?_)
  refine cross_new hC ?_ (by rw [sizeLine_eq]; show 2 ≤ _; omega)
  show wpAny _ _ _ _ _ _
  have hC₁ := Heap.get?_push_of_some { cls := .ref 173, data := .fields #[.ref h.objs.size, .none, .none, .none, .bool false, .none] }
    (Heap.get?_push_of_some { cls := .type "tuple", data := .seq [v1, v2].toArray } hC)
  have X₁ : (hd.heap_39 w.params).In ((h.push { cls := .type "tuple", data := .seq [v1, v2].toArray }).push { cls := .ref 173, data := .fields #[.ref h.objs.size, .none, .none, .none, .bool false, .none] }) :=
    X.keeps fun b o e => Heap.get?_push_of_some _ (Heap.get?_push_of_some _ e)
  have hget : ((h.push { cls := .type "tuple", data := .seq [v1, v2].toArray }).push { cls := .ref 173, data := .fields #[.ref h.objs.size, .none, .none, .none, .bool false, .none] }).get? (h.objs.size + 1) = some
      { cls := .ref 173, data := .fields #[.ref h.objs.size, .none, .none, .none, .bool false, .none] } := by heap_get
  have hcC : (Value.ref 173 :: bmC).contains (.ref 173) = true := by decide
  unfold isInstance
  repeat (first | with_reducible refine wpAny_loadPart_at hget ?_ | (with_reducible refine wpAny_isSubtype_exc hC₁ ?_; rw [hcC]) | wp_step)
  show wpAny _ _ (isSubtype (.ref 173) _) _ _ _
  refine wpAny_isSubtype_exc hC₁ ?_
  rw [hcC]
  repeat wp_step
  show wpAny _ _ (typeLookup (.ref 173) _) _ _ _
  refine (looks_findIn (K := hd.heap_39 w.params) (r := some (.ref 150)) X₁ (by k_is)).here ?_
  refine wpAny_holding (wpAny_bind ((bind_fn X₁ _ (by k_is)).here ?_))
  have N₁ := (N.push F { cls := .type "tuple", data := .seq [v1, v2].toArray }).push (F.push _) { cls := .ref 173, data := .fields #[.ref h.objs.size, .none, .none, .none, .bool false, .none] }
  rw [Heap.size_push] at N₁
  refine wpAny_bind (wpAny_call (codeAny_mono (hq _ _ _ ((F.push _).push _) N₁ (fun p hp => Heap.lt_size (N p hp).1) (Nat.lt_succ_self _)) (fun r s' hr => ?_)))
  cases r with
  | error e => exact hr
  | ok f =>
    cases f with
    | ret v =>
      obtain ⟨rfl, hQ⟩ := hr
      wp_walk
      exact hQ
    | next => exact hr.elim
    | brk => exact hr.elim
    | cont => exact hr.elim
end
end
section
open PySem PySem.W PySem.Calls PyProof.Rows Builtin Builtin.ObjectAttr Builtin.Getset_descriptor
abbrev mroC : List Value := [.ref 173, .ref 160, .type "Exception", .type "BaseException", .type "object"]
theorem refuse_exc (self : Value) : refuseLoop self "__setattr__" mroC = pure () := by
  rw [refuseLoop_ref, refuseLoop_ref]; kernel_rfl
/-- the object of a CrossFault -/
abbrev excO (d : Option Addr) (vs : Array Value) : Obj := { cls := .ref 173, dict := d, data := .fields vs }
section
variable {prog : Program} {w : World} {A : Around} {R : Result → Shared → Prop} {E : Value → Shared → Prop} {s : Shared} {h₀ : Heap} {L : Addr} {m : Str → Option Value} {news : List (Addr × Obj)} {x : Addr} {dd : Option Addr} {vs : Array Value} {od : Option Obj}
theorem osa_exc {name : Str} {tk : Tok} {v : Value} (X : (hd.heap_39 w.params).In s.heap) (I : InstAt s.heap x (excO dd vs) 173 od) (ht : findIn (hd.heap_39 w.params) (.ref 173) name = some none)
    (h : ∀ b, wpAny (model prog w) A.in1 (storeInOwnDict (.ref x) (.ref 173) (.str name tk) name v b)
      (fun fin s' => match fin with | .done f => R (.ok f) s' | .again c' => c'.quiet = true ∧ codeAny (model prog w) A c' R s') (fun e s' => R (.error e) s') s) :
    codeAny (model prog w) A (.call (.builtin "object.__setattr__") ⟨[.ref x, .str name tk, v], []⟩) R s := by
  have SF := PySem.F.store_object
  have sub : Looks (model prog w) s.heap (isInstance (.ref x) (.type "object")) true := I.type.andThen (looks_mroIn X (by k_is))
  refine codeAny_call_builtin SF.slot.plain SF.entry (@check_slot (model prog w) _ _ s "object.__setattr__" "object" "__setattr__" (.ref x) [.str name tk, v] [] _ SF.kind SF.split sub (SF.args (.ref x) (.str name tk) v) ?_)
  obtain ⟨cd, hc, hm'⟩ : ∃ cd, clsIn (hd.heap_39 w.params) 173 = some cd ∧ cd.mro = mroC := ⟨_, by k_is, rfl⟩
  have hm : Looks (model prog w) s.heap (mroOf (.ref 173)) mroC := hm' ▸ (looks_clsIn X hc).andThen .now
  rw [osa_eq, refuse_eq]
  refine wpAny_bind (wpAny_bind (I.type.here (wpAny_bind (hm.here ?_))))
  rw [refuse_exc]
  exact wpAny_pure (wpAny_bind (I.type.here (wpAny_bind ((looks_findIn X ht).here (wpAny_bind (wpAny_pure (h _)))))))
theorem exc_set1 {name : Str} {v : Value} {dx : Addr} {es es' : List DictEntry} {n n' : Nat} {news' : List (Addr × Obj)} {Q : Unit → Shared → Prop} (F : Fr h₀ L s.heap m) (X₀ : (hd.heap_39 w.params).In h₀) (N : News h₀ L s.heap news)
    (hx : (x, excO (some dx) vs) ∈ news) (hdx : (dx, dictOf es n) ∈ news) (ht : findIn (hd.heap_39 w.params) (.ref 173) name = some none) (hl : (getL name es).isSome = true)
    (e : (putL name (PyData.keyHash w.params name) (.str name (s.toks + 1)) v es, putN name es n) = (es', n')) (U : Upd dx (dictOf es n) (dictOf es' n') news news') (hz : es'.length ≤ 1000)
    (h : ∀ h', Fr h₀ L h' m → News h₀ L h' news' → Q () { s with heap := h', toks := s.toks + 2 }) :
    wpAny (model prog w) A (setAttr (.ref x) name v) Q E s := by
  obtain ⟨hh, gg, dr, tt, oo⟩ := s
  have X : (hd.heap_39 w.params).In hh := X₀.keeps F.keep
  have I : InstAt hh x (excO (some dx) vs) 173 (some (dictOf es n)) := ⟨(N _ hx).1, rfl, rfl, (N _ hdx).1⟩
  refine set_plain X I (by k_is) (osa_exc (s := ⟨hh, gg, dr, tt + 1, oo⟩) X I ht fun b => ?_)
  obtain ⟨pre, post, rfl, rfl, h1, h2⟩ := U.split
  obtain ⟨e1, e2⟩ := Prod.mk.inj e
  obtain ⟨U1, U2⟩ := news_upd (f := Obj.putName name (PyData.keyHash w.params name) (.str name (tt + 1)) v) F N h1 h2 (by rw [putName_dict, e1, e2]) rfl
  have D := (N (dx, dictOf es n) (by simp)).1
  have D' := (U2 (dx, dictOf es' n') (by simp)).1
  obtain ⟨cd, hc, hd'⟩ : ∃ cd, clsIn (hd.heap_39 w.params) 173 = some cd ∧ cd.hasDict = true := ⟨_, by k_is, rfl⟩
  refine wpAny_bind (wpAny_pure (wpAny_bind (wpAny_bind (wpAny_loadPart (N _ hx).1 (wpAny_bind ((looks_clsIn X hc).here ?_))))))
  rw [hd']
  refine wpAny_pure (a := some dx) (wpAny_bind (wpAny_pure (wpAny_bind ?_)))
  unfold nsSet
  refine wpAny_bind (wpAny_bind (wpAny_askSetting (wpAny_pure (wpAny_bind (wpAny_mkText (wpAny_bind (wpAny_loadPart D ?_)))))))
  dsimp only
  have c : (!es.any (·.key.isStr name) && es.any (·.refKey)) = false := by
    unfold getL at hl
    split at hl
    · rename_i en he
      rw [List.any_eq_true.mpr ⟨en, List.mem_of_find?_eq_some he, List.find?_some he⟩]; rfl
    · split at hl
      · cases hl
      · rename_i z; rw [Bool.not_eq_true] at z; rw [z, Bool.and_false]
  rw [aRefKeyMayBeTheName_at, List.any_toArray, List.any_toArray, c]
  refine wpAny_updatePart D ?_
  refine wpAny_bind (wpAny_lookBehind D' (pastItsLine_dict (by rw [List.size_toArray, sizeLine_eq]; omega)) ?_)
  exact wpAny_pure (h _ U1 U2)
theorem exc_set0 {name : Str} {v : Value} {rest : List (Addr × Obj)} {Q : Unit → Shared → Prop} (F : Fr h₀ L s.heap m) (X₀ : (hd.heap_39 w.params).In h₀) (N : News h₀ L s.heap ((x, excO none vs) :: rest)) (hr : ∀ p ∈ rest, p.1 ≠ x)
    (ht : findIn (hd.heap_39 w.params) (.ref 173) name = some none)
    (h : ∀ d h', Fr h₀ L h' m → News h₀ L h' ((x, excO (some d) vs) :: (d, dictOf [⟨PyData.keyHash w.params name, .str name (s.toks + 1), v⟩] 1) :: rest) → x < d → (∀ p ∈ rest, p.1 < d) → Q () { s with heap := h', toks := s.toks + 2 }) :
    wpAny (model prog w) A (setAttr (.ref x) name v) Q E s := by
  obtain ⟨hh, gg, dr, tt, oo⟩ := s
  have X : (hd.heap_39 w.params).In hh := X₀.keeps F.keep
  have hx := (N _ (List.Mem.head _)).1
  have I : InstAt hh x (excO none vs) 173 none := ⟨hx, rfl, rfl, trivial⟩
  refine set_plain X I (by k_is) (osa_exc (s := ⟨hh, gg, dr, tt + 1, oo⟩) X I ht fun b => ?_)
  have hlt : ∀ p ∈ (x, excO none vs) :: rest, p.1 < hh.objs.size := fun p hp => Heap.lt_size (N p hp).1
  have hxd : x < hh.objs.size := hlt _ (List.Mem.head _)
  have F1 := F.push { cls := .type "dict", data := .dict #[] }
  have N1 := N.push F { cls := .type "dict", data := .dict #[] }
  obtain ⟨F2, N2⟩ := news_upd (pre := [_]) (f := fun (o : Obj) => { o with dict := some hh.objs.size }) F1 N1 (fun p hp => by rw [List.mem_singleton.mp hp]; exact Nat.ne_of_gt hxd) hr rfl rfl
  obtain ⟨F3, N3⟩ := news_upd (pre := []) (o' := dictOf [⟨PyData.keyHash w.params name, .str name (tt + 1), v⟩] 1) (f := Obj.putName name (PyData.keyHash w.params name) (.str name (tt + 1)) v) F2 N2 (fun p hp => nomatch hp)
    (fun p hp => by
      rcases List.mem_cons.mp hp with h1 | h1
      · rw [h1]; exact Nat.ne_of_lt hxd
      · exact Nat.ne_of_lt (hlt p (List.Mem.tail _ h1))) (putName_dict name _ _ v [] 0) rfl
  have D := (N2 _ (List.Mem.head _)).1
  have D' := (N3 _ (List.Mem.head _)).1
  obtain ⟨cd, hc, hd'⟩ : ∃ cd, clsIn (hd.heap_39 w.params) 173 = some cd ∧ cd.hasDict = true := ⟨_, by k_is, rfl⟩
  refine wpAny_bind (wpAny_pure (wpAny_bind (wpAny_bind (wpAny_loadPart hx (wpAny_bind ((looks_clsIn X hc).here ?_))))))
  rw [hd']
  refine wpAny_bind (wpAny_alloc' (wpAny_bind (wpAny_update (N1 _ (List.Mem.tail _ (List.Mem.head _))).1 ?_)))
  refine wpAny_bind (wpAny_pure (wpAny_pure ?_))
  refine wpAny_bind (wpAny_pure (wpAny_bind ?_))
  unfold nsSet
  refine wpAny_bind (wpAny_bind (wpAny_askSetting (wpAny_pure (wpAny_bind (wpAny_mkText (wpAny_bind (wpAny_loadPart D ?_)))))))
  dsimp only
  refine wpAny_updatePart D ?_
  refine wpAny_bind (wpAny_lookBehind D' (pastItsLine_dict (by show 1 ≤ _; omega)) ?_)
  exact wpAny_pure (h _ _ F3 (fun p hp => N3 p (by
    rcases List.mem_cons.mp hp with h1 | h1
    · rw [h1]; exact List.Mem.tail _ (List.Mem.head _)
    · rcases List.mem_cons.mp h1 with h2 | h2
      · rw [h2]; exact List.Mem.head _
      · exact List.Mem.tail _ (List.Mem.tail _ h2))) hxd (fun p hp => hlt p (List.Mem.tail _ hp)))
end
end
section
open PySem PySem.W PyProof.Rows
section
variable {M : Model} {A : Around} {E : Value → Shared → Prop} {h : Heap} {g : Array GenState} {d : Drawn} {t : Nat} {os : OsState}
variable {nm q : Str} {bs : List Value} {hdct : Bool} {sn : List Str} {sub : List Value} {ab : Bool} {col : Option Bool} {dd : Option Addr} {k0 k1 k2 k3 k5 : Option Value}
theorem cross_check_init {e : Addr} {oe : Obj} {rest : List Value} {Q : Unit → Shared → Prop} (hC : h.get? 173 = some (excClassObj nm q 173 172 bs bmC hdct sn sub ab col dd k0 k1 k2 k3 k5 "Exception.__new__")) (he : h.get? e = some oe) (hcls : oe.cls = .ref 173)
    (hq : Q () ⟨h, g, d, t, os⟩) : wpAny M A (checkBuiltinCall "Exception.__init__" ⟨.ref e :: rest, []⟩) Q E ⟨h, g, d, t, os⟩ := by
  have F := PySem.F.excBase_Exception
  have hcB : (Value.ref 173 :: bmC).contains (.type "Exception") = true := by decide
  have hshort := F.noStar
  simp only [checkBuiltinCall, F.initKind, F.initSplit, F.initRow]
  repeat (first | (with_reducible refine wpAny_loadPart_at he ?_; rw [hcls]) | with_reducible refine wpAny_loadPart_at hC ?_ | (with_reducible refine wpAny_isSubtype_exc hC ?_; rw [hcB]) | wp_step)
  refine wpAny_onRaise ?_
  rw [show ∀ (a b : String) (n : Nat), Bind.check ⟨.positional, "*", "Exception", .self, [⟨"args", .varPos, false⟩]⟩ a b n (List.map (fun x => x.fst) ({ pos := Value.ref e :: rest } : Args).kw) = pure () from
    fun a b n => check_star_args _ _ _ _ _ _]
  exact wpAny_pure hq
end
section
variable {prog : Program} {w : World} {A : Around} {E : Value → Shared → Prop} {s : Shared} {h₀ : Heap} {L : Addr} {m : Str → Option Value} {news : List (Addr × Obj)} {x : Addr} {dd : Option Addr} {t0 : Addr} {a1 a2 a3 a4 a5 : Value}
theorem exc_init {v : Value} {Q : Value → Shared → Prop} (F : Fr h₀ L s.heap m) (X₀ : (hd.heap_39 w.params).In h₀) (N : News h₀ L s.heap ((x, excO dd #[.ref t0, a1, a2, a3, a4, a5]) :: news)) (hr : ∀ p ∈ news, p.1 ≠ x)
    (h : ∀ t h', Fr h₀ L h' m → News h₀ L h' ((x, excO dd #[.ref t, a1, a2, a3, a4, a5]) :: (t, { cls := .type "tuple", data := .seq #[v] }) :: news) → x < t → (∀ p ∈ news, p.1 < t) → Q .none { s with heap := h' }) :
    wpAny (model prog w) A (call (.builtin "Exception.__init__") [.ref x, v]) Q E s := by
  obtain ⟨hh, gg, dr, tt, oo⟩ := s
  have X : (hd.heap_39 w.params).In hh := X₀.keeps F.keep
  obtain ⟨nm, q, bs, hdct, sn, sub, ab, col, dd, k0, k1, k2, k3, k5, hC⟩ : ∃ nm q bs hdct sn sub ab col dd k0 k1 k2 k3 k5, hh.get? 173 = some (excClassObj nm q 173 172 bs bmC hdct sn sub ab col dd k0 k1 k2 k3 k5 "Exception.__new__") := ⟨_, _, _, _, _, _, _, _, _, _, _, _, _, _, X 173 _ (by k_is)⟩
  have FF := PySem.F.excBase_Exception
  have hx := (N _ (List.Mem.head _)).1
  refine wpAny_call (codeAny_call_builtin FF.init.plain FF.initEntry (cross_check_init hC hx rfl ?_))
  unfold Builtin.«BaseException.__init__»
  wp_walk
  have hxd : x < hh.objs.size := Heap.lt_size hx
  obtain ⟨F2, N2⟩ := news_upd (pre := [_]) (f := Obj.mapFields fun y => y.setIfInBounds 0 (Value.ref hh.objs.size)) (F.push { cls := .type "tuple", data := .seq #[v] }) (N.push F { cls := .type "tuple", data := .seq #[v] })
    (fun p hp => by rw [List.mem_singleton.mp hp]; exact Nat.ne_of_gt hxd) hr rfl rfl
  refine h _ _ F2 (fun p hp => N2 p ?_) hxd (fun p hp => Heap.lt_size (N p (List.Mem.tail _ hp)).1)
  rcases List.mem_cons.mp hp with h1 | h1
  · rw [h1]; exact List.Mem.tail _ (List.Mem.head _)
  · rcases List.mem_cons.mp h1 with h2 | h2
    · rw [h2]; exact List.Mem.head _
    · exact List.Mem.tail _ (List.Mem.tail _ h2)
theorem method_exc {pl : Sem Bool} {Q : Value × List Value → Shared → Prop} (F : Fr h₀ L s.heap m) (X₀ : (hd.heap_39 w.params).In h₀) (h : Q (.builtin "Exception.__init__", []) { s with toks := s.toks + 1 }) :
    wpAny (model prog w) A (getMethod (.type "Exception") (Str.ofString "__init__") pl) Q E s :=
  method_type F X₀ (by first | rfl | kernel_rfl) (by decide +kernel) (by k_is) (by decide +kernel) h
end
end
section
open PySem PySem.W PyProof.Rows
theorem ne_all {d : Nat} {l : List (Addr × Obj)} (h : ∀ p ∈ l, p.1 < d) : ∀ p ∈ l, p.1 ≠ d := fun p hp => Nat.ne_of_lt (h p hp)
/-- the entries of a fault's own dict -/
def FaultE (k : Int) (es : List DictEntry) : Prop :=
  ∃ h1 t1 v1 h2 t2 tk, es = [⟨h1, .str (Str.ofString "what") t1, v1⟩, ⟨h2, .str (Str.ofString "at") t2, .int k tk⟩]
end
section
open PySem PySem.W PyProof.Rows
local macro_rules | `(tactic| walk_at "zz") => `(tactic| fail "zz")
local macro_rules | `(tactic| walk_at "zz") => `(tactic| fail "zz")
local macro_rules | `(tactic| k_all) => `(tactic| first | assumption | exact ne_all (by assumption))
local macro_rules | `(tactic| walk_at "getMethod type:Exception") => `(tactic| (k_here; k_dflt (refine' method_exc ?F ?X ?_; (case F => k_asm); (case X => k_asm); k_whole)))
local macro_rules | `(tactic| walk_at "call builtin:Exception.__init__") => `(tactic| (k_here; k_dflt (refine' exc_init ?F ?X ?N ?hr ?_; (case F => k_asm); (case X => k_asm); (case N => k_asm); (case hr => k_all); k_whole); intro t' h' F' N' l1 l2; (try k_lt2 l1); walk_at "ci"))
local macro_rules | `(tactic| walk_at "setAttr ref") => `(tactic| (k_here; k_dflt (refine' exc_set0 ?F ?X ?N ?hr ?t ?_; (case F => k_asm); (case X => k_asm); (case N => k_asm); (case hr => k_all); (case t => k_is); k_whole); intro d' h' F' N' l1 l2; (try k_lt2 l1); walk_at "ci"))
local macro_rules | `(tactic| walk_at "setAttr ref") => `(tactic| (k_here; k_dflt (refine' exc_set1 ?F ?X ?N ?hx ?hdx ?t ?l ?e ?U ?z ?_; (case F => k_asm); (case X => k_asm); (case N => k_asm); (case hx => k_mem); (case hdx => k_mem); (case t => k_is); (case l => k_get); (case e => k_put); (case U => k_upd); (case z => exact Nat.le_of_ble_eq_true (by with_unfolding_all rfl)); k_whole); intro h' F' N'; walk_at "ci"))
set_option maxHeartbeats 4000000 in
theorem cross_ok {w : World} {mean : ExcName → Option Value} {mg mb : Str → Option Value} {dp un : Nat} {gd : Option (List Code)} {cn : Str} {cs : Scope} {a : Addr} {ccd : Value} {cl : List (Str × Addr)} {outer : List Env} {A₀ : Around} {base h₀ : Heap} {L : Addr} {m : Str → Option Value} {s : Shared} {Q E : Value → Shared → Prop}
    {W : Str} {k : Int} {tw tk : Tok} {news : List (Addr × Obj)}
    (B : Below A₀ base outer h₀) (F : Fr h₀ L s.heap m) (X : (hd.heap_39 w.params).In h₀) (N : News h₀ L s.heap news)
    (T : Top hd.view_39 LW mean mg mb h₀) (hk : cs.kind = .function) (hd : dp + 3 < recursionLimit) (hu : un + 120 < cLine)
    (ret : ∀ e d a0 es h' tk', FaultE k es → (∀ p ∈ news, p.1 < e) → (∀ p ∈ news, p.1 < d) → e ≠ d → Fr h₀ L h' m → News h₀ L h' ((e, excO (some d) #[a0, .none, .none, .none, .bool false, .none]) :: (d, dictOf es 2) :: news) → Q (.ref e) { s with heap := h', toks := tk' }) :
    wpAny (model PP w) (ktrTop dp un gd cn cs L a ccd cl outer) (call (.ref 173) [.str W tw, .int k tk]) Q E s := by
  refine cross_call F N X fun e t h' F' N' l1 l2 => ?_
  have l3 : ∀ p ∈ news, p.1 < e := fun p hp => Nat.lt_trans (l1 p hp) l2
  have l4 : ∀ p ∈ (t, ({ cls := .type "tuple", data := .seq #[.str W tw, .int k tk] } : Obj)) :: news, p.1 ≠ e := fun p hp => by
    rcases List.mem_cons.mp hp with h1 | h1
    · rw [h1]; exact Nat.ne_of_lt l2
    · exact Nat.ne_of_lt (l3 p h1)
  k_lt2 l2
  k_dflt cell_enter
  k_steps
  all_goals first
    | (rename News h₀ L _ ((_, _) :: (_, dictOf _ 2) :: _) => kN9
       rename Fr h₀ L _ m => kF9
       rename e < _ => hlt9
       rename (∀ p ∈ (_, _) :: (_, _) :: news, p.1 < _) => hall9
       exact ret _ _ _ _ _ _ ⟨_, _, _, _, _, _, rfl⟩ l3 (fun p hp => hall9 p (List.Mem.tail _ (List.Mem.tail _ hp))) (Nat.ne_of_lt hlt9) kF9 (cb_drop kN9 fun y hy => by
         rcases List.mem_cons.mp hy with h1 | h1
         · rw [h1]; exact List.Mem.head _
         · rcases List.mem_cons.mp h1 with h2 | h2
           · rw [h2]; exact List.Mem.tail _ (List.Mem.head _)
           · exact List.Mem.tail _ (List.Mem.tail _ (List.Mem.tail _ (List.Mem.tail _ h2)))))
end
section
open PySem PySem.W PySem.Calls PySem.Spec PyProof.Rows
/-- trees that turn no object's dict -/
def KD {α : Type} : Sem α → Prop
  | .pure _ => True
  | .raise _ => True
  | .unsupported _ => True
  | .finish _ => True
  | .rule _ k => KD (k ())
  | .at _ k => KD (k ())
  | .load _ _ k => ∀ o, KD (k o)
  | .update _ _ f k => (∀ o : Obj, (f o).dict = o.dict ∧ (o.isFreed = false → (f o).isFreed = false)) ∧ KD (k ())
  | .alloc _ k => ∀ a, KD (k a)
  | .point _ k => KD (k ())
  | .fresh k => ∀ t, KD (k t)
  | .ask k => ∀ x, KD (k x)
  | .stack k => ∀ x, KD (k x)
  | .handled _ k => ∀ x, KD (k x)
  | _ => False
theorem KD.bind {α β : Type} {f : α → Sem β} (hf : ∀ a, KD (f a)) : ∀ m : Sem α, KD m → KD (m >>= f) := by
  intro m
  show KD m → KD (m.bind f)
  induction m with
  | pure a => intro _; exact hf a
  | raise e => intro _; trivial
  | unsupported w => intro _; trivial
  | finish e => intro _; trivial
  | rule t k ih => intro h; exact ih () h
  | «at» p k ih => intro h; exact ih () h
  | load a p k ih => intro h o; exact ih o (h o)
  | update a p g k ih => intro h; exact ⟨h.1, ih () h.2⟩
  | alloc o k ih => intro h a; exact ih a (h a)
  | point l k ih => intro h; exact ih () h
  | fresh k ih => intro h t; exact ih t (h t)
  | ask k ih => intro h t; exact ih t (h t)
  | stack k ih => intro h t; exact ih t (h t)
  | handled o k ih => intro h t; exact ih t (h t)
  | _ => intro h; exact h.elim
/-- every object stays, with its dict -/
def Dicts (h h' : Heap) : Prop := ∀ b o, h.get? b = some o → ∃ o', h'.get? b = some o' ∧ o'.dict = o.dict
theorem Dicts.refl (h : Heap) : Dicts h h := fun _ o e => ⟨o, e, rfl⟩
theorem Dicts.trans {h₁ h₂ h₃ : Heap} (x : Dicts h₁ h₂) (y : Dicts h₂ h₃) : Dicts h₁ h₃ := fun b o e =>
  let ⟨o', e', d'⟩ := x b o e
  let ⟨o'', e'', d''⟩ := y b o' e'
  ⟨o'', e'', d''.trans d'⟩
theorem Dicts.push (h : Heap) (o : Obj) : Dicts h (h.push o) := fun _ x e => ⟨x, Heap.get?_push_of_some _ e, rfl⟩
theorem Dicts.update {h : Heap} {a : Addr} {f : Obj → Obj} (hf : ∀ o : Obj, (f o).dict = o.dict ∧ (o.isFreed = false → (f o).isFreed = false)) : Dicts h (h.update a f) := fun b o e => by
  by_cases q : a = b
  · subst q
    exact ⟨f o, Heap.get?_update_self f e ((hf o).2 (Heap.get?_some_iff.mp e).2), (hf o).1⟩
  · exact ⟨o, (Heap.get?_update_other _ _ q).trans e, rfl⟩
theorem wp_dicts {α : Type} {M : Model} {Γ : PySem.Ctx} {Q : α → Pos → Shared → Prop} {E : Value → Pos → Shared → Prop} (h₀ : Heap) : ∀ (t : Sem α) (p : Pos) (s : Shared), KD t → Dicts h₀ s.heap → Sem.wp M Γ t Q E p s →
    Sem.wp M Γ t (fun a p' s' => Q a p' s' ∧ Dicts h₀ s'.heap) (fun e p' s' => E e p' s' ∧ Dicts h₀ s'.heap) p s := by
  intro t
  induction t with
  | pure a => intro p s _ d h; exact ⟨h, d⟩
  | raise e => intro p s _ d h; exact ⟨h, d⟩
  | unsupported w => intro p s _ d h; exact h
  | finish e => intro p s _ d h; exact h
  | rule t k ih => intro p s hk d h; exact ih () p s hk d h
  | «at» p' k ih => intro p s hk d h; exact ih () p' s hk d h
  | load a pt k ih => intro p s hk d h; obtain ⟨o, ho, h⟩ := h; exact ⟨o, ho, ih o p s (hk o) d h⟩
  | update a pt g k ih => intro p s hk d h; exact ⟨h.1, ih () p _ hk.2 (d.trans (Dicts.update hk.1)) h.2⟩
  | alloc o k ih => intro p s hk d h; exact ih _ p _ (hk _) (d.trans (Dicts.push _ _)) h
  | point l k ih => intro p s hk d h; exact ih () p s hk d h
  | fresh k ih => intro p s hk d h; exact ih _ p _ (hk _) d h
  | ask k ih => intro p s hk d h; exact ih _ p s (hk _) d h
  | stack k ih => intro p s hk d h; exact ih _ p s (hk _) d h
  | handled o k ih => intro p s hk d h; exact ih _ p s (hk _) d h
  | _ => intro p s hk; exact hk.elim
theorem wpAny_dicts {α : Type} {M : Model} {A : Around} {t : Sem α} {Q : α → Shared → Prop} {E : Value → Shared → Prop} {s : Shared} (hk : KD t) (h : wpAny M A t Q E s) :
    wpAny M A t (fun a s' => Q a s' ∧ Dicts s.heap s'.heap) (fun e s' => E e s' ∧ Dicts s.heap s'.heap) s := fun Γ p hΓ => wp_dicts s.heap t p s hk (Dicts.refl _) (h Γ p hΓ)

theorem KD_field (v : Value) (i : Nat) : KD (field v i) := by
  unfold field fieldsOf
  refine KD.bind (fun a => ?_) _ ?_
  · split <;> trivial
  · cases v <;> try trivial
    refine KD.bind (fun o => ?_) _ (fun _ => trivial)
    split <;> trivial
theorem mapFields_dict (f : Array Value → Array Value) (o : Obj) : (Obj.mapFields f o).dict = o.dict ∧ (o.isFreed = false → (Obj.mapFields f o).isFreed = false) := by
  obtain ⟨c, d, dt, sl⟩ := o
  cases dt <;> exact ⟨rfl, fun h => h⟩
theorem KD_setField (e : Value) (i : Nat) (x : Value) : KD (setField e i x) := by
  unfold setField
  split
  · unfold updateField
    refine KD.bind (fun o => ?_) _ (fun _ => trivial)
    split
    · split
      · exact ⟨mapFields_dict _, trivial⟩
      · trivial
    · trivial
  · trivial
theorem KD_setFlight (e : Value) (f : Option Addr) : KD (setFlight e f) := by
  unfold setFlight
  refine KD.bind (fun tb => ?_) _ (KD_field _ _)
  split
  · exact KD_setField _ _ _
  · trivial
theorem KD_ready : ∀ l : List Env, KD (readyFrames l)
  | [] => trivial
  | env :: outer => by
    unfold readyFrames
    split
    · refine KD.bind (fun o => ?_) _ (fun _ => trivial)
      split
      · trivial
      · refine KD.bind (fun im => ?_) _ ?_
        · refine KD.bind (fun bk => ?_) _ ?_
          · exact ⟨fun o => ⟨rfl, fun h => by obtain ⟨c, d, dt, sl⟩ := o; cases dt <;> exact h⟩, KD_ready outer⟩
          · unfold keptBack
            split
            · split
              · trivial
              · refine KD.bind (fun a => ?_) _ ?_
                · trivial
                · exact fun _ => trivial
            · trivial
        · unfold behindIsImport
          split
          · trivial
          · split
            · trivial
            · refine KD.bind (fun a => ?_) _ (KD_field _ _)
              trivial
    · trivial
theorem KD_frameOf (env : Env) : KD (PySem.frameOf env) := by
  unfold PySem.frameOf
  refine KD.bind (fun l => ?_) _ (fun _ => trivial)
  refine KD.bind (fun v => ?_) _ ?_
  · split <;> trivial
  · generalize l.dropWhile _ = l'
    cases l' with
    | nil => trivial
    | cons x r =>
      unfold frameObject
      refine KD.bind (fun a => ?_) _ (KD_ready _)
      trivial
theorem KD_newFields (ty : String) (vs : List Value) : KD (newFields ty vs) := by
  unfold newFields newObj
  dsimp only
  split
  · trivial
  · exact fun _ => trivial
theorem KD_noteFrame (e : Value) (env : Env) : KD (noteFrame e env) := by
  unfold noteFrame
  split
  · have tail : ∀ (hd : Value) (fl : Addr) , KD (do setField e 1 (← EntryCells.newEntry hd (← PySem.frameOf env) .none (rawInt fl) .none (← entryPlaceOf fl (hd != .none)))) := fun hd fl =>
      KD.bind (fun a => KD.bind (fun pl => KD.bind (fun b => KD_setField _ _ _) _ (KD_newFields _ _)) _ (by
        unfold entryPlaceOf
        refine KD.bind (fun acts => ?_) _ (fun _ => trivial)
        split <;> trivial)) _ (KD_frameOf env)
    refine KD.bind (fun hd => ?_) _ (KD_field _ _)
    split
    · refine KD.bind (fun x => ?_) _ (KD_field _ _)
      split
      · trivial
      · exact KD.bind (fun _ => tail _ _) _ (KD_setField _ _ _)
    · exact tail _ _
  · trivial
theorem KD_leaving (env : Env) (e : Value) : KD (leaving env e) := by
  unfold leaving
  exact KD.bind (fun _ => KD_setFlight _ _) _ (KD_noteFrame _ _)
end
section
open PySem PySem.W PySem.Calls PySem.Spec PyProof.Rows
/-- a CrossFault that flies: the frames below, its own dict's address and object -/
def Fly (base G : Heap) (l : List Env) (e d : Addr) (od : Obj) (h : Heap) : Prop :=
  (∃ B a0, base.StaysIn B ∧ (∀ b o, G.get? b = some o → b ∉ l.filterMap (·.frame) → B.get? b = some o) ∧ (B.get? d = some od ∧ G.get? d = none ∧ base.get? d = none) ∧ Heap.FlyingW B l e (.ref 173) a0 h) ∧ ∃ oe, h.get? e = some oe ∧ oe.dict = some d
section
variable {M : Model} {A : Around} {E : Value → Shared → Prop} {s' : Shared} {base g g₂ : Heap} {outer : List Env} {L a e d : Addr} {od : Obj} {m : Str → Option Value} {name : Str} {scope : Scope} {cd : Value} {Q : Unit → Shared → Prop} {a0 : Value}
theorem leave_first (K : Below A base outer g) (F : Fr g L s'.heap m) (N : News g L s'.heap [(e, excO (some d) #[a0, .none, .none, .none, .bool false, .none]), (d, od)]) (hed : e ≠ d)
    (hQ : ∀ h', Fly base g outer e d od h' → g.UpToSlots h' → Q () { s' with heap := h' }) (hk : scope.kind = .function) :
    wpAny M (A.deeper (envOf name scope L a cd)) (leaving (envOf name scope L a cd) (.ref e)) Q E s' := by
  have K' := K.push (name := name) (a := a) (cd := cd) F hk
  obtain ⟨he, heL, heg⟩ := N _ (List.Mem.head _)
  obtain ⟨hdd, hdL, hdg⟩ := N _ (List.Mem.tail _ (List.Mem.head _))
  have hin : ∀ env ∈ (envOf name scope L a cd :: outer), ∀ b, env.frame = some b → b ∈ e :: (envOf name scope L a cd :: outer).filterMap (·.frame) := fun env he b hb => List.Mem.tail _ (List.mem_filterMap.mpr ⟨env, he, hb⟩)
  have hbe : base.get? e = none := fresh_of_stays K.stays heg
  have hbd : base.get? d = none := fresh_of_stays K.stays hdg
  have st : base.StaysIn (hideAll s'.heap (e :: (envOf name scope L a cd :: outer).filterMap (·.frame))) := fun b o q => hideAll_get _ (K'.stays b o q) fun hm => by
    rcases List.mem_cons.mp hm with z | z
    · rw [z, hbe] at q; cases q
    · rw [(K'.frames.mem z).1] at q; cases q
  have sg : ∀ b o, g.get? b = some o → b ∉ outer.filterMap (·.frame) → (hideAll s'.heap (e :: (envOf name scope L a cd :: outer).filterMap (·.frame))).get? b = some o := fun b o q nm => hideAll_get _ (F.keep b o q) fun hm => by
    rcases List.mem_cons.mp hm with z | z
    · have z' : b = e := z
      rw [z'] at q; exact absurd (heg.symm.trans q) (by simp)
    · rcases kts_mem z with z | z
      · rw [z, kts_self F] at q; cases q
      · exact nm z
  have hB : (hideAll s'.heap (e :: (envOf name scope L a cd :: outer).filterMap (·.frame))).get? d = some od := hideAll_get _ hdd fun hm => by
    rcases List.mem_cons.mp hm with z | z
    · exact hed z.symm
    · rcases kts_mem z with z | z
      · exact hdL z
      · obtain ⟨o, ho, _⟩ := (K.frames.mem z).2
        exact absurd (hdg.symm.trans ho) (by simp)
  refine wpAny_mono (wpAny_dicts (KD_leaving _ _) (wpAny_leaving_firstW (base := hideAll s'.heap (e :: (envOf name scope L a cd :: outer).filterMap (·.frame))) (Q := fun _ s₂ => ∃ h', s₂ = { s' with heap := h' } ∧ Heap.LeftW (hideAll s'.heap (e :: (envOf name scope L a cd :: outer).filterMap (·.frame))) (envOf name scope L a cd :: outer) e (.ref 173) a0 s'.heap h') (E := E)
    K'.stack (funFrames_hide K'.frames hin) rfl he (fun b o q => of_hideAll _ q) (hideAll_none _ (List.Mem.head _)) rfl rfl rfl fun h' hL => ⟨h', rfl, hL⟩)) (fun _ s₂ hh => ?_) (fun _ _ hh => hh.1)
  obtain ⟨⟨h', rfl, k1, ⟨_, _, k2⟩, k3, k4⟩, hD⟩ := hh
  obtain ⟨oe, hoe, hod⟩ := hD e _ he
  exact hQ h' ⟨⟨_, a0, st, sg, ⟨hB, hdg, hbd⟩, k1, hideAll_none _ (List.Mem.head _), k2, k3⟩, oe, hoe, hod⟩ ((Heap.UpToSlots.of_keeps F.keep).trans k4)

theorem leave_next (K : Below A base outer g) (F : Fr g L g₂ m) (R : Fly base g₂ (envOf name scope L a cd :: outer) e d od s'.heap) (hsm : g₂.UpToSlots s'.heap)
    (hQ : ∀ h', Fly base g outer e d od h' → g.UpToSlots h' → Q () { s' with heap := h' }) :
    wpAny M (A.deeper (envOf name scope L a cd)) (leaving (envOf name scope L a cd) (.ref e)) Q E s' := by
  obtain ⟨⟨B, a0, hB, hBG, hl, hfl⟩, oe, hoe, hod⟩ := R
  refine wpAny_mono (wpAny_dicts (KD_leaving _ _) (wpAny_leaves_onW (Q := fun _ s₂ => ∃ h', s₂ = { s' with heap := h' } ∧ Heap.FlyingW B outer e (.ref 173) a0 h' ∧ s'.heap.UpToSlots h') (E := E) (Around.frames_deeper K.stack) rfl hfl fun h' x1 x2 => ⟨h', rfl, x1, x2⟩)) (fun _ s₂ hh => ?_) (fun _ _ hh => hh.1)
  obtain ⟨⟨h', rfl, x1, x2⟩, hD⟩ := hh
  obtain ⟨oe', hoe', hod'⟩ := hD e _ hoe
  exact hQ h' ⟨⟨B, a0, hB, fun b o q nm => hBG b o (F.keep b o q) (fun hm => by
      rcases kts_mem hm with z | z
      · rw [z, kts_self F] at q
        cases q
      · exact nm z), ⟨hl.1, kts_none F.keep hl.2.1, hl.2.2⟩, x1⟩, oe', hoe', hod'.trans hod⟩ ((Heap.UpToSlots.of_keeps F.keep).trans (hsm.trans x2))
end
end
section
open PySem PySem.W PySem.Calls PyProof.Rows
/-- what a raise statement asks of the value that it raises -/
def RaiseEnd (w : World) (E : Value → Shared → Prop) (v : Value) (s : Shared) : Prop :=
  ∃ e dd a0, v = .ref e ∧ (hd.heap_39 w.params).In s.heap ∧ s.heap.get? e = some (excO dd #[a0, .none, .none, .none, .bool false, .none]) ∧ E (.ref e) s
section
variable {prog : Program} {w : World} {A : Around} {E : Value → Shared → Prop} {s : Shared} {env : Env}
theorem raise_K {x : PySem.Expr} {pos : Pos} {Q : Flow → Shared → Prop} (hh : A.handled = none) (h : wpAny (model prog w) A (eval x env) (fun v s₁ => RaiseEnd w E v s₁) E s) :
    wpAny (model prog w) A (exec (.Raise (some x) none pos) env) Q E s := by
  have hcB : (Value.ref 173 :: bmC).contains (.type "BaseException") = true := by decide
  rw [arm_exec_Raise]
  simp only [evalOpt, Option.map]
  refine wpAny_bind (wpAny_standAt ?_)
  unfold raiseStmt
  refine wpAny_bind (wpAny_bind (wpAny_mono h (fun v s₁ h₁ => wpAny_bind (wpAny_standAt (wpAny_pure ?_))) fun _ _ x => x))
  obtain ⟨e, dd, a0, rfl, X, he, hE⟩ := h₁
  obtain ⟨hp, g, d, tk, os⟩ := s₁
  obtain ⟨nm, q, bs, hdct, sn, sub, ab, col, dd, k0, k1, k2, k3, k5, hC⟩ : ∃ nm q bs hdct sn sub ab col dd k0 k1 k2 k3 k5, hp.get? 173 = some (excClassObj nm q 173 172 bs bmC hdct sn sub ab col dd k0 k1 k2 k3 k5 "Exception.__new__") := ⟨_, _, _, _, _, _, _, _, _, _, _, _, _, _, X 173 _ (by k_is)⟩
  repeat (first | with_reducible refine wpAny_loadPart_at he ?_ | with_reducible refine wpAny_loadPart_at hC ?_ | (with_reducible refine wpAny_isSubtype_exc hC ?_; rw [hcB]) | wp_step)

  exact wpAny_raiseNew_none hh hE
end
end
section
section
open PySem PySem.W PyProof.Rows
theorem sub_two {a b : Addr × Obj} {r : List (Addr × Obj)} : ∀ p ∈ [a, b], p ∈ a :: b :: r := fun p hp => by
  rcases List.mem_cons.mp hp with h | h
  · rw [h]; exact List.Mem.head _
  · rw [List.mem_singleton.mp h]; exact List.Mem.tail _ (List.Mem.head _)
theorem lt_of_byte {D : List UInt8} {i : Int} (h : byteAt D i ≠ -1) : i < D.length := by
  unfold byteAt at h
  split at h
  · assumption
  · exact absurd rfl h
/-- where a fault may fly to: it tells the place k -/
def Faults (base h₀ : Heap) (L : Addr) (m : Str → Option Value) (l : List Env) (E : Value → Shared → Prop) (s : Shared) (k : Int) : Prop :=
  ∀ e d es g h' tk', FaultE k es → Fly base g l e d (dictOf es 2) h' → Fr h₀ L g m → g.UpToSlots h' → E (.ref e) { s with heap := h', toks := tk' }
end
local macro_rules | `(tactic| k_all) => `(tactic| first | assumption | exact ne_all (by assumption))
local macro_rules | `(tactic| walk_at "call ref") => `(tactic| (k_here; (with_reducible show wpAny _ _ (call (Value.ref 58) _) _ _ _); k_dflt (refine' peek_ok ?B ?F ?X (cb_drop ?N (Pull.two ?P1 ?P2)) ?T ?hk ?hc ?hi ?hD ?hdx ?hd ?hu ?_; walk_at "cm"); intro t9 h9 tk9 F9 N9; walk_at "ci"))
local macro_rules | `(tactic| walk_at "call ref") => `(tactic| (k_here; (with_reducible show wpAny _ _ (call (Value.ref 65) _) _ _ _); k_dflt (refine' take_ok ?B ?F ?X (cb_drop ?N (Pull.two ?P1 ?P2)) ?T ?hk ?hc ?hi ?hlt ?hD ?hx ?hx' ?hdx ?hd ?hu ?_; walk_at "cm"; (case hlt => first | assumption | omega | exact lt_of_byte (by omega)); walk_at "ck"); intro t9 es9 h9 tk9 hc9 F9 N9; obtain ⟨_, _, _, _, _, _, _, _, _, hq9⟩ := hc9; subst hq9; walk_at "ci"))
local macro_rules | `(tactic| walk_at "call ref") => `(tactic| (k_here; (with_reducible show wpAny _ _ (call (Value.ref 173) _) _ _ _); k_dflt (refine' cross_ok ?B ?F ?X ?N ?T ?hk ?hd ?hu ?_; walk_at "cp"); intro e9 d9 a9 es9 h9 tk9 hf9 he9 hd9 hne9 F9 N9; walk_at "ci"))
local macro_rules | `(tactic| walk_at "exec Raise some none") => `(tactic| (k_here; (with_reducible refine raise_K rfl ?_)))
local macro_rules | `(tactic| walk_at "RaiseEnd") => `(tactic| (k_dflt (refine' ⟨_, _, _, rfl, ?X, ?he, ?_⟩; (case X => k_in); (case he => exact (News.get (by assumption) (List.Mem.head _))); k_whole)))
local macro_rules | `(tactic| walk_at "leaving ref") => `(tactic| (k_here; k_dflt (refine' leave_first ?K ?F (cb_drop ?N sub_two) ?ne ?_ ?hk; (case N => assumption); (case K => assumption); (case F => assumption); (case ne => assumption); (case hk => exact rfl); k_whole); intro h9 fl9 up9))
section
open PySem PySem.W PyProof.Rows
local macro_rules | `(tactic| walk_at "zz") => `(tactic| fail "zz")
local macro_rules | `(tactic| walk_at "call ref") => `(tactic| (k_here; (with_reducible show wpAny _ _ (call (Value.ref 28) _) _ _ _); k_dflt (refine' fig_ok ?B ?F ?X ?N ?T ?hk ?hd ?hu ?_; walk_at "cp"); intro b9 h9 tk9 hb9 hb9' F9 N9; walk_at "ci"))
set_option maxHeartbeats 4000000 in
theorem blank_ok {w : World} {mean : ExcName → Option Value} {mg mb : Str → Option Value} {dp un : Nat} {gd : Option (List Code)} {cn : Str} {cs : Scope} {a : Addr} {ccd : Value} {cl : List (Str × Addr)} {outer : List Env} {A₀ : Around} {base h₀ : Heap} {L : Addr} {m : Str → Option Value} {s : Shared} {Q E : Value → Shared → Prop}
    {x dx : Nat} {D : List UInt8} {i : Int} {es : List DictEntry} {more : List (Addr × Obj)}
    (B : Below A₀ base outer h₀) (F : Fr h₀ L s.heap m) (X : (hd.heap_39 w.params).In h₀) (N : News h₀ L s.heap ((x, instObj 131 dx) :: (dx, dictOf es 3) :: more))
    (T : Top hd.view_39 LW mean mg mb h₀) (hk : cs.kind = .function) (hc : CurE D i es) (hi : 0 ≤ i) (hD : D.length ≤ 1000)
    (hx : ∀ e ∈ more, e.1 ≠ x) (hx' : ∀ e ∈ more, e.1 ≠ dx)
    (hdx : dx < x) (hd : dp + 10 < recursionLimit) (hu : un + 200 < cLine)
    (exc : byteAt D i ≠ 32 → Faults base h₀ L m (envX cn cs L a ccd cl :: outer) E s i)
    (ret : ∀ v es' h' tk', byteAt D i = 32 → CurE D (i + 1) es' → Fr h₀ L h' m → News h₀ L h' ((x, instObj 131 dx) :: (dx, dictOf es' 3) :: more) → Q v { s with heap := h', toks := tk' }) :
    wpAny (model PP w) (ktrTop dp un gd cn cs L a ccd cl outer) (call (.ref 217) [.ref x]) Q E s := by
  obtain ⟨h1, t1, td, h2, t2, ti, h3, t3, te, rfl⟩ := hc
  refine wpAny_call ?_
  k_dflt cell_enter
  k_steps
  all_goals first
    | exact exc (by assumption) _ _ _ _ _ _ (by assumption) (by assumption) (by assumption) (by assumption)
    | (rename News h₀ L _ _ => kN9
       rename Fr h₀ L _ m => kF9
       exact ret _ _ _ _ (by assumption) ⟨_, _, _, _, _, _, _, _, _, rfl⟩ kF9 kN9)
/-- what stands behind an entry's end: its two octets, or its one -/
def EndOk (D : List UInt8) (i j : Int) : Prop :=
  (byteAt D i = 32 ∧ (byteAt D (i + 1) = 13 ∨ byteAt D (i + 1) = 10) ∧ j = i + 2) ∨ (byteAt D i = 13 ∧ byteAt D (i + 1) = 10 ∧ j = i + 2) ∨
  (byteAt D i = 13 ∧ byteAt D (i + 1) ≠ 10 ∧ j = i + 1) ∨ (byteAt D i = 10 ∧ j = i + 1)
def EndNo (D : List UInt8) (i : Int) : Prop := byteAt D i ≠ 13 ∧ byteAt D i ≠ 10 ∧ (byteAt D i = 32 → byteAt D (i + 1) ≠ 13 ∧ byteAt D (i + 1) ≠ 10)
theorem byteAt_iff {D : List UInt8} {i : Int} {a : UInt8} (hi : 0 ≤ i) : byteAt D i = (a.toNat : Int) ↔ D[i.toNat]? = some a := by
  unfold byteAt
  by_cases h : i < D.length
  · have hn : i.toNat < D.length := by omega
    rw [if_pos h, List.getElem?_eq_getElem hn]
    have e : D.getD i.toNat 0 = D[i.toNat] := by simp [List.getD, hn]
    rw [e]
    constructor
    · intro q
      have : D[i.toNat] = a := UInt8.toNat_inj.mp (by omega)
      rw [this]
    · intro q
      rw [Option.some.inj q]
  · have hn : D.length ≤ i.toNat := by omega
    rw [if_neg h, List.getElem?_eq_none hn]
    constructor
    · intro q; omega
    · intro q; cases q
theorem take_two {D : List UInt8} {n : Nat} {a b : UInt8} : (D.drop n).take 2 = [a, b] ↔ D[n]? = some a ∧ D[n + 1]? = some b := by
  have h0 : (D.drop n)[0]? = D[n]? := by rw [List.getElem?_drop]; rfl
  have h1 : (D.drop n)[1]? = D[n + 1]? := by rw [List.getElem?_drop]
  rw [← h0, ← h1]
  cases D.drop n with
  | nil => simp
  | cons x r =>
    cases r with
    | nil => simp
    | cons y r => simp
theorem two_at {D : List UInt8} {i : Int} {a b : UInt8} (hi : 0 ≤ i) : (i + 2 ≤ D.length ∧ (D.drop i.toNat).take 2 = [a, b]) ↔ (byteAt D i = (a.toNat : Int) ∧ byteAt D (i + 1) = (b.toNat : Int)) := by
  rw [byteAt_iff hi, byteAt_iff (by omega), take_two, show (i + 1).toNat = i.toNat + 1 by omega]
  constructor
  · exact fun h => h.2
  · intro h
    refine ⟨?_, h⟩
    have h2 := h.2
    by_cases q : i.toNat + 1 < D.length
    · omega
    · rw [List.getElem?_eq_none (Nat.not_lt.mp q)] at h2; cases h2
theorem line_false {D : List UInt8} {i j : Int} (hl : LineEnd D i false j) : j = i := by
  rcases hl with ⟨_, _, h, _⟩ | ⟨_, _, h, _⟩ | ⟨_, h, _⟩ | ⟨_, _, _, h⟩
  · cases h
  · cases h
  · cases h
  · exact h
theorem skip_j {w : World} {mean : ExcName → Option Value} {mg mb : Str → Option Value} {dp un : Nat} {gd : Option (List Code)} {cn : Str} {cs : Scope} {a : Addr} {ccd : Value} {cl : List (Str × Addr)} {outer : List Env} {A₀ : Around} {base h₀ : Heap} {L : Addr} {m : Str → Option Value} {s : Shared} {Q E : Value → Shared → Prop}
    {x dx : Nat} {D W : List UInt8} {i : Int} {es : List DictEntry} {tw : Tok} {more : List (Addr × Obj)}
    (B : Below A₀ base outer h₀) (F : Fr h₀ L s.heap m) (X : (hd.heap_39 w.params).In h₀) (N : News h₀ L s.heap ((x, instObj 131 dx) :: (dx, dictOf es 3) :: more))
    (T : Top hd.view_39 LW mean mg mb h₀) (hk : cs.kind = .function) (hc : CurE D i es) (hi : 0 ≤ i) (hi' : i ≤ D.length) (hD : D.length ≤ 1000) (hW : W.length ≤ 1000)
    (hx : ∀ e ∈ more, e.1 ≠ x) (hx' : ∀ e ∈ more, e.1 ≠ dx)
    (hdx : dx < x) (hd : dp + 2 < recursionLimit) (hu : un + 110 < cLine)
    (ret : ∀ b j es' h' tk', CurE D j es' → (b = true → (i + W.length ≤ D.length ∧ (D.drop i.toNat).take W.length = W) ∧ j = i + W.length) → (b = false → ¬ (i + W.length ≤ D.length ∧ (D.drop i.toNat).take W.length = W) ∧ j = i) →
      Fr h₀ L h' m → News h₀ L h' ((x, instObj 131 dx) :: (dx, dictOf es' 3) :: more) → Q (.bool b) { s with heap := h', toks := tk' }) :
    wpAny (model PP w) (ktrTop dp un gd cn cs L a ccd cl outer) (call (.ref 79) [.ref x, .bytes W.toArray tw]) Q E s :=
  skip_ok B F X N T hk hc hi hi' hD hW hx hx' hdx hd hu fun b es' h' tk' h1 h2 F' N' => by
    cases b with
    | true => exact ret true _ es' h' tk' (h1 rfl).2 (fun _ => ⟨(h1 rfl).1, rfl⟩) (fun q => nomatch q) F' N'
    | false => exact ret false _ es' h' tk' (h2 rfl).2 (fun q => nomatch q) (fun _ => ⟨(h2 rfl).1, rfl⟩) F' N'
theorem end_no {D : List UInt8} {i j : Int} (hi : 0 ≤ i) (n3 : ¬ (i + (([32, 13] : List UInt8).length : Int) ≤ D.length ∧ (D.drop i.toNat).take ([32, 13] : List UInt8).length = [32, 13])) (n2 : ¬ (i + (([32, 10] : List UInt8).length : Int) ≤ D.length ∧ (D.drop i.toNat).take ([32, 10] : List UInt8).length = [32, 10]))
    (hl : LineEnd D i false j) : EndNo D i := by
  have a3 := mt (two_at (a := 32) (b := 13) hi).mpr n3
  have a2 := mt (two_at (a := 32) (b := 10) hi).mpr n2
  simp only [UInt8.reduceToNat, not_and] at a3 a2
  rcases hl with ⟨_, _, h, _⟩ | ⟨_, _, h, _⟩ | ⟨_, h, _⟩ | ⟨h1, h2, _, _⟩
  · cases h
  · cases h
  · cases h
  · exact ⟨h1, h2, fun q => ⟨fun r => a3 q r, fun r => a2 q r⟩⟩
theorem end_yes {D : List UInt8} {i j : Int} (hi : 0 ≤ i) (n1 : ¬ (i + (([13, 10] : List UInt8).length : Int) ≤ D.length ∧ (D.drop i.toNat).take ([13, 10] : List UInt8).length = [13, 10]))
    (hl : LineEnd D i true j) : EndOk D i j := by
  have a1 := mt (two_at (a := 13) (b := 10) hi).mpr n1
  simp only [UInt8.reduceToNat, not_and] at a1
  rcases hl with ⟨h1, h2, _, _⟩ | ⟨h1, h2, _, h3⟩ | ⟨h1, _, h2⟩ | ⟨_, _, h, _⟩
  · exact (a1 h1 h2).elim
  · exact .inr (.inr (.inl ⟨h1, h2, h3⟩))
  · exact .inr (.inr (.inr ⟨h1, h2⟩))
  · cases h
theorem end_two1 {D : List UInt8} {i : Int} (hi : 0 ≤ i) (q : i + (([32, 13] : List UInt8).length : Int) ≤ D.length ∧ (D.drop i.toNat).take ([32, 13] : List UInt8).length = [32, 13]) : EndOk D i (i + (([32, 13] : List UInt8).length : Int)) := by
  have a1 := (two_at (a := 32) (b := 13) hi).mp q
  exact .inl ⟨a1.1, .inl a1.2, rfl⟩
theorem end_two2 {D : List UInt8} {i : Int} (hi : 0 ≤ i) (q : i + (([32, 10] : List UInt8).length : Int) ≤ D.length ∧ (D.drop i.toNat).take ([32, 10] : List UInt8).length = [32, 10]) : EndOk D i (i + (([32, 10] : List UInt8).length : Int)) := by
  have a1 := (two_at (a := 32) (b := 10) hi).mp q
  exact .inl ⟨a1.1, .inr a1.2, rfl⟩
theorem end_two3 {D : List UInt8} {i : Int} (hi : 0 ≤ i) (q : i + (([13, 10] : List UInt8).length : Int) ≤ D.length ∧ (D.drop i.toNat).take ([13, 10] : List UInt8).length = [13, 10]) : EndOk D i (i + (([13, 10] : List UInt8).length : Int)) := by
  have a1 := (two_at (a := 13) (b := 10) hi).mp q
  exact .inr (.inl ⟨a1.1, a1.2, rfl⟩)
local macro_rules | `(tactic| walk_at "call ref") => `(tactic| (k_here; (with_reducible show wpAny _ _ (call (Value.ref 79) _) _ _ _); k_dflt (refine' skip_j ?B ?F ?X (cb_drop ?N (Pull.two ?P1 ?P2)) ?T ?hk ?hc ?hi ?hi' ?hD ?hW ?hx ?hx' ?hdx ?hd ?hu ?_; walk_at "cm"; (case hi' => first | assumption | omega); (case hW => first | assumption | decide); walk_at "ck"); intro b9 j9 es9 h9 tk9 hc9 hb9 hb9' F9 N9; obtain ⟨_, _, _, _, _, _, _, _, _, hq9⟩ := hc9; subst hq9; (rcases b9 with _ | _); all_goals (first | (have hz9 := hb9' rfl; clear hb9 hb9'; obtain ⟨hy9, hj9⟩ := hz9; rw [hj9] at N9) | (have hz9 := hb9 rfl; clear hb9 hb9'; obtain ⟨hy9, hj9⟩ := hz9; rw [hj9] at N9)); all_goals (walk_at "ci")))
local macro_rules | `(tactic| walk_at "call ref") => `(tactic| (k_here; (with_reducible show wpAny _ _ (call (Value.ref 100) _) _ _ _); k_dflt (refine' line_ok ?B ?F ?X (cb_drop ?N (Pull.two ?P1 ?P2)) ?T ?hk ?hc ?hi ?hD ?hx ?hx' ?hdx ?hd ?hu ?_; walk_at "cm"; walk_at "ck"); intro b9 j9 es9 h9 tk9 hl9 hc9 F9 N9; obtain ⟨_, _, _, _, _, _, _, _, _, hq9⟩ := hc9; subst hq9; walk_at "ci"))
set_option maxHeartbeats 4000000 in
theorem end_ok {w : World} {mean : ExcName → Option Value} {mg mb : Str → Option Value} {dp un : Nat} {gd : Option (List Code)} {cn : Str} {cs : Scope} {a : Addr} {ccd : Value} {cl : List (Str × Addr)} {outer : List Env} {A₀ : Around} {base h₀ : Heap} {L : Addr} {m : Str → Option Value} {s : Shared} {Q E : Value → Shared → Prop}
    {x dx : Nat} {D : List UInt8} {i : Int} {es : List DictEntry}
    (B : Below A₀ base outer h₀) (F : Fr h₀ L s.heap m) (X : (hd.heap_39 w.params).In h₀) (N : News h₀ L s.heap [(x, instObj 131 dx), (dx, dictOf es 3)])
    (T : Top hd.view_39 LW mean mg mb h₀) (hk : cs.kind = .function) (hc : CurE D i es) (hi : 0 ≤ i) (hi' : i ≤ D.length) (hD : D.length ≤ 1000)
    (hdx : dx < x) (hd : dp + 10 < recursionLimit) (hu : un + 200 < cLine)
    (exc : EndNo D i → Faults base h₀ L m (envX cn cs L a ccd cl :: outer) E s i)
    (ret : ∀ v j es' h' tk', EndOk D i j → CurE D j es' → Fr h₀ L h' m → News h₀ L h' [(x, instObj 131 dx), (dx, dictOf es' 3)] → Q v { s with heap := h', toks := tk' }) :
    wpAny (model PP w) (ktrTop dp un gd cn cs L a ccd cl outer) (call (.ref 224) [.ref x]) Q E s := by
  obtain ⟨h1, t1, td, h2, t2, ti, h3, t3, te, rfl⟩ := hc
  refine wpAny_call ?_
  k_dflt cell_enter
  k_steps
  all_goals first
    | (rename LineEnd _ _ _ _ => hl9
       rename (_ = false) => hb9
       rename ¬ (_ ∧ _ = [13, 10]) => n1
       rename ¬ (_ ∧ _ = [32, 10]) => n2
       rename ¬ (_ ∧ _ = [32, 13]) => n3
       rename FaultE _ _ => hf9
       rw [hb9] at hl9
       rw [line_false hl9] at hf9
       exact exc (end_no hi n3 n2 hl9) _ _ _ _ _ _ hf9 (by assumption) (by assumption) (by assumption))
    | (rename News h₀ L _ _ => kN9
       rename Fr h₀ L _ m => kF9
       refine ret _ _ _ _ _ ?_ ⟨_, _, _, _, _, _, _, _, _, rfl⟩ kF9 (cb_drop kN9 fun y hy => by
         rcases List.mem_cons.mp hy with h1 | h1
         · rw [h1]; exact List.Mem.head _
         · rw [List.mem_singleton.mp h1]; exact List.Mem.tail _ (List.Mem.head _))
       first
       | (rename LineEnd _ _ _ _ => hl9
          rename (_ = true) => hb9
          rename ¬ (_ ∧ _ = [13, 10]) => n1
          exact end_yes hi n1 (hb9 ▸ hl9))
       | (rename (_ ∧ _ = [13, 10]) => q1; exact end_two3 hi q1)
       | (rename (_ ∧ _ = [32, 10]) => q1; exact end_two2 hi q1)
       | (rename (_ ∧ _ = [32, 13]) => q1; exact end_two1 hi q1))
end
section
open PySem PySem.W PyProof.Rows
section
variable {prog : Program} {w : World} {A : Around} {E : Value → Shared → Prop} {s : Shared} {env : Env} {h₀ : Heap} {x : Str} {body : List Stmt} {Q : Flow → Shared → Prop}
/-- a loop over range(n) by what holds of it: the turn's number, the frame's names, the ledger -/
theorem iter_rangeJ {r : Addr} {t₀ u₀ v₀ : Tok} {n : Nat} {m₀ : Str → Option Value} {news : List (Addr × Obj)} (J : Nat → (Str → Option Value) → List (Addr × Obj) → Prop)
    (hh : A.handled = none) (hr : IsRange s.heap r 0 (n : Int) 1 t₀ u₀ v₀) (hn : n < 1000) (F : Fr h₀ env.locals s.heap m₀) (N : News h₀ env.locals s.heap news) (hj : J 0 m₀ news)
    (turn : ∀ (k : Nat) t m₁ nx h tk own, k < n → OwnOff own (news.map (·.1)) → J k m₁ nx → Fr h₀ env.locals h (fun y => if y = x then some (.int (k : Int) t) else m₁ y) → News h₀ env.locals h (nx ++ own) →
      wpAny (model prog w) A (execs body env) (InvPostN h₀ env.locals (J (k + 1)) own (news.map (·.1)) { s with heap := h, toks := tk } Q) E { s with heap := h, toks := tk })
    (done : ∀ m₁ nx h tk, J n m₁ nx → Fr h₀ env.locals h m₁ → News h₀ env.locals h nx → Q .next { s with heap := h, toks := tk }) :
    wpAny (model prog w) A (pyIter (.ref r)) (fun it s₂ => LoopAtV prog w A h₀ env x body Q E it s₂) E s := by
  have hsmall : Builtin.Range.small 0 (n : Int) 1 = true := small_one (by decide) (by decide) (by omega) (by omega)
  have hsz : Builtin.Range.rangeSize 0 (n : Int) 1 = (n : Int) := by rw [rangeSize_one]; split <;> omega
  refine wpAny_pyIter_range hr hsmall ?_
  have W : Walks prog w A s.heap.objs.size [s.heap.objs.size] [s.heap.objs.size] n (fun i v => i < n ∧ ∃ t, v = .int (0 + i * 1) t)
      (fun i h => IsRangeIter h s.heap.objs.size (0 + (i : Nat) * 1) ((n : Int) - (i : Nat)) 1) := (Walks.range hh _ 0 1 n).bound
  refine loop_invN J W ?_ ?_ ?_ ?_ (by show IsRangeIter _ _ _ _ _; rw [hsz]; simpa using Heap.get?_push_size _ rfl) (F.push _) (fun p hp => ⟨Heap.get?_push_of_some _ (N p hp).1, (N p hp).2⟩) hj ?_ ?_
  · intro hm
    exact absurd F.ns.lt ((List.mem_singleton.mp hm) ▸ Nat.lt_irrefl _)
  · intro b hb
    rw [List.mem_singleton.mp hb]
    exact next_is_new F
  · intro p hp hI
    exact absurd (Heap.lt_size (N p hp).1) ((List.mem_singleton.mp hI) ▸ Nat.lt_irrefl _)
  · intro p hp hI
    exact absurd (Heap.lt_size (N p hp).1) ((List.mem_singleton.mp hI) ▸ Nat.lt_irrefl _)
  · rintro k v m₁ nx h tk own hk ⟨_, t, rfl⟩ _ ho hJ F' N'
    refine turn k t m₁ nx h tk own hk ho hJ ?_ N'
    simpa using F'
  · exact done
theorem iter_rangeM {r : Addr} {t₀ u₀ v₀ : Tok} {n : Nat} {m₀ : Str → Option Value} {news : List (Addr × Obj)} (J : (Str → Option Value) → Nat → (Str → Option Value) → List (Addr × Obj) → Prop)
    (hh : A.handled = none) (hr : IsRange s.heap r 0 (n : Int) 1 t₀ u₀ v₀) (hn : n < 1000) (F : Fr h₀ env.locals s.heap m₀) (N : News h₀ env.locals s.heap news) (hj : J m₀ 0 m₀ news)
    (turn : ∀ (k : Nat) t m₁ nx h tk own, k < n → OwnOff own (news.map (·.1)) → J m₀ k m₁ nx → Fr h₀ env.locals h (fun y => if y = x then some (.int (k : Int) t) else m₁ y) → News h₀ env.locals h (nx ++ own) →
      wpAny (model prog w) A (execs body env) (InvPostN h₀ env.locals (J m₀ (k + 1)) own (news.map (·.1)) { s with heap := h, toks := tk } Q) E { s with heap := h, toks := tk })
    (done : ∀ m₁ nx h tk, J m₀ n m₁ nx → Fr h₀ env.locals h m₁ → News h₀ env.locals h nx → Q .next { s with heap := h, toks := tk }) :
    wpAny (model prog w) A (pyIter (.ref r)) (fun it s₂ => LoopAtV prog w A h₀ env x body Q E it s₂) E s := iter_rangeJ (J m₀) hh hr hn F N hj turn done
end
/-- n figures from a place on, and the number that they tell -/
def Figs (D : List UInt8) (i : Int) (n : Nat) : Prop := ∀ k : Nat, k < n → 48 ≤ byteAt D (i + k) ∧ byteAt D (i + k) ≤ 57
def numV (D : List UInt8) (i : Int) : Nat → Int
  | 0 => 0
  | n + 1 => 10 * numV D i n + byteAt D (i + n) - 48
/-- the walk stops where this stands -/
def Stop (P : Prop) : Prop := P
theorem stop_here {P : Prop} (h : Stop P) : P := h
theorem figs_succ {D : List UInt8} {i : Int} {n : Nat} (h : Figs D i n) (h' : 48 ≤ byteAt D (i + n) ∧ byteAt D (i + n) ≤ 57) : Figs D i (n + 1) := fun k hk => by
  by_cases q : k = n
  · rw [q]; exact h'
  · exact h k (by omega)
end
section
open PySem PySem.W PyProof.Rows
local macro_rules | `(tactic| walk_at "call ref") => `(tactic| (k_here; (with_reducible show wpAny _ _ (call (Value.ref 28) _) _ _ _); k_dflt (refine' fig_ok ?B ?F ?X ?N ?T ?hk ?hd ?hu ?_; walk_at "cp"); intro b9 h9 tk9 hb9 hb9' F9 N9; (rcases b9 with _ | _); all_goals (first | (have hz9 := hb9' rfl; clear hb9 hb9') | (have hz9 := hb9 rfl; clear hb9 hb9')); all_goals (walk_at "ci")))
local macro_rules | `(tactic| walk_at "pyIter ref") => `(tactic| (walk_at "cj"))
local macro_rules | `(tactic| walk_at "last pyIter ref") => `(tactic| (walk_at "cj"))
set_option maxHeartbeats 4000000 in
theorem figs_ok {w : World} {mean : ExcName → Option Value} {mg mb : Str → Option Value} {dp un : Nat} {gd : Option (List Code)} {cn : Str} {cs : Scope} {a : Addr} {ccd : Value} {cl : List (Str × Addr)} {outer : List Env} {A₀ : Around} {base h₀ : Heap} {L : Addr} {m : Str → Option Value} {s : Shared} {Q E : Value → Shared → Prop}
    {x dx : Nat} {D : List UInt8} {i : Int} {es : List DictEntry} {c : Nat} {tc : Tok}
    (B : Below A₀ base outer h₀) (F : Fr h₀ L s.heap m) (X : (hd.heap_39 w.params).In h₀) (N : News h₀ L s.heap [(x, instObj 131 dx), (dx, dictOf es 3)])
    (T : Top hd.view_39 LW mean mg mb h₀) (hk : cs.kind = .function) (hc : CurE D i es) (hi : 0 ≤ i) (hD : D.length ≤ 1000) (hcc : c ≤ 20)
    (hdx : dx < x) (hd : dp + 10 < recursionLimit) (hu : un + 200 < cLine)
    (exc : ∀ k : Nat, k < c → Figs D i k → ¬ (48 ≤ byteAt D (i + k) ∧ byteAt D (i + k) ≤ 57) → Faults base h₀ L m (envX cn cs L a ccd cl :: outer) E s (i + k))
    (ret : ∀ t es' h' tk', Figs D i c → CurE D (i + c) es' → Fr h₀ L h' m → News h₀ L h' [(x, instObj 131 dx), (dx, dictOf es' 3)] → Q (.int (numV D i c) t) { s with heap := h', toks := tk' }) :
    wpAny (model PP w) (ktrTop dp un gd cn cs L a ccd cl outer) (call (.ref 210) [.ref x, .int (c : Int) tc]) Q E s := by
  refine wpAny_call ?_
  k_dflt cell_enter
  k_steps
  unfold Stop
  rename IsRange _ _ _ _ _ _ _ _ => rg9
  rename News _ _ _ _ => N9
  rename Fr _ _ _ _ => F9
  refine iter_rangeM (n := c) (fun m₀ k m₁ nx => ∃ es' t, nx = [(x, instObj 131 dx), (dx, dictOf es' 3)] ∧ CurE D (i + k) es' ∧ Figs D i k ∧ m₁ (Str.ofString "total") = some (.int (numV D i k) t) ∧ ∀ z, z ≠ Str.ofString "turn" → z ≠ Str.ofString "total" → m₁ z = m₀ z) rfl rg9 (by omega) F9 N9 ?_ ?_ ?_
  · refine ⟨es, _, rfl, by simpa using hc, fun k hk => absurd hk (Nat.not_lt_zero _), rfl, fun z _ _ => rfl⟩
  · rintro k t m₁ nx h tk own hkc hoff ⟨es', t', rfl, hc', hf, ha, hm⟩ F' N'
    rw [map_one ha hm] at F'
    obtain ⟨h1, t1, td, h2, t2, ti, h3, t3, te, rfl⟩ := hc'
    dsimp only [List.cons_append, List.nil_append] at N'
    have hoff1 : ∀ e ∈ own, e.1 ≠ x := OwnOff.ne hoff (List.Mem.head _)
    have hoff2 : ∀ e ∈ own, e.1 ≠ dx := OwnOff.ne hoff (List.Mem.tail _ (List.Mem.head _))
    have hik : 0 ≤ i + (k : Int) := by omega
    clear N F9 N9
    k_steps
    all_goals first
      | (rename (_ < 48 ∨ 57 < _) => hz9
         exact exc k hkc hf (by omega) _ _ _ _ _ _ (by assumption) (by assumption) (by assumption) (by assumption))
      | (rename News _ _ _ _ => kN9
         rename Fr _ _ _ _ => kF9
         rename (48 ≤ _ ∧ _ ≤ 57) => hz9
         exact InvEndN.intro kF9 kN9 ⟨_, _, rfl, (by rw [show i + ((k + 1 : Nat) : Int) = i + (k : Int) + 1 by omega]; exact ⟨_, _, _, _, _, _, _, _, _, rfl⟩), figs_succ hf hz9, rfl, (fun z q1 q2 => by simp [q1, q2])⟩ (by rfl) sub_two (fun p hp => List.Mem.tail _ (List.Mem.tail _ hp)))
  · rintro m₁ nx h tk ⟨es', t', rfl, hc', hf, ha, hm⟩ F' N'
    rw [← done_one ha hm] at F'
    clear N F9 N9
    dsimp only
    k_steps
    all_goals first
      | (rename News h₀ L _ _ => kN9
         rename Fr h₀ L _ m => kF9
         exact ret _ _ _ _ hf hc' kF9 kN9)
end
section
open PySem PySem.W PyProof.Rows
theorem figs_use {w : World} {mean : ExcName → Option Value} {mg mb : Str → Option Value} {dp un : Nat} {gd : Option (List Code)} {cn : Str} {cs : Scope} {a : Addr} {ccd : Value} {cl : List (Str × Addr)} {outer : List Env} {A₀ : Around} {base h₀ : Heap} {L : Addr} {m : Str → Option Value} {s : Shared} {Q E : Value → Shared → Prop}
    {x dx : Nat} {D : List UInt8} {i : Int} {es : List DictEntry} {c : Nat} {ci : Int} {tc : Tok} (hci : ci = (c : Int))
    (B : Below A₀ base outer h₀) (F : Fr h₀ L s.heap m) (X : (hd.heap_39 w.params).In h₀) (N : News h₀ L s.heap [(x, instObj 131 dx), (dx, dictOf es 3)])
    (T : Top hd.view_39 LW mean mg mb h₀) (hk : cs.kind = .function) (hc : CurE D i es) (hi : 0 ≤ i) (hD : D.length ≤ 1000) (hcc : c ≤ 20)
    (hdx : dx < x) (hd : dp + 10 < recursionLimit) (hu : un + 200 < cLine)
    (exc : ∀ k : Nat, k < c → Figs D i k → ¬ (48 ≤ byteAt D (i + k) ∧ byteAt D (i + k) ≤ 57) → Faults base h₀ L m (envX cn cs L a ccd cl :: outer) E s (i + k))
    (ret : ∀ t es' h' tk', Figs D i c → CurE D (i + ci) es' → Fr h₀ L h' m → News h₀ L h' [(x, instObj 131 dx), (dx, dictOf es' 3)] → Q (.int (numV D i c) t) { s with heap := h', toks := tk' }) :
    wpAny (model PP w) (ktrTop dp un gd cn cs L a ccd cl outer) (call (.ref 210) [.ref x, .int ci tc]) Q E s := by
  subst hci
  exact figs_ok B F X N T hk hc hi hD hcc hdx hd hu exc ret
theorem le_of_byte {D : List UInt8} {i : Int} (h : byteAt D i ≠ -1) : i + 1 ≤ D.length := by
  have := lt_of_byte h
  omega
end
section
open PySem PySem.W PyProof.Rows
local macro_rules | `(tactic| k_all) => `(tactic| first | assumption | exact List.forall_mem_nil _ | exact ne_all (by assumption) | (walk_at "cq"))
local macro_rules | `(tactic| walk_at "call ref") => `(tactic| (k_here; (with_reducible show wpAny _ _ (call (Value.ref 199) _) _ _ _); k_dflt (walk_at "cf"); intro x' d' h' F' N' l1 l2; (try k_lt l1); (try k_lt2 l2); (try k_sweep); k_dflt cell_enter))
local macro_rules | `(tactic| walk_at "leaving ref") => `(tactic| (k_here; k_dflt (refine' leave_next ?K ?F ?R ?up ?_; (case R => assumption); (case F => assumption); (case K => assumption); (case up => assumption); k_whole); intro h9 fl9 up9))
local macro_rules | `(tactic| walk_at "call ref") => `(tactic| (k_here; (with_reducible show wpAny _ _ (call (Value.ref 210) _) _ _ _); k_dflt (refine' figs_use ?hci ?B ?F ?X (cb_drop ?N (Pull.two ?P1 ?P2)) ?T ?hk ?hc ?hi ?hD ?hcc ?hdx ?hd ?hu ?_ ?_; (case hci => first | exact (rfl : (10 : Int) = ((10 : Nat) : Int)) | exact (rfl : (5 : Int) = ((5 : Nat) : Int))); walk_at "cm"; (case hcc => decide)); all_goals k_dflt (first | (intro t9 es9 h9 tk9 hg9 hc9 F9 N9; obtain ⟨_, _, _, _, _, _, _, _, _, hq9⟩ := hc9; subst hq9) | (intro k9 hk9 hx9 hy9 e9 d9 es9 g9 h9 tk9 hf9 fl9 fr9 up9)); all_goals (walk_at "ci")))
local macro_rules | `(tactic| walk_at "call ref") => `(tactic| (k_here; (with_reducible show wpAny _ _ (call (Value.ref 217) _) _ _ _); k_dflt (refine' blank_ok ?B ?F ?X (cb_drop ?N (Pull.two ?P1 ?P2)) ?T ?hk ?hc ?hi ?hD ?hx ?hx' ?hdx ?hd ?hu ?_ ?_; walk_at "cm"; walk_at "ck"); all_goals k_dflt (first | (intro v9 es9 h9 tk9 hb9 hc9 F9 N9; obtain ⟨_, _, _, _, _, _, _, _, _, hq9⟩ := hc9; subst hq9) | (intro hx9 e9 d9 es9 g9 h9 tk9 hf9 fl9 fr9 up9)); all_goals (walk_at "ci")))
local macro_rules | `(tactic| walk_at "call ref") => `(tactic| (k_here; (with_reducible show wpAny _ _ (call (Value.ref 224) _) _ _ _); k_dflt (refine' end_ok ?B ?F ?X (cb_drop ?N (Pull.two ?P1 ?P2)) ?T ?hk ?hc ?hi ?hi' ?hD ?hdx ?hd ?hu ?_ ?_; walk_at "cm"; (case hi' => first | assumption | omega | exact le_of_byte (by omega))); all_goals k_dflt (first | (intro v9 j9 es9 h9 tk9 he9 hc9 F9 N9; obtain ⟨_, _, _, _, _, _, _, _, _, hq9⟩ := hc9; subst hq9) | (intro hx9 e9 d9 es9 g9 h9 tk9 hf9 fl9 fr9 up9)); all_goals (walk_at "ci")))
/-- the entries of an Entry's own dict -/
def EntryE (way : Str) (one two : Int) (es : List DictEntry) : Prop :=
  ∃ h1 t1 tw h2 t2 t3 h3 t4 t5, es = [⟨h1, .str (Str.ofString "way") t1, .str way tw⟩, ⟨h2, .str (Str.ofString "one") t2, .int one t3⟩, ⟨h3, .str (Str.ofString "two") t4, .int two t5⟩]
def wayOf (c : Int) : Str := if c = 110 then Str.ofString "used" else Str.ofString "free"
/-- what take_entry answers: the letter's way, both numbers, the place behind -/
def EntryOk (D : List UInt8) (i : Int) (j : Int) : Prop :=
  Figs D i 10 ∧ byteAt D (i + 10) = 32 ∧ Figs D (i + 10 + 1) 5 ∧ ¬ 65535 < numV D (i + 10 + 1) 5 ∧ byteAt D (i + 10 + 1 + 5) = 32 ∧ (byteAt D (i + 10 + 1 + 5 + 1) = 110 ∨ byteAt D (i + 10 + 1 + 5 + 1) = 102) ∧ EndOk D (i + 10 + 1 + 5 + 1 + 1) j
/-- where it faults -/
inductive EntryNo (D : List UInt8) (i : Int) : Int → Prop
  | one (n : Nat) (h : n < 10) (f : Figs D i n) (b : ¬ (48 ≤ byteAt D (i + n) ∧ byteAt D (i + n) ≤ 57)) : EntryNo D i (i + n)
  | blank (f : Figs D i 10) (b : byteAt D (i + 10) ≠ 32) : EntryNo D i (i + 10)
  | two (n : Nat) (h : n < 5) (f : Figs D i 10) (b : byteAt D (i + 10) = 32) (g : Figs D (i + 10 + 1) n) (c : ¬ (48 ≤ byteAt D (i + 10 + 1 + n) ∧ byteAt D (i + 10 + 1 + n) ≤ 57)) : EntryNo D i (i + 10 + 1 + n)
  | great (f : Figs D i 10) (b : byteAt D (i + 10) = 32) (g : Figs D (i + 10 + 1) 5) (c : 65535 < numV D (i + 10 + 1) 5) : EntryNo D i (i + 10 + 1)
  | blank2 (f : Figs D i 10) (b : byteAt D (i + 10) = 32) (g : Figs D (i + 10 + 1) 5) (c : ¬ 65535 < numV D (i + 10 + 1) 5) (e : byteAt D (i + 10 + 1 + 5) ≠ 32) : EntryNo D i (i + 10 + 1 + 5)
  | letter (f : Figs D i 10) (b : byteAt D (i + 10) = 32) (g : Figs D (i + 10 + 1) 5) (c : ¬ 65535 < numV D (i + 10 + 1) 5) (e : byteAt D (i + 10 + 1 + 5) = 32) (l : byteAt D (i + 10 + 1 + 5 + 1) ≠ 110) (l' : byteAt D (i + 10 + 1 + 5 + 1) ≠ 102) : EntryNo D i (i + 10 + 1 + 5 + 1)
  | last (f : Figs D i 10) (b : byteAt D (i + 10) = 32) (g : Figs D (i + 10 + 1) 5) (c : ¬ 65535 < numV D (i + 10 + 1) 5) (e : byteAt D (i + 10 + 1 + 5) = 32) (l : byteAt D (i + 10 + 1 + 5 + 1) = 110 ∨ byteAt D (i + 10 + 1 + 5 + 1) = 102) (z : EndNo D (i + 10 + 1 + 5 + 1 + 1)) : EntryNo D i (i + 10 + 1 + 5 + 1 + 1)
set_option maxHeartbeats 8000000 in
theorem entry_ok {w : World} {mean : ExcName → Option Value} {mg mb : Str → Option Value} {dp un : Nat} {gd : Option (List Code)} {cn : Str} {cs : Scope} {a : Addr} {ccd : Value} {cl : List (Str × Addr)} {outer : List Env} {A₀ : Around} {base h₀ : Heap} {L : Addr} {m : Str → Option Value} {s : Shared} {Q E : Value → Shared → Prop}
    {x dx : Nat} {D : List UInt8} {i : Int} {es : List DictEntry}
    (B : Below A₀ base outer h₀) (F : Fr h₀ L s.heap m) (X : (hd.heap_39 w.params).In h₀) (N : News h₀ L s.heap [(x, instObj 131 dx), (dx, dictOf es 3)])
    (T : Top hd.view_39 LW mean mg mb h₀) (hk : cs.kind = .function) (hc : CurE D i es) (hi : 0 ≤ i) (hi' : i ≤ D.length) (hD : D.length ≤ 1000)
    (hdx : dx < x) (hd : dp + 20 < recursionLimit) (hu : un + 300 < cLine)
    (exc : ∀ k, EntryNo D i k → Faults base h₀ L m (envX cn cs L a ccd cl :: outer) E s k)
    (ret : ∀ x' d' way j es' ee h' tk', EntryOk D i j → way = wayOf (byteAt D (i + 10 + 1 + 5 + 1)) → CurE D j es' → EntryE way (numV D i 10) (numV D (i + 10 + 1) 5) ee → x < d' → dx < d' → d' < x' → Fr h₀ L h' m → News h₀ L h' [(x', instObj 199 d'), (d', dictOf ee 3), (x, instObj 131 dx), (dx, dictOf es' 3)] → Q (.ref x') { s with heap := h', toks := tk' }) :
    wpAny (model PP w) (ktrTop dp un gd cn cs L a ccd cl outer) (call (.ref 231) [.ref x]) Q E s := by
  obtain ⟨h1, t1, td, h2, t2, ti, h3, t3, te, rfl⟩ := hc
  refine wpAny_call ?_
  k_dflt cell_enter
  k_steps
  all_goals first
    | (rename FaultE _ _ => hf9
       exact exc _ (by first
         | exact .one _ (by assumption) (by assumption) (by assumption)
         | exact .blank (by assumption) (by assumption)
         | exact .two _ (by assumption) (by assumption) (by assumption) (by assumption) (by assumption)
         | exact .great (by assumption) (by assumption) (by assumption) (by assumption)
         | exact .blank2 (by assumption) (by assumption) (by assumption) (by assumption) (by assumption)
         | exact .letter (by assumption) (by assumption) (by assumption) (by assumption) (by assumption) (by assumption) (by assumption)
         | exact .last (by assumption) (by assumption) (by assumption) (by assumption) (by assumption) (.inl (by assumption)) (by assumption)
         | exact .last (by assumption) (by assumption) (by assumption) (by assumption) (by assumption) (.inr (by assumption)) (by assumption)) _ _ _ _ _ _ hf9 (by assumption) (by assumption) (by assumption))
    | (exfalso; omega)
    | (rename News h₀ L _ _ => kN9
       rename Fr h₀ L _ m => kF9
       rename _ ∧ _ => l1
       rename _ < _ => l2
       first
       | (rename byteAt D _ = 110 => hq9
          exact ret _ _ _ _ _ _ _ _ ⟨by assumption, by assumption, by assumption, by assumption, by assumption, .inl hq9, by assumption⟩ (by unfold wayOf; rw [if_pos hq9]) ⟨_, _, _, _, _, _, _, _, _, rfl⟩ ⟨_, _, _, _, _, _, _, _, _, rfl⟩ l1.1 l1.2 l2 kF9 kN9)
       | (rename byteAt D _ = 102 => hq9
          exact ret _ _ _ _ _ _ _ _ ⟨by assumption, by assumption, by assumption, by assumption, by assumption, .inr hq9, by assumption⟩ (by unfold wayOf; rw [if_neg (by omega)]) ⟨_, _, _, _, _, _, _, _, _, rfl⟩ ⟨_, _, _, _, _, _, _, _, _, rfl⟩ l1.1 l1.2 l2 kF9 kN9))
end
end
section
open PySem PySem.W PySem.Calls PyProof.Rows Builtin Builtin.ObjectAttr
section
variable {prog : Program} {w : World} {A : Around} {E : Value → Shared → Prop} {hh : Heap} {g : Array GenState} {d : Drawn} {t : Nat} {os : OsState} {x dx : Addr} {vs : Array Value} {oe : Obj} {es : List DictEntry} {n : Nat} {name : Str} {v : Value}
theorem exc_check {nameV : Value} {Q : Unit → Shared → Prop} (X : (hd.heap_39 w.params).In hh) (hx : hh.get? x = some oe) (hc : oe.cls = .ref 173) (hq : Q () ⟨hh, g, d, t, os⟩) :
    wpAny (model prog w) A (checkBuiltinCall "BaseException.__getattribute__" ⟨[.ref x, nameV], []⟩) Q E ⟨hh, g, d, t, os⟩ := by
  have hk : builtinKind "BaseException.__getattribute__" = some .slot := by decide +kernel
  have hsplit : splitId "BaseException.__getattribute__" = some ("BaseException", "__getattribute__") := by decide +kernel
  obtain ⟨nm, q, bs, hdct, sn, sub, ab, col, dd, k0, k1, k2, k3, k5, hC⟩ : ∃ nm q bs hdct sn sub ab col dd k0 k1 k2 k3 k5, hh.get? 173 = some (excClassObj nm q 173 172 bs bmC hdct sn sub ab col dd k0 k1 k2 k3 k5 "Exception.__new__") := ⟨_, _, _, _, _, _, _, _, _, _, _, _, _, _, X 173 _ (by k_is)⟩
  have hcB : (Value.ref 173 :: bmC).contains (.type "BaseException") = true := by decide
  have ha := F.args_bexc_ga (.ref x) nameV
  simp only [checkBuiltinCall, hk, hsplit]
  refine wpAny_bind ?_
  unfold isInstance
  repeat (first | (with_reducible refine wpAny_loadPart_at hx ?_; rw [hc]) | (with_reducible refine wpAny_isSubtype_exc hC ?_; rw [hcB]) | wp_step)
  exact hq
theorem exc_entry {tk : Tok} {Q : Fin → Shared → Prop} (X : (hd.heap_39 w.params).In hh) (I : InstAt hh x oe 173 (some (dictOf es n))) (ha : findIn (hd.heap_39 w.params) (.ref 173) name = some none) (hl : getL name es = some (some v)) (hv : handedIn v = true) (hq : Q (.done (.ret v)) ⟨hh, g, d, t, os⟩) :
    wpAny (model prog w) A (Builtin.«object.__getattribute__» ⟨[.ref x, .str name tk], []⟩) Q E ⟨hh, g, d, t, os⟩ := by
  have L0 := I.type (M := model prog w)
  have L1 := looks_find (M := model prog w) X I (findObj_own (attr := none) (by k_is) ha rfl hl)
  unfold Builtin.«object.__getattribute__»
  refine wpAny_bind (wpAny_of_eq (a := (.ref x, [.str name tk])) rfl ?_)
  refine wpAny_bind (wpAny_pure ?_)
  exact wpAny_bind (L0.here (wpAny_bind (L1.here (wpAny_pure hq))))
theorem exc_by {tk : Tok} {fill expr : Bool} {Q : Value → Shared → Prop} (X : (hd.heap_39 w.params).In hh) (I : InstAt hh x oe 173 (some (dictOf es n))) (ha : findIn (hd.heap_39 w.params) (.ref 173) name = some none) (hl : getL name es = some (some v)) (hv : handedIn v = true) (hq : Q v ⟨hh, g, d, t, os⟩) :
    wpAny (model prog w) A (getAttrBy (.ref x) (.str name tk) fill expr) Q E ⟨hh, g, d, t, os⟩ := by
  have FB := PySem.F.attr_Exception
  have f3 := FB.ga.bind (.ref x)
  have hx0 : (expr && onTheHeap (Value.builtin "BaseException.__getattribute__")) = false := by cases expr <;> rfl
  have hx2 : (Value.builtin "BaseException.__getattribute__" == Value.builtin "object.__getattribute__") = false := by decide +kernel
  have hx1 : (onTheHeap (Value.ref 173) && Value.builtin "BaseException.__getattribute__" == Value.builtin "object.__getattribute__") = false := by rw [hx2]; rfl
  have L0 := I.type (M := model prog w)
  have L1 := looks_findIn (M := model prog w) X (t := .ref 173) (name := Str.ofString "__getattribute__") (r := some (.builtin "BaseException.__getattribute__")) (by k_is)
  have L2 := looks_findIn (M := model prog w) X (t := .ref 173) (name := Str.ofString "__getattr__") (r := none) (by k_is)
  unfold getAttrBy
  refine wpAny_holding (wpAny_bind (L0.at (wpAny_bind (L1.at ?_))))
  show wpAny _ _ (if (onTheHeap (Value.ref 173) && Value.builtin "BaseException.__getattribute__" == Value.builtin "object.__getattribute__") = true then _ else _) _ _ _
  rw [if_neg (by rw [hx1]; decide)]
  unfold getAttrByItsOwn
  repeat (any_goals (first | assumption | refine L0.at ?_ | refine L1.at ?_ | refine L2.at ?_ | wp_step))
  refine codeAny_call_builtin FB.ga.plain F.entry_bexc_ga (exc_check X I.at_ I.cls (exc_entry X I ha hl hv ?_))
  show wpAny _ _ (handedOut v) _ _ _
  rw [handedOut_of hv]; exact wpAny_pure hq
theorem exc_get {expr : Bool} {s : Shared} {h₀ : Heap} {L : Addr} {m : Str → Option Value} {news : List (Addr × Obj)} {Q : Value → Shared → Prop} (F : Fr h₀ L s.heap m) (X₀ : (hd.heap_39 w.params).In h₀) (N : News h₀ L s.heap news)
    (hx : (x, oe) ∈ news) (hc : oe.cls = .ref 173) (hn : notCls oe = true) (hd' : oe.dict = some dx) (hdx : (dx, dictOf es n) ∈ news) (ha : findIn (hd.heap_39 w.params) (.ref 173) name = some none) (hl : getL name es = some (some v)) (hv : handedIn v = true) (hq : Q v { s with toks := s.toks + 1 }) :
    wpAny (model prog w) A (getAttr (.ref x) name expr) Q E s := by
  obtain ⟨hh, g, d, t, os⟩ := s
  have X : (hd.heap_39 w.params).In hh := X₀.keeps F.keep
  have I : InstAt hh x oe 173 (some (dictOf es n)) := ⟨(N _ hx).1, hc, hn, by rw [hd']; exact (N _ hdx).1⟩
  unfold getAttr
  exact wpAny_bind (wpAny_mkText (exc_by X I ha hl hv hq))
end
end
section
open PySem PySem.W PySem.Calls PySem.Spec PyProof.Rows
/-- the end of a call that may have caught: the caller's frame, all that stood, what the call made -/
def LeaveT (fs : List Addr) (h₀ : Heap) (L : Addr) (m : Str → Option Value) (h : Heap) (R : Result → Shared → Prop) (v : Value) (s' : Shared) : Prop :=
  ∃ g' L' m' news', KtsTurn fs h g' ∧ Fr g' L' s'.heap m' ∧ News g' L' s'.heap news' ∧
    (Fr h₀ L s'.heap m → (∀ b o, b ≠ L → h.get? b = some o → s'.heap.get? b = some o) → (∀ p ∈ news', h.get? p.1 = none) → News h₀ L s'.heap news' → R (.ok (.ret v)) s')
theorem leaveT_ {fs : List Addr} {h₀ h g' : Heap} {L L' : Addr} {m m' : Str → Option Value} {news' : List (Addr × Obj)} {R : Result → Shared → Prop} {v : Value} {s' : Shared} (F' : Fr g' L' s'.heap m') (N' : News g' L' s'.heap news') (T : KtsTurn fs h g')
    (k : Fr h₀ L s'.heap m → (∀ b o, b ≠ L → h.get? b = some o → s'.heap.get? b = some o) → (∀ p ∈ news', h.get? p.1 = none) → News h₀ L s'.heap news' → R (.ok (.ret v)) s') : LeaveT fs h₀ L m h R v s' := ⟨g', L', m', news', T, F', N', k⟩
section
variable {prog : Program} {w : World} {A₀ A : Around} {s : Shared} {h₀ : Heap} {L a : Addr} {m : Str → Option Value} {cn : Str} {cs : Scope} {ccd : Value} {cl : List (Str × Addr)} {K : Frag} {p : Program} {loose : List Str} {mean : ExcName → Option Value} {mg mb : Str → Option Value}
    {R : Result → Shared → Prop} {name qual : Str} {params : Arguments} {body : List Stmt} {scope : Scope} {dV kV doc pm cdv ct oc : Value} {an od : Option Addr} {osl : Array (Option Value)} {f : Addr} {args : Args} {binds : List (Str × Value)}
theorem enter_try (F : Fr h₀ L s.heap m) (X₀ : K.In h₀) (T : Top p loose mean mg mb h₀) (hA : A.frames = some [envX cn cs L a ccd cl])
    (ho : K.lookup f = some ⟨oc, od, .func (fnOf name qual params body scope dV kV doc pm an cdv ct), osl⟩) (hcd : codeIn K cdv qual = true) (hroom : A.depth < recursionLimit)
    (hbind : BindsTo s (fnOf name qual params body scope dV kV doc pm an cdv ct) args binds) (hloc : ∀ y ∈ binds, scope.names.lookup y.1 = some .local)
    (h : ∀ L' h₁, Fr s.heap L' h₁ (fun y => binds.reverse.lookup y) → News s.heap L' h₁ [] → Below A h₀ [envX cn cs L a ccd cl] s.heap → K.In s.heap → Top p loose mean mg mb s.heap → KtsDicts ([envX cn cs L a ccd cl].filterMap (·.frame)) s.heap →
      wpAny (model prog w) (A.deeper (envOf qual scope L' f cdv)) (execs body (envOf qual scope L' f cdv))
        (fun fl s' => LeaveT ([envX cn cs L a ccd cl].filterMap (·.frame)) h₀ L m s.heap R (match fl with | .ret v => v | _ => .none) s')
        (fun e s' => wpAny (model prog w) (A.deeper (envOf qual scope L' f cdv)) (leaving (envOf qual scope L' f cdv) e) (fun _ s'' => R (.error e) s'') (fun e' s'' => R (.error e') s'') s')
        { s with heap := h₁, toks := s.toks + binds.length })
    (hck : cs.kind = .function) (hco : scope.isCoroutine = false) (hgen : scope.isGenerator = false) (hk : scope.kind = .function)
    (hcell : ∀ x ∈ scope.names, x.2 ≠ .cell) : codeAny (model prog w) A (.call (.ref f) args) R s := by
  have X := X₀.keeps F.keep
  have nL₀ : h₀.get? L = none := kts_self F
  obtain ⟨oL, es, ep, hL, hLd, hLk, hLf⟩ := id F.ns
  have B₂ : Below A h₀ [envX cn cs L a ccd cl] s.heap := ⟨hA, F.keep, ⟨by show cs.kind ≠ .module; rw [hck]; decide, ⟨L, oL, rfl, nL₀, hL, fun vs q => by rw [hLd] at q; cases q⟩, trivial⟩⟩
  refine codeAny_call_def (fd := fnOf name qual params body scope dV kV doc pm an cdv ct) (body := body) (binds := binds) hroom (X _ _ ho) rfl (T.nolimit.keeps F.keep) (codeRec_of X hcd) rfl hbind hcell hloc (fun h₁ hns hk₁ => ?_) hco hgen hk
  refine wpAny_mono (h s.heap.objs.size h₁ ⟨hns, hk₁, Nat.le_refl _⟩ News.nil B₂ X (T.keeps F.keep) (fun b hb => by
    have hb' : b = L := List.mem_singleton.mp hb
    rw [hb']; exact ⟨oL, es, ep, hL, hLd⟩)) (fun fl s' hl => ?_) fun _ _ y => y
  obtain ⟨g', L', m', news', T', F', N', k⟩ := hl
  obtain ⟨sl, hs⟩ := T'.up hL
  have other : ∀ b o, b ≠ L → s.heap.get? b = some o → s'.heap.get? b = some o := fun b o hb e => F'.keep b o (T'.other b o e fun q => hb (List.mem_singleton.mp q))
  have fresh : ∀ p ∈ news', s.heap.get? p.1 = none := fun p hp => by
    cases q : s.heap.get? p.1 with
    | none => rfl
    | some o =>
      obtain ⟨sl', hs'⟩ := T'.up q
      have := (N' p hp).2.2
      rw [hs'] at this
      cases this
  have hL' := F'.keep _ _ hs
  refine k ⟨⟨_, es, ep, hL', hLd, hLk, hLf⟩, fun b o e => other b o (fun q => by rw [q, nL₀] at e; cases e) (F.keep b o e), F.above⟩ other fresh fun p hp => ⟨(N' p hp).1, fun q => ?_, ?_⟩
  · have := fresh p hp
    rw [q, hL] at this; cases this
  · exact fresh_of_stays F.keep (fresh p hp)
end
section
variable {prog : Program} {w : World} {A₀ : Around} {E : Value → Shared → Prop} {s' : Shared} {base g g₀ G : Heap} {outer : List Env} {L a e d : Addr} {od : Obj} {m : Str → Option Value} {name : Str} {scope : Scope} {cd : Value}
  {n : Str} {b₀ : Stmt} {suite : List Stmt} {pos np : Pos} {rest : List ExceptHandler} {Q : Flow → Shared → Prop} {KF : Frag}
  {p : Program} {loose : List Str} {mean : ExcName → Option Value} {mg mb : Str → Option Value} {x : Str}
theorem caught_X (R : Fly base G (envOf name scope L a cd :: outer) e d od s'.heap) (F : Fr g L G m) (K : Below A₀ base outer g) (hsm : G.UpToSlots s'.heap) (XB : KF.In base) (TB : Top p loose mean mg mb base)
    (D : KtsDicts (outer.filterMap (·.frame)) g) (T0 : KtsTurn (outer.filterMap (·.frame)) g₀ g)
    (ex : nsIn KF mainGlobals x = some (some (.ref 173))) (q : ktsIn KF 173 "BaseException" = true)
    (k : ∀ h' g' oe tk, oe.cls = .ref 173 → notCls oe = true → oe.dict = some d → KtsTurn (outer.filterMap (·.frame)) g₀ g' → Fr g' L h' (fun y => if y = n then some (.ref e) else m y) → News g' L h' [(e, oe), (d, od)] → Below A₀ base outer g' → KF.In g' → Top p loose mean mg mb g' → KtsDicts (outer.filterMap (·.frame)) g' →
      wpAny (model prog w) ((A₀.deeper (envOf name scope L a cd)).mark (some (.ref e))) (execs (b₀ :: suite) (envOf name scope L a cd))
        (fun f s₄ => wpAny (model prog w) (A₀.deeper (envOf name scope L a cd)) (do bindName (envOf name scope L a cd) n .none; unbindBehindTheSuite (envOf name scope L a cd) n pos) (fun _ s₅ => Q f s₅) E s₄)
        (AsSuiteRaised (model prog w) ((A₀.deeper (envOf name scope L a cd)).mark (some (.ref e))) (envOf name scope L a cd) n pos (notedBy (model prog w) ((A₀.deeper (envOf name scope L a cd)).mark (some (.ref e))) (envOf name scope L a cd) (cameBackBy (model prog w) (A₀.deeper (envOf name scope L a cd)) (envOf name scope L a cd) E)))
        { s' with heap := h', toks := tk })
    (hk : scope.kind = .function) (hlo : (envOf name scope L a cd).kindOf n = some .local) (hx : (envOf name scope L a cd).kindOf x = some .globalImplicit) (hd : (x == ("__debug__" : Str)) = false) :
    wpAny (model prog w) (A₀.deeper (envOf name scope L a cd)) (noteFrame (.ref e) (envOf name scope L a cd))
      (fun _ s₂ => wpAny (model prog w) (A₀.deeper (envOf name scope L a cd)) (setFlight (.ref e) none) (fun _ s₃ =>
        wpAny (model prog w) (A₀.deeper (envOf name scope L a cd)) (handleBy (.ref e) (envOf name scope L a cd) (.ExceptHandler (some (.Name x np)) (some n) (b₀ :: suite) pos :: rest)) Q E s₃) E s₂) E s' := by
  obtain ⟨⟨B, a0, hB, hBG, hl, hfl⟩, o0, ho0, hod0⟩ := R
  have hL : B.get? L = none := by
    obtain ⟨_, ⟨L', _, hf, hn', _⟩, _⟩ := hfl.2.2.1
    obtain rfl : L = L' := Option.some.inj hf
    exact hn'
  refine wpAny_mono (wpAny_dicts (KD_noteFrame _ _) (wpAny_looks_onW (Q := fun _ s₂ => ∃ h', s₂ = { s' with heap := h' } ∧ Heap.HeldW B (envOf name scope L a cd :: outer) e (.ref 173) a0 L h' ∧ s'.heap.UpToSlots h') (E := E) (Around.frames_deeper K.stack) rfl hfl fun h' y1 y2 => ⟨h', rfl, y1, y2⟩)) (fun _ s₂ hh => ?_) (fun _ _ hh => hh.1)
  obtain ⟨⟨h₄, rfl, hheld₄, hsm₄⟩, hD₄⟩ := hh
  obtain ⟨o4, ho4, hod4⟩ := hD₄ e _ ho0
  refine wpAny_mono (wpAny_dicts (KD_setFlight _ _) (wpAny_landsW (s := { s' with heap := h₄ }) (Q := fun _ s₃ => ∃ h', s₃ = { s' with heap := h' } ∧ Heap.FlyingW B (envOf name scope L a cd :: outer) e (.ref 173) a0 h' ∧ h₄.UpToSlots h') (E := E) hheld₄ fun h' y1 y2 => ⟨h', rfl, y1, y2⟩)) (fun _ s₃ hh => ?_) (fun _ _ hh => hh.1)
  obtain ⟨⟨h₅, rfl, hheld, hsm₅'⟩, hD₅⟩ := hh
  obtain ⟨o5, ho5, hod5⟩ := hD₅ e _ ho4
  have hsm₅ := hsm₄.trans hsm₅'
  obtain ⟨g₅, T₅, F₅, K₅⟩ := kts_ground K F hBG hheld.1 (hsm.trans hsm₅)
  have X₅ : KF.In g₅ := XB.keeps K₅.stays
  have P₅ : TopRead p loose mg mb g₅ := topRead_of (TB.keeps K₅.stays)
  obtain ⟨ob, hob, hobc⟩ := hheld.there
  obtain ⟨nm, q', N, bs, bm, hdct, sn, sub, ab, col, dd, k0, k1, k2, k3, k5, newId, hC, hbase, hbT⟩ := kts_cls X₅ q
  have hC₅ := F₅.keep _ _ hC
  refine wpAny_handleBy_cons (codeAny_handlers_test (name_K F₅ X₅ P₅ ex ?_ hk hx hd)) (by intro q; cases q)
  refine wpAny_excMatches_sub_self hC₅ hob hobc hbase (codeAny_handlers_suite_as ?_)
  refine wpAny_mono (wpAny_dicts (KD_setFlight _ _) (lands_againW (s := { s' with heap := h₅ }) (Q := fun _ s₆ => ∃ h', s₆ = { s' with heap := h' } ∧ Heap.FlyingW B (envOf name scope L a cd :: outer) e (.ref 173) a0 h' ∧ h₅.UpToSlots h') hheld fun h' y1 y2 => ⟨h', rfl, y1, y2⟩)) (fun _ s₆ hh => ?_) (fun _ _ hh => hh.1)
  obtain ⟨⟨h₆, rfl, hfl₆, hsm₆⟩, hD₆⟩ := hh
  obtain ⟨o6, ho6, hod6⟩ := hD₆ e _ ho5
  obtain ⟨g₆, T₆, F₆, K₆⟩ := kts_ground K F hBG hfl₆.1 ((hsm.trans hsm₅).trans hsm₆)
  obtain ⟨oe, ws, hoe, hoec, hoed, hoe0⟩ := hfl₆.first
  have hoo : oe = o6 := Option.some.inj (hoe.symm.trans ho6)
  have hdict : oe.dict = some d := by rw [hoo, hod6, hod5, hod4, hod0]
  have ne₆ : g₆.get? e = none := T₆.none_ _ (kts_fresh F hBG hfl₆.2.1 fun o ho m => by
    obtain ⟨_, o', ho', hd⟩ := K.frames.mem m
    rw [ho] at ho'
    cases ho'
    obtain ⟨sl, hs⟩ := ((hsm.trans hsm₅).trans hsm₆) _ _ (F.keep _ _ ho) hd
    rw [hoe] at hs
    cases hs
    exact hd _ hoed)
  have hdB := hfl₆.1 _ _ hl.1
  have nd₆ : g₆.get? d = none := T₆.none_ _ (kts_none F.keep hl.2.1)
  have hdL : d ≠ L := fun z => by have := hl.1; rw [z, hL] at this; cases this
  have N₆ : News g₆ L h₆ [(d, od)] := fun y hy => by rw [List.mem_singleton.mp hy]; exact ⟨hdB, hdL, nd₆⟩
  have N₆' := News.more F₆ N₆ hoe (fun es n q => by rw [hoed] at q; cases q) ne₆
  have X₆ : KF.In g₆ := XB.keeps K₆.stays
  have P₆ : Top p loose mean mg mb g₆ := TB.keeps K₆.stays
  have D₆ : KtsDicts (outer.filterMap (·.frame)) g₆ := D.turn T₆
  refine stN F₆ N₆' (fun h₇ F₇ N₇ => ?_) hk hlo
  exact k h₇ g₆ oe _ hoec (by unfold notCls; rw [hoed]) hdict (T0.trans T₆) F₇ N₇ K₆ X₆ P₆ D₆
end
end
section
open PySem PySem.W PyProof.Rows
theorem two_mem {a b : Addr × Obj} {l : List (Addr × Obj)} (h : a ∈ l) (h' : b ∈ l) : ∀ p ∈ [a, b], p ∈ l := fun p hp => by
  rcases List.mem_cons.mp hp with q | q
  · rw [q]; exact h
  · rw [List.mem_singleton.mp q]; exact h'
theorem sub_one {a : Addr × Obj} {l : List (Addr × Obj)} : ∀ p ∈ [a], p ∈ a :: l := fun p hp => by rw [List.mem_singleton.mp hp]; exact List.Mem.head _
end
section
open PySem PySem.W PyProof.Rows
local macro_rules | `(tactic| walk_at "zz") => `(tactic| fail "zz")
local macro_rules | `(tactic| walk_at "zz") => `(tactic| fail "zz")
local macro_rules | `(tactic| walk_at "zz") => `(tactic| fail "zz")
local macro_rules | `(tactic| walk_at "zz") => `(tactic| fail "zz")
local macro_rules | `(tactic| walk_at "zz") => `(tactic| fail "zz")
local macro_rules | `(tactic| k_all) => `(tactic| first | assumption | exact List.forall_mem_nil _ | exact ne_all (by assumption) | (walk_at "cq"))
local macro_rules | `(tactic| walk_at "call ref") => `(tactic| (k_here; (with_reducible show wpAny _ _ (call (Value.ref 131) _) _ _ _); k_dflt (walk_at "cf"); intro x' d' h' F' N' l1 l2; (try k_lt l1); (try k_lt2 l2); (try k_sweep); k_dflt cell_enter))
local macro_rules | `(tactic| walk_at "call ref") => `(tactic| (k_here; (with_reducible show wpAny _ _ (call (Value.ref 199) _) _ _ _); k_dflt (walk_at "cf"); intro x' d' h' F' N' l1 l2; (try k_lt l1); (try k_lt2 l2); (try k_sweep); k_dflt cell_enter))
local macro_rules | `(tactic| walk_at "call ref") => `(tactic| (k_here; (with_reducible show wpAny _ _ (call (Value.ref 231) _) _ _ _); k_dflt (refine' entry_ok ?B ?F ?X (cb_drop ?N (two_mem ?P1 ?P2)) ?T ?hk ?hc ?hi ?hi' ?hD ?hdx ?hd ?hu ?_ ?_; (case N => k_asm); (case P1 => k_mem); (case P2 => k_mem); walk_at "cb"; walk_at "cc"; (case hi' => first | assumption | omega)); all_goals k_dflt (first | (intro x9 d9 way9 j9 es9 ee9 h9 tk9 hok9 hway9 hc9 he9 hlt9 hlt8 hlt7 F9 N9; obtain ⟨_, _, _, _, _, _, _, _, _, hq9⟩ := hc9; subst hq9; obtain ⟨_, _, _, _, _, _, _, _, _, hq9⟩ := he9; subst hq9) | (intro k9 hx9 e9 d9 es9 g9 h9 tk9 hf9 fl9 fr9 up9; obtain ⟨_, _, _, _, _, _, hq9⟩ := hf9; subst hq9)); all_goals (walk_at "ci")))
local macro_rules | `(tactic| walk_at "call ref") => `(tactic| (k_here; (with_reducible show wpAny _ _ (call (Value.ref 196) _) _ _ _); k_dflt (refine wpAny_call ?_; cell_enter)))
local macro_rules | `(tactic| walk_at "noteFrame ref") => `(tactic| (k_here; k_dflt (refine' caught_X ?R ?F ?K ?up ?XB ?TB ?D ?T0 ?ex ?q ?_ ?hk ?hlo ?hx ?hd; (case R => assumption); (case F => assumption); (case K => assumption); (case up => assumption); (case XB => assumption); (case TB => assumption); (case D => assumption); (case T0 => exact KtsTurn.refl); (case ex => k_is); (case q => kts_isx); (case hk => exact rfl); (case hlo => exact rfl); (case hx => exact rfl); (case hd => decide); k_whole); intro h9 g9 oe9 tk9 hoc9 hon9 hod9 T9 F9 N9 B9 X9 P9 D9; walk_at "ci"))
local macro_rules | `(tactic| walk_at "LeaveT") => `(tactic| (k_dflt (refine' leaveT_ ?F ?N ?T ?_; walk_at "co"; (case T => first | assumption | exact KtsTurn.refl); k_whole); intro kF kO kR kN; (try dsimp only)))
local macro_rules | `(tactic| walk_at "getAttr ref") => `(tactic| (k_here; (with_reducible show wpAny _ _ (getAttr (Value.ref _) (PySem.Str.ofString "at") _) _ _ _); k_dflt (refine' exc_get ?F ?X ?N ?hx ?hc ?hn ?hd ?hdx ?ha ?hl ?hv ?_; (case F => k_asm); (case X => k_asm); (case N => k_asm); (case hc => assumption); (case hn => assumption); (case hd => assumption); (case hx => k_mem); (case hdx => k_mem); (case ha => k_is); (case hl => k_get); (case hv => k_handed); k_whole)))
set_option maxHeartbeats 8000000 in
theorem heard_ok {w : World} {mean : ExcName → Option Value} {mg mb : Str → Option Value} {dp un : Nat} {gd : Option (List Code)} {cn : Str} {cs : Scope} {a : Addr} {ccd : Value} {cl : List (Str × Addr)} {h₀ : Heap} {L : Addr} {m : Str → Option Value} {s : Shared} {Q E : Value → Shared → Prop}
    {D : List UInt8} {i : Int} {td ti : Tok}
    (F : Fr h₀ L s.heap m) (X : (hd.heap_39 w.params).In h₀)
    (T : Top hd.view_39 LW mean mg mb h₀) (hk : cs.kind = .function) (hi : 0 ≤ i) (hi' : i ≤ D.length) (hD : D.length ≤ 1000)
    (hd : dp + 30 < recursionLimit) (hu : un + 400 < cLine)
    (bad : ∀ k r t h' tk', EntryNo D i k → Fr h₀ L h' m → (∀ b o, b ≠ L → s.heap.get? b = some o → h'.get? b = some o) → s.heap.get? r = none → News h₀ L h' [(r, { cls := .type "tuple", data := .seq #[.none, .int k t] })] → Q (.ref r) { s with heap := h', toks := tk' })
    (good : ∀ j way r r2 t tw t1 t2 h' tk', EntryOk D i j → way = wayOf (byteAt D (i + 10 + 1 + 5 + 1)) → Fr h₀ L h' m → (∀ b o, b ≠ L → s.heap.get? b = some o → h'.get? b = some o) → s.heap.get? r = none → s.heap.get? r2 = none →
      News h₀ L h' [(r, { cls := .type "tuple", data := .seq #[.ref r2, .int j t] }), (r2, { cls := .type "tuple", data := .seq #[.str way tw, .int (numV D i 10) t1, .int (numV D (i + 10 + 1) 5) t2] })] → Q (.ref r) { s with heap := h', toks := tk' }) :
    wpAny (model PP w) (ktrTop dp un gd cn cs L a ccd cl []) (call (.ref 271) [.bytes D.toArray td, .int i ti]) Q E s := by
  refine wpAny_call ?_
  k_dflt (refine' enter_try ?k2 ?k3 ?k5 ?kA ?k6 ?k7 ?k8 ?k9 ?kB ?_ ?kK ?c2 ?c3 ?c4 ?c5; (case kA => exact rfl); (case kK => assumption); (case k2 => k_asm); (case k3 => k_asm); (case k5 => k_asm); (case k6 => k_is); (case k7 => k_is); (case k8 => ktr_room); (case k9 => exact BindsTo.of_eq rfl); (case c5 => decide); (case kB => exact locs rfl); (case c2 => exact rfl); (case c3 => exact rfl); (case c4 => exact rfl); k_whole; intro L' h' F' N' B' X' T' D'; (try dsimp only); (try k_fold))
  k_steps
  all_goals first
    | (rename_i kF kO kR kN; exact bad _ _ _ _ _ (by assumption) kF kO (kR _ (List.Mem.head _)) (cb_drop kN (sub_one)))
    | (rename_i kF kO kR kN; exact good _ _ _ _ _ _ _ _ _ _ (by assumption) (by assumption) kF kO (kR _ (List.Mem.head _)) (kR _ (List.Mem.tail _ (List.Mem.head _))) (cb_drop kN sub_two))
end
section
open PySem PySem.W PyProof.Rows
local macro_rules | `(tactic| walk_at "zz") => `(tactic| fail "zz")
local macro_rules | `(tactic| k_all) => `(tactic| first | assumption | exact List.forall_mem_nil _ | exact ne_all (by assumption) | (walk_at "cq"))
local macro_rules | `(tactic| walk_at "subscriptTail Name Slice ref ref") => `(tactic| (k_here; (with_reducible show wpAny _ _ (subscriptTail _ (PySem.Expr.Slice _ _ none _) (Value.ref _) (Value.ref _)) _ _ _); k_dflt (refine' kmk_slice_ints ?F ?N ?l ?p ?q ?i ?m ?c ?_ ?s ?t ?z; walk_at "co"; (case l => kmk_list); (case p => kmk_part); (case q => kmk_part); (case i => l_ints); (case m => kmk_nums); (case c => kmk_len); (case s => with_unfolding_all rfl); (case t => kmk_pure); (case z => (rw [List.size_toArray, sizeLine_eq]; omega))); intro D' ws' h' F' N' l1 hI' hC' hL'; (try simp only [Int.reduceNeg, Int.neg_neg, Int.reduceToNat] at hI' hC' hL'); (try k_lt l1); (try k_sweep)))
theorem sub_pen {a b c : Addr × Obj} {r : List (Addr × Obj)} : ∀ p ∈ a :: b :: r, p ∈ a :: b :: c :: r := fun p hp => by
  rcases List.mem_cons.mp hp with q | q
  · rw [q]; exact List.Mem.head _
  · rcases List.mem_cons.mp q with q | q
    · rw [q]; exact List.Mem.tail _ (List.Mem.head _)
    · exact List.Mem.tail _ (List.Mem.tail _ (List.Mem.tail _ q))
set_option maxHeartbeats 1000000 in
theorem pen_ok {w : World} {mean : ExcName → Option Value} {mg mb : Str → Option Value} {dp un : Nat} {gd : Option (List Code)} {cn : Str} {cs : Scope} {a : Addr} {ccd : Value} {cl : List (Str × Addr)} {outer : List Env} {A₀ : Around} {base h₀ : Heap} {L : Addr} {m : Str → Option Value} {s : Shared} {Q E : Value → Shared → Prop}
    {c1 c2 : Nat} {o1 o2 : Obj} {r : Nat} {vs : List Value} {ns : List Int}
    (B : Below A₀ base outer h₀) (F : Fr h₀ L s.heap m) (X : (hd.heap_39 w.params).In h₀) (N : News h₀ L s.heap [(c1, o1), (c2, o2)]) (T : Top hd.view_39 LW mean mg mb h₀) (hk : cs.kind = .function) (hl : h₀.IsList r vs.toArray) (hi : IntsAre vs ns) (h63 : vs.length ≤ 63)
    (hd : dp + 10 < recursionLimit) (hu : un + 200 < cLine)
    (ret : ∀ p q its ns' np nq t1 t2 h' tk', q < p → c1 ≠ p → c2 ≠ p → c1 ≠ q → c2 ≠ q → IntsAre its ns' → its.length ≤ 2 ^ 22 → Fr h₀ L h' m → News h₀ L h' ((p, listOf [.ref q, .int 0 t1, .int 0 t2].toArray np) :: (q, listOf its.toArray nq) :: [(c1, o1), (c2, o2)]) → Q (.ref p) { s with heap := h', toks := tk' }) :
    wpAny (model PP w) (ktrTop dp un gd cn cs L a ccd cl outer) (call (.ref 236) [.ref r]) Q E s := by
  refine wpAny_call ?_
  k_dflt cell_enter
  rename Fr h₀ L _ m => FG9
  have hl9 := FG9.lst hl
  k_steps
  rename IntsAre _ (List.map _ _) => hI8
  rename _ = (List.map _ _).length => hL8
  rename _ < _ ∧ _ < _ ∧ _ < _ ∧ _ < _ => l9
  rename _ ≠ _ ∧ _ ≠ _ ∧ _ ≠ _ => o9
  rename News h₀ _ _ _ => kN
  rename Fr h₀ _ _ _ => kF
  exact ret _ _ _ _ _ _ _ _ _ _ l9.1 (Nat.ne_of_lt l9.2.2.1) (Nat.ne_of_lt l9.2.2.2) o9.2.1 o9.2.2 hI8 (by simp only [List.length_map, List.length_take] at hL8; omega) kF (cb_drop kN sub_pen)
end
section
section
open PySem PySem.W PyProof.Rows
theorem pick_use {w : World} {mean : ExcName → Option Value} {mg mb : Str → Option Value} {dp un : Nat} {gd : Option (List Code)} {cn : Str} {cs : Scope} {a : Addr} {ccd : Value} {cl : List (Str × Addr)} {outer : List Env} {A₀ : Around} {base h₀ : Heap} {L : Addr} {m : Str → Option Value} {s : Shared} {Q E : Value → Shared → Prop}
    {p q l : Nat} {its vs : List Value} {ns : List Int} {ia ib : Int} {ta tb : Tok} {np nq nl : Nat} {news n1 more : List (Addr × Obj)}
    (B : Below A₀ base outer h₀) (F : Fr h₀ L s.heap m) (X : (hd.heap_39 w.params).In h₀) (N : News h₀ L s.heap news)
    (T : Top hd.view_39 LW mean mg mb h₀) (hk : cs.kind = .function)
    (P1 : Pull p (listOf [.ref q, .int ia ta, .int ib tb].toArray np) news n1) (P2 : Pull q (listOf its.toArray nq) n1 more)
    (hl : (l, listOf vs.toArray nl) ∈ more) (hv : 0 < vs.length) (hv2 : vs.length < 2 ^ 22)
    (hqp : q < p) (hi : IntsAre its ns) (hlen : its.length ≤ 2 ^ 22) (hp : ∀ e ∈ more, e.1 ≠ p) (hq : ∀ e ∈ more, e.1 ≠ q) (hd : dp + 2 < recursionLimit) (hu : un + 110 < cLine)
    (ret : ∀ (d : Nat) v its' ns' a' ta' b' tb' np' nq' h' tk', vs[d]? = some v → IntsAre its' ns' → its'.length ≤ 2 ^ 22 → Fr h₀ L h' m → News h₀ L h' ((p, listOf [.ref q, .int a' ta', .int b' tb'].toArray np') :: (q, listOf its'.toArray nq') :: more) → Q v { s with heap := h', toks := tk' }) :
    wpAny (model PP w) (ktrTop dp un gd cn cs L a ccd cl outer) (call (.ref 250) [.ref p, .ref l]) Q E s :=
  pick_ok B F X (cb_drop N (P1.two P2)) T hk hl hv hv2 hqp hi hlen hp hq hd hu ret
theorem ints_at {vs : List Value} {ns : List Int} (h : IntsAre vs ns) : ∀ {d : Nat} {v : Value}, vs[d]? = some v → ∃ n t, v = .int n t ∧ ns[d]? = some n := by
  induction h with
  | nil => intro d v h; simp at h
  | cons n t _ ih =>
    intro d v h
    cases d with
    | zero => simp at h; subst h; exact ⟨_, _, rfl, by simp⟩
    | succ d => simp at h; obtain ⟨n, t, q, z⟩ := ih h; exact ⟨n, t, q, by simpa using z⟩
theorem pick_int {w : World} {mean : ExcName → Option Value} {mg mb : Str → Option Value} {dp un : Nat} {gd : Option (List Code)} {cn : Str} {cs : Scope} {a : Addr} {ccd : Value} {cl : List (Str × Addr)} {outer : List Env} {A₀ : Around} {base h₀ : Heap} {L : Addr} {m : Str → Option Value} {s : Shared} {Q E : Value → Shared → Prop}
    {p q l : Nat} {its vs : List Value} {ns js : List Int} {ia ib : Int} {ta tb : Tok} {np nq nl : Nat} {news n1 more : List (Addr × Obj)}
    (B : Below A₀ base outer h₀) (F : Fr h₀ L s.heap m) (X : (hd.heap_39 w.params).In h₀) (N : News h₀ L s.heap news)
    (T : Top hd.view_39 LW mean mg mb h₀) (hk : cs.kind = .function)
    (P1 : Pull p (listOf [.ref q, .int ia ta, .int ib tb].toArray np) news n1) (P2 : Pull q (listOf its.toArray nq) n1 more)
    (hl : (l, listOf vs.toArray nl) ∈ more) (hj : IntsAre vs js) (hv : 0 < vs.length) (hv2 : vs.length < 2 ^ 22)
    (hqp : q < p) (hi : IntsAre its ns) (hlen : its.length ≤ 2 ^ 22) (hp : ∀ e ∈ more, e.1 ≠ p) (hq : ∀ e ∈ more, e.1 ≠ q) (hd : dp + 2 < recursionLimit) (hu : un + 110 < cLine)
    (ret : ∀ n t its' ns' a' ta' b' tb' np' nq' h' tk', n ∈ js → IntsAre its' ns' → its'.length ≤ 2 ^ 22 → Fr h₀ L h' m → News h₀ L h' ((p, listOf [.ref q, .int a' ta', .int b' tb'].toArray np') :: (q, listOf its'.toArray nq') :: more) → Q (.int n t) { s with heap := h', toks := tk' }) :
    wpAny (model PP w) (ktrTop dp un gd cn cs L a ccd cl outer) (call (.ref 250) [.ref p, .ref l]) Q E s :=
  pick_use B F X N T hk P1 P2 hl hv hv2 hqp hi hlen hp hq hd hu fun d v its' ns' a' ta' b' tb' np' nq' h' tk' hv' hi' hl' F' N' => by
    obtain ⟨n, t, rfl, hn⟩ := ints_at hj hv'
    exact ret _ _ _ _ _ _ _ _ _ _ _ _ (List.mem_of_getElem? hn) hi' hl' F' N'
/-- the line's ends that the law lays, and how many octets of each are one -/
def Ends : List (List UInt8 × Int) := [([32, 10], 2), ([32, 13], 2), ([13, 10], 2), ([10], 1), ([13], 1), ([10, 13], 1), ([32, 32, 10], 0), ([], 0), ([9, 10], 0), ([32], 0), ([13, 32], 1)]
theorem allLt_ne {d : Nat} {l : List (Addr × Obj)} (h : AllLt d l) : ∀ e ∈ l, e.1 ≠ d := by
  induction l with
  | nil => exact fun e he => absurd he List.not_mem_nil
  | cons a r ih =>
    obtain ⟨h1, h2⟩ := (show @LT.lt Nat _ a.1 d ∧ AllLt d r from h)
    exact List.forall_mem_cons.mpr ⟨Nat.ne_of_lt h1, ih h2⟩
theorem sub_cons {a : Addr × Obj} {r l : List (Addr × Obj)} (h : a ∈ l) (h' : ∀ e ∈ r, e ∈ l) : ∀ e ∈ a :: r, e ∈ l := fun e he => by
  rcases List.mem_cons.mp he with q | q
  · rw [q]; exact h
  · exact h' e q
theorem sub_tail {a : Addr × Obj} {r l : List (Addr × Obj)} (h : ∀ e ∈ r, e ∈ l) : ∀ e ∈ r, e ∈ a :: l := fun e he => List.Mem.tail _ (h e he)
end
local macro_rules | `(tactic| k_all) => `(tactic| first | assumption | exact List.forall_mem_nil _ | exact ne_all (by assumption) | (walk_at "cq"))
local macro_rules | `(tactic| walk_at "call ref") => `(tactic| (k_here; (with_reducible show wpAny _ _ (call (Value.ref 243) _) _ _ _); k_dflt (refine' draw_use ?B ?F ?X ?N ?T ?hk ?P1 ?P2 ?hqp ?hi ?hm ?hm2 ?hlen ?hp ?hq ?hd ?hu ?_; walk_at "cn"; (case hm => first | assumption | omega | decide); (case hm2 => first | assumption | decide +kernel)); intro d9 td9 its9 ns9 a9 ta9 b9 tb9 np9 nq9 h9 tk9 hd0 hd1 hi9 hl9 F9 N9; walk_at "ci"))
local macro_rules | `(tactic| walk_at "call ref") => `(tactic| (k_here; (with_reducible show wpAny _ _ (call (Value.ref 250) _) _ _ _); k_dflt (refine' pick_use ?B ?F ?X ?N ?T ?hk ?P1 ?P2 ?hl ?hv ?hv2 ?hqp ?hi ?hlen ?hp ?hq ?hd ?hu ?_; walk_at "cn"; walk_at "ce"); intro dd9 v9 its9 ns9 a9 ta9 b9 tb9 np9 nq9 h9 tk9 hv9 hi9 hl9 F9 N9; walk_at "ci"))
section
open PySem PySem.W PyProof.Rows
local macro_rules | `(tactic| walk_at "zz") => `(tactic| fail "zz")
local macro_rules | `(tactic| walk_at "zz") => `(tactic| fail "zz")
local macro_rules | `(tactic| walk_at "zz") => `(tactic| fail "zz")
local macro_rules | `(tactic| walk_at "zz") => `(tactic| fail "zz")
local macro_rules | `(tactic| walk_at "zz") => `(tactic| fail "zz")
local macro_rules | `(tactic| walk_at "zz") => `(tactic| fail "zz")
local macro_rules | `(tactic| walk_at "zz") => `(tactic| fail "zz")
local macro_rules | `(tactic| walk_at "zz") => `(tactic| fail "zz")
local macro_rules | `(tactic| walk_at "zz") => `(tactic| fail "zz")
local macro_rules | `(tactic| walk_at "zz") => `(tactic| fail "zz")
local macro_rules | `(tactic| walk_at "call ref") => `(tactic| (k_here; (with_reducible show wpAny _ _ (call (Value.ref 250) _) _ _ _); k_dflt (refine' pick_int ?B ?F ?X ?N ?T ?hk ?P1 ?P2 ?hl ?hj ?hv ?hv2 ?hqp ?hi ?hlen ?hp ?hq ?hd ?hu ?_; walk_at "cn"; walk_at "ce"; (case hj => l_ints)); intro n9 tn9 its9 ns9 a9 ta9 b9 tb9 np9 nq9 h9 tk9 hm9 hi9 hl9 F9 N9; walk_at "ci"))
set_option maxHeartbeats 4000000 in
theorem end_ok2 {w : World} {mean : ExcName → Option Value} {mg mb : Str → Option Value} {dp un : Nat} {gd : Option (List Code)} {cn : Str} {cs : Scope} {a : Addr} {ccd : Value} {cl : List (Str × Addr)} {outer : List Env} {A₀ : Around} {base h₀ : Heap} {L : Addr} {m : Str → Option Value} {s : Shared} {Q E : Value → Shared → Prop}
    {p q : Nat} {its : List Value} {ns : List Int} {ia ib : Int} {ta tb : Tok} {np nq : Nat} {more : List (Addr × Obj)}
    (B : Below A₀ base outer h₀) (F : Fr h₀ L s.heap m) (X : (hd.heap_39 w.params).In h₀) (N : News h₀ L s.heap ((p, listOf [.ref q, .int ia ta, .int ib tb].toArray np) :: (q, listOf its.toArray nq) :: more))
    (T : Top hd.view_39 LW mean mg mb h₀) (hk : cs.kind = .function) (hqp : q < p) (hi : IntsAre its ns) (hlen : its.length ≤ 2 ^ 22) (hp : ∀ e ∈ more, e.1 ≠ p) (hq : ∀ e ∈ more, e.1 ≠ q) (hd : dp + 10 < recursionLimit) (hu : un + 300 < cLine)
    (ret : ∀ r e te k t its' ns' a' ta' b' tb' np' nq' h' tk', (e, k) ∈ Ends → (∀ e ∈ more, e.1 ≠ r) → p ≠ r → q ≠ r → IntsAre its' ns' → its'.length ≤ 2 ^ 22 → Fr h₀ L h' m → News h₀ L h' ((p, listOf [.ref q, .int a' ta', .int b' tb'].toArray np') :: (q, listOf its'.toArray nq') :: (r, { cls := .type "tuple", data := .seq #[.bytes e.toArray te, .int k t] }) :: more) → Q (.ref r) { s with heap := h', toks := tk' }) :
    wpAny (model PP w) (ktrTop dp un gd cn cs L a ccd cl outer) (call (.ref 264) [.ref p]) Q E s := by
  refine wpAny_call ?_
  k_dflt cell_enter
  k_steps
  rename (_ : Option Value) = some _ => hv9
  rename News h₀ _ _ _ => kN
  rename Fr h₀ _ _ _ => kF
  rename (List.length _ ≤ 2 ^ 22) => hl9
  rename IntsAre _ _ => hi9
  clear N hi hlen
  repeat (rename _ ∧ _ => hz9; rcases hz9 with ⟨_, _⟩)
  replace hv9 := List.mem_of_getElem? hv9
  simp only [List.mem_cons, List.not_mem_nil, or_false] at hv9
  rcases hv9 with hv9 | hv9 | hv9 | hv9 | hv9 | hv9 | hv9 | hv9 | hv9 | hv9 | hv9
  all_goals
    subst hv9
    refine ret _ _ _ _ _ _ _ _ _ _ _ _ _ _ _ ?_ ?_ ?_ ?_ hi9 hl9 kF (cb_drop kN (sub_cons (List.Mem.head _) (sub_cons (List.Mem.tail _ (List.Mem.head _)) (sub_cons (by repeat (first | exact List.Mem.head _ | apply List.Mem.tail)) (by repeat (first | exact fun _ h => h | apply sub_tail))))))
    · with_unfolding_all first | exact List.Mem.head _ | (repeat (first | exact List.Mem.head _ | apply List.Mem.tail))
    · exact allLt_ne (by assumption)
    · exact Nat.ne_of_lt (by assumption)
    · exact Nat.ne_of_lt (by assumption)
end
section
open PySem PySem.W PyProof.Rows
def Right (dns : List Int) (k : Nat) (n : Int) : Prop := if k = 10 ∨ k = 16 then n = 32 else if k = 17 then n = 110 ∨ n = 102 else n = 48 + dns.getD (if k < 10 then k else k - 1) 0
def Other (k : Nat) (n : Int) : Prop := if k = 10 ∨ k = 16 then n = 9 ∨ n = 48 ∨ n = 13 else if k = 17 then n = 32 ∨ n = 78 ∨ n = 70 ∨ n = 10 else n = 47 ∨ n = 58 ∨ n = 32 ∨ n = 10 ∨ n = 97
/-- what stands of the columns after k turns -/
structure LaidOk (dns : List Int) (k : Nat) (ls : List Int) (wrong : Int) : Prop where
  len : ls.length = k
  oct : ∀ n ∈ ls, 0 ≤ n ∧ n < 256
  low : -1 ≤ wrong
  ok : ∀ j : Nat, j < k → (wrong < 0 ∨ (j : Int) < wrong) → Right dns j (ls.getD j 0)
  bad : 0 ≤ wrong → wrong < k ∧ Other wrong.toNat (ls.getD wrong.toNat 0)
theorem getD_app {ls : List Int} {n : Int} {j : Nat} (h : j < ls.length) : (ls ++ [n]).getD j 0 = ls.getD j 0 := by
  simp [List.getD_eq_getElem?_getD, List.getElem?_append_left h]
theorem getD_last' {ls : List Int} {n : Int} {j : Nat} (h : j = ls.length) : (ls ++ [n]).getD j 0 = n := by
  subst h; simp [List.getD_eq_getElem?_getD]
theorem LaidOk.nil {dns : List Int} : LaidOk dns 0 [] (-1) := ⟨rfl, fun n h => absurd h List.not_mem_nil, by omega, fun j h => absurd h (Nat.not_lt_zero _), fun h => absurd h (by omega)⟩
/-- a right one, or whatever comes behind a wrong one -/
theorem LaidOk.right {dns ls : List Int} {k : Nat} {w n : Int} (h : LaidOk dns k ls w) (hn : 0 ≤ n ∧ n < 256) (hr : Right dns k n) : LaidOk dns (k + 1) (ls ++ [n]) w := by
  refine ⟨by simp [h.len], ?_, h.low, ?_, ?_⟩
  · intro x hx
    rcases List.mem_append.mp hx with q | q
    · exact h.oct x q
    · rw [List.mem_singleton.mp q]; exact hn
  · intro j hj hw
    by_cases q : j < k
    · rw [getD_app (by rw [h.len]; exact q)]; exact h.ok j q hw
    · have e : j = k := by omega
      subst e
      rw [getD_last' h.len.symm]; exact hr
  · intro hw
    obtain ⟨b1, b2⟩ := h.bad hw
    refine ⟨by omega, ?_⟩
    rw [getD_app (by rw [h.len]; omega)]; exact b2
theorem LaidOk.behind {dns ls : List Int} {k : Nat} {w n : Int} (h : LaidOk dns k ls w) (hn : 0 ≤ n ∧ n < 256) (hw : 0 ≤ w) : LaidOk dns (k + 1) (ls ++ [n]) w := by
  refine ⟨by simp [h.len], ?_, h.low, ?_, ?_⟩
  · intro x hx
    rcases List.mem_append.mp hx with q | q
    · exact h.oct x q
    · rw [List.mem_singleton.mp q]; exact hn
  · intro j hj hw'
    obtain ⟨b1, b2⟩ := h.bad hw
    have q : j < k := by omega
    rw [getD_app (by rw [h.len]; exact q)]; exact h.ok j q hw'
  · intro hw
    obtain ⟨b1, b2⟩ := h.bad hw
    refine ⟨by omega, ?_⟩
    rw [getD_app (by rw [h.len]; omega)]; exact b2
theorem LaidOk.wrong {dns ls : List Int} {k : Nat} {w n : Int} (h : LaidOk dns k ls w) (hn : 0 ≤ n ∧ n < 256) (hw : w < 0) (hr : Other k n) : LaidOk dns (k + 1) (ls ++ [n]) (k : Int) := by
  refine ⟨by simp [h.len], ?_, by omega, ?_, ?_⟩
  · intro x hx
    rcases List.mem_append.mp hx with q | q
    · exact h.oct x q
    · rw [List.mem_singleton.mp q]; exact hn
  · intro j hj hw'
    have q : j < k := by omega
    rw [getD_app (by rw [h.len]; exact q)]; exact h.ok j q (Or.inl hw)
  · intro _
    refine ⟨by omega, ?_⟩
    rw [Int.toNat_natCast, getD_last' h.len.symm]; exact hr
def over : List Str → (Str → Option Value) → (Str → Option Value) → Str → Option Value
  | [], _, m₀, y => m₀ y
  | x :: xs, g, m₀, y => if y = x then g x else over xs g m₀ y
theorem over_eq {m₀ m₁ : Str → Option Value} : ∀ {xs : List Str}, (∀ z, z ∉ xs → m₁ z = m₀ z) → ∀ y, m₁ y = over xs m₁ m₀ y := by
  intro xs
  suffices ∀ {xs : List Str} (y : Str), (y ∉ xs → m₁ y = m₀ y) → m₁ y = over xs m₁ m₀ y from fun h y => this y (h y)
  intro xs y h
  induction xs with
  | nil => exact h List.not_mem_nil
  | cons x xs ih =>
    unfold over
    by_cases q : y = x
    · rw [if_pos q, q]
    · rw [if_neg q]
      exact ih fun hn => h fun hm => (List.mem_cons.mp hm).elim q hn
section
variable {prog : Program} {w : World} {A : Around} {E : Value → Shared → Prop} {s : Shared} {h₀ : Heap} {L l D : Addr} {m : Str → Option Value} {news news' : List (Addr × Obj)} {vs : List Value} {ns : List Int} {n : Nat} {k : Int} {t : Tok} {x : Value}
theorem app_list {Q : Value → Shared → Prop} (F : Fr h₀ L s.heap m) (N : News h₀ L s.heap news) (U : Upd D (listOf vs.toArray n) (listOf (vs ++ [x]).toArray (n + 1)) news news') (hz : vs.length ≤ 1000)
    (h : ∀ h', Fr h₀ L h' m → News h₀ L h' news' → Q .none { s with heap := h' }) : wpAny (model prog w) A (call (.builtin "list.append") [.ref D, x]) Q E s :=
  append_K (its := vs.toArray) F N (by simpa using U) h (by rw [List.size_toArray, sizeLine_eq]; omega)
theorem item_int {value slice : PySem.Expr} {Q : Value → Shared → Prop} (N : News h₀ L s.heap news) (hm : (l, listOf vs.toArray n) ∈ news) (hi : IntsAre vs ns) (h0 : 0 ≤ k) (h1 : k < ns.length) (hz : ns.length < 2 ^ 22) (h : ∀ t, Q (.int (ns.getD k.toNat 0) t) s)
    (hs : subscripted slice false (.ref l) (.int k t) = operate [.ref l, .int k t] (getItem (.ref l) (.int k t)) := by with_unfolding_all rfl) :
    wpAny (model prog w) A (subscriptTail value slice (.ref l) (.int k t)) Q E s := by
  have e := hi.length
  refine item_some N hm h0 (by omega) (by omega) (fun v hv => ?_) hs
  obtain ⟨n, t, rfl, hn⟩ := ints_at hi hv
  have q : ns.getD k.toNat 0 = n := by simp [List.getD_eq_getElem?_getD, hn]
  rw [← q]; exact h _
end
theorem getD_dig {dns : List Int} {k : Nat} (h : ∀ n ∈ dns, 0 ≤ n ∧ n ≤ 9) : 0 ≤ dns.getD k 0 ∧ dns.getD k 0 ≤ 9 := by
  rw [List.getD_eq_getElem?_getD]
  cases e : dns[k]? with
  | none => simp
  | some n => exact h n (List.mem_of_getElem? e)
end
local macro_rules | `(tactic| walk_at "call ref") => `(tactic| (k_here; (with_reducible show wpAny _ _ (call (Value.ref 250) _) _ _ _); k_dflt (refine' pick_int ?B ?F ?X ?N ?T ?hk ?P1 ?P2 ?hl ?hj ?hv ?hv2 ?hqp ?hi ?hlen ?hp ?hq ?hd ?hu ?_; walk_at "cn"; walk_at "ce"; (case hj => l_ints)); intro n9 tn9 its9 ns9 a9 ta9 b9 tb9 np9 nq9 h9 tk9 hm9 hi9 hl9 F9 N9; simp only [List.mem_cons, List.not_mem_nil, or_false] at hm9; walk_at "ci"))
local macro_rules | `(tactic| walk_at "pyIter ref") => `(tactic| (walk_at "cj"))
local macro_rules | `(tactic| walk_at "last pyIter ref") => `(tactic| (walk_at "cj"))
local macro_rules | `(tactic| walk_at "subscriptTail") => `(tactic| (k_here; (with_reducible show wpAny _ _ (subscriptTail _ _ (Value.ref _) (Value.int _ _)) _ _ _); k_dflt (refine' item_int ?N ?m ?i ?a ?b ?z ?_ ?hs; (case N => k_asm); (case m => walk_at "cl"); (case i => assumption); (case a => omega); (case b => omega); (case z => omega); (case hs => with_unfolding_all rfl); k_whole); intro t9; (try dsimp only)))
section
open PySem PySem.W PyProof.Rows
local macro_rules | `(tactic| walk_at "zz") => `(tactic| fail "zz")
local macro_rules | `(tactic| walk_at "zz") => `(tactic| fail "zz")
local macro_rules | `(tactic| walk_at "zz") => `(tactic| fail "zz")
local macro_rules | `(tactic| walk_at "zz") => `(tactic| fail "zz")
local macro_rules | `(tactic| walk_at "zz") => `(tactic| fail "zz")
local macro_rules | `(tactic| walk_at "zz") => `(tactic| fail "zz")
local macro_rules | `(tactic| walk_at "zz") => `(tactic| fail "zz")
local macro_rules | `(tactic| walk_at "call builtin:list.append") => `(tactic| (k_here; (with_reducible show wpAny _ _ (call (Value.builtin _) [Value.ref _, _]) _ _ _); k_dflt (refine' app_list ?k1 ?k2 ?k3 ?z ?_; (case k1 => k_asm); (case k2 => k_asm); (case k3 => k_upd); (case z => assumption); k_whole); intro h9 F9 N9; (try k_sweep)))

theorem oct_other {k : Nat} {n : Int} (h : Other k n) : 0 ≤ n ∧ n < 256 := by
  unfold Other at h
  split at h
  · rcases h with rfl | rfl | rfl <;> decide
  · split at h
    · rcases h with rfl | rfl | rfl | rfl <;> decide
    · rcases h with rfl | rfl | rfl | rfl | rfl <;> decide
theorem oct_right {dns : List Int} {k : Nat} {n : Int} (hd : ∀ n ∈ dns, 0 ≤ n ∧ n ≤ 9) (h : Right dns k n) : 0 ≤ n ∧ n < 256 := by
  unfold Right at h
  split at h
  · rw [h]; decide
  · split at h
    · rcases h with rfl | rfl <;> decide
    · have g := getD_dig (k := if k < 10 then k else k - 1) hd
      rw [h]
      exact ⟨Int.le_trans (by decide : (0 : Int) ≤ 48 + 0) (Int.add_le_add_left g.1 48), Int.lt_of_le_of_lt (Int.add_le_add_left g.2 48) (by decide)⟩
theorem ten_n {k : Nat} (h : (10 : Int) = k ∨ (16 : Int) = k) : k = 10 ∨ k = 16 := by omega
theorem ten_no {k : Nat} (h : (10 : Int) ≠ k ∧ (16 : Int) ≠ k) : ¬ (k = 10 ∨ k = 16) := by omega
theorem r10 {dns : List Int} {k : Nat} (h : (10 : Int) = k ∨ (16 : Int) = k) : Right dns k 32 := by rw [Right, if_pos (ten_n h)]
theorem o10 {k : Nat} {n : Int} (h : (10 : Int) = k ∨ (16 : Int) = k) (hm : n = 9 ∨ n = 48 ∨ n = 13) : Other k n := by rw [Other, if_pos (ten_n h)]; exact hm
theorem r17 {dns : List Int} {k : Nat} {n : Int} (h : (k : Int) = 17) (hm : n = 110 ∨ n = 102) : Right dns k n := by
  have e : k = 17 := Int.ofNat_inj.mp h
  subst e; exact hm
theorem o17 {k : Nat} {n : Int} (h : (k : Int) = 17) (hm : n = 32 ∨ n = 78 ∨ n = 70 ∨ n = 10) : Other k n := by
  have e : k = 17 := Int.ofNat_inj.mp h
  subst e; exact hm
theorem rlo {dns : List Int} {k : Nat} (h : (10 : Int) ≠ k ∧ (16 : Int) ≠ k) (h17 : (k : Int) ≠ 17) (hl : (k : Int) < 10) : Right dns k (48 + dns.getD k 0) := by
  rw [Right, if_neg (ten_no h), if_neg fun q => h17 (by rw [q]; rfl), if_pos (Int.ofNat_lt.mp hl)]
theorem rhi {dns : List Int} {k : Nat} (h : (10 : Int) ≠ k ∧ (16 : Int) ≠ k) (h17 : (k : Int) ≠ 17) (hl : ¬ (k : Int) < 10) : Right dns k (48 + dns.getD (k - 1) 0) := by
  rw [Right, if_neg (ten_no h), if_neg fun q => h17 (by rw [q]; rfl), if_neg fun q => hl (Int.ofNat_lt.mpr q)]
theorem oel {k : Nat} {n : Int} (h : (10 : Int) ≠ k ∧ (16 : Int) ≠ k) (h17 : (k : Int) ≠ 17) (hm : n = 47 ∨ n = 58 ∨ n = 32 ∨ n = 10 ∨ n = 97) : Other k n := by
  rw [Other, if_neg (ten_no h), if_neg fun q => h17 (by rw [q]; rfl)]; exact hm
theorem jr {dns ls : List Int} {k : Nat} {w n : Int} (h : LaidOk dns k ls w) (hd : ∀ n ∈ dns, 0 ≤ n ∧ n ≤ 9) (r : Right dns k n) : LaidOk dns (k + 1) (ls ++ [n]) w := h.right (oct_right hd r) r
theorem jb {dns ls : List Int} {k : Nat} {w n : Int} (h : LaidOk dns k ls w) (hw : ¬ w < 0) (o : Other k n) : LaidOk dns (k + 1) (ls ++ [n]) w := h.behind (oct_other o) (Int.not_lt.mp hw)
theorem jw {dns ls : List Int} {k : Nat} {w n : Int} (h : LaidOk dns k ls w) (hw : w < 0) (o : Other k n) : LaidOk dns (k + 1) (ls ++ [n]) (k : Int) := h.wrong (oct_other o) hw o
theorem pred_nat (k : Nat) : ((k : Int) - 1).toNat = k - 1 := by omega
set_option maxHeartbeats 4000000 in
theorem columns_ok {w : World} {mean : ExcName → Option Value} {mg mb : Str → Option Value} {dp un : Nat} {gd : Option (List Code)} {cn : Str} {cs : Scope} {a : Addr} {ccd : Value} {cl : List (Str × Addr)} {outer : List Env} {A₀ : Around} {base h₀ : Heap} {L : Addr} {m : Str → Option Value} {s : Shared} {Q E : Value → Shared → Prop}
    {p q ds : Nat} {its dvs : List Value} {ns dns : List Int} {ia ib : Int} {ta tb : Tok} {np nq nd : Nat} {more : List (Addr × Obj)}
    (B : Below A₀ base outer h₀) (F : Fr h₀ L s.heap m) (X : (hd.heap_39 w.params).In h₀) (N : News h₀ L s.heap ((p, listOf [.ref q, .int ia ta, .int ib tb].toArray np) :: (q, listOf its.toArray nq) :: (ds, listOf dvs.toArray nd) :: more))
    (T : Top hd.view_39 LW mean mg mb h₀) (hk : cs.kind = .function) (hqp : q < p) (hi : IntsAre its ns) (hlen : its.length ≤ 2 ^ 22) (hp : ∀ e ∈ more, e.1 ≠ p) (hq : ∀ e ∈ more, e.1 ≠ q) (hp' : ds ≠ p) (hq' : ds ≠ q)
    (hds : IntsAre dvs dns) (hdn : dns.length = 15) (hdig : ∀ n ∈ dns, 0 ≤ n ∧ n ≤ 9)
    (hd : dp + 10 < recursionLimit) (hu : un + 300 < cLine)
    (ret : ∀ r l lvs ls nl w tw its' ns' a' ta' b' tb' np' nq' h' tk', LaidOk dns 18 ls w → IntsAre lvs ls → (∀ e ∈ more, e.1 ≠ r) → p ≠ r → q ≠ r → p ≠ l → q ≠ l → IntsAre its' ns' → its'.length ≤ 2 ^ 22 → Fr h₀ L h' m → News h₀ L h' ((p, listOf [.ref q, .int a' ta', .int b' tb'].toArray np') :: (q, listOf its'.toArray nq') :: (r, { cls := .type "tuple", data := .seq #[.ref l, .int w tw] }) :: (l, listOf lvs.toArray nl) :: (ds, listOf dvs.toArray nd) :: more) → Q (.ref r) { s with heap := h', toks := tk' }) :
    wpAny (model PP w) (ktrTop dp un gd cn cs L a ccd cl outer) (call (.ref 257) [.ref p, .ref ds]) Q E s := by
  refine wpAny_call ?_
  k_dflt cell_enter
  k_steps
  unfold Stop
  rename IsRange _ _ _ _ _ _ _ _ => rg9
  rename News _ _ _ _ => N9
  rename Fr _ _ _ _ => F9
  rename _ < _ ∧ _ < _ ∧ _ < _ ∧ AllLt _ _ => l9
  refine iter_rangeM (n := 18) (fun m₀ k m₁ nx => ∃ lD : Nat, ∃ lvs ls nl w tw its ns a ta b tb np nq, nx = (p, listOf [.ref q, .int a ta, .int b tb].toArray np) :: (q, listOf its.toArray nq) :: (lD, listOf lvs.toArray nl) :: (ds, listOf dvs.toArray nd) :: more ∧ m₀ (Str.ofString "laid") = some (.ref lD) ∧ (p < lD ∧ q < lD ∧ ds < lD ∧ AllLt lD more) ∧ LaidOk dns k ls w ∧ IntsAre lvs ls ∧ IntsAre its ns ∧ its.length ≤ 2 ^ 22 ∧ m₁ (Str.ofString "wrong") = some (.int w tw) ∧ ∀ z, z ∉ [Str.ofString "wrong", Str.ofString "column", Str.ofString "right", Str.ofString "other", Str.ofString "is_right"] → m₁ z = m₀ z) rfl rg9 (by omega) F9 (cb_drop N9 (sub_cons (List.Mem.tail _ (List.Mem.tail _ (List.Mem.head _))) (sub_cons (List.Mem.tail _ (List.Mem.tail _ (List.Mem.tail _ (List.Mem.head _)))) (sub_cons (List.Mem.tail _ (List.Mem.head _)) (sub_tail (sub_tail (sub_tail (sub_tail fun _ h => h)))))))) ?_ ?_ ?_
  · exact ⟨_, _, _, _, _, _, _, _, _, _, _, _, _, _, rfl, rfl, l9, LaidOk.nil, IntsAre.nil, hi, hlen, rfl, fun z _ => rfl⟩
  · rintro k t m₁ nx h tk own hkc hoff ⟨lD, lvs, ls, nl, w, tw, its, ns, a, ta, b, tb, np, nq, rfl, hm0, l9, hJ, hlv, hi, hlen, hw, hm⟩ F' N'
    obtain ⟨g, hg, rfl⟩ : ∃ g : Str → Option Value, g (Str.ofString "wrong") = some (.int w tw) ∧ m₁ = fun y => over [Str.ofString "wrong", Str.ofString "column", Str.ofString "right", Str.ofString "other", Str.ofString "is_right"] g _ y := ⟨m₁, hw, funext (over_eq hm)⟩
    simp only [over, hg] at F'
    dsimp only [List.cons_append, List.nil_append] at N'
    clear N F9 N9
    have hoff1 : ∀ e ∈ own, e.1 ≠ p := OwnOff.ne hoff (List.Mem.head _)
    have hoff2 : ∀ e ∈ own, e.1 ≠ q := OwnOff.ne hoff (List.Mem.tail _ (List.Mem.head _))
    injection (show some (Value.ref _) = some (Value.ref lD) from hm0) with hl9
    injection hl9 with hl9
    subst hl9
    have hoff3 := OwnOff.ne hoff (List.Mem.tail _ (List.Mem.tail _ (List.Mem.head _)))
    dsimp only at hoff3
    have hmo1 : ∀ e ∈ more ++ own, e.1 ≠ p := fun e he => (List.mem_append.mp he).elim (hp e) (hoff1 e)
    have hmo2 : ∀ e ∈ more ++ own, e.1 ≠ q := fun e he => (List.mem_append.mp he).elim (hq e) (hoff2 e)
    have hmo3 : ∀ e ∈ more ++ own, e.1 ≠ _ := fun e he => (List.mem_append.mp he).elim (allLt_ne l9.2.2.2 e) (hoff3 e)
    have hlvl : lvs.length ≤ 1000 := by have := hlv.length; have := hJ.len; omega
    clear hm0 hw hm rg9 hp hq hoff1 hoff2 hoff3
    k_steps
    all_goals first
      | (rename News _ _ _ _ => kN9
         rename Fr _ _ _ _ => kF9
         rename IntsAre _ _ => hi8
         rename List.length _ ≤ 2 ^ 22 => hl8
         refine' InvEndN.intro kF9 kN9 ⟨_, _, _, _, _, _, _, _, _, _, _, _, _, _, rfl, rfl, l9, ?J, IntsAre.append hlv (IntsAre.cons _ _ IntsAre.nil), hi8, hl8, rfl, ?M⟩ ?A ?H ?O
         case H => exact sub_cons (by repeat (first | exact List.Mem.head _ | apply List.Mem.tail)) (sub_cons (by repeat (first | exact List.Mem.head _ | apply List.Mem.tail)) (sub_cons (by repeat (first | exact List.Mem.head _ | apply List.Mem.tail)) (sub_cons (by repeat (first | exact List.Mem.head _ | apply List.Mem.tail)) (by repeat (first | exact fun _ h => List.mem_append_left _ h | apply sub_tail)))))
         case O => (repeat (first | exact fun _ h => List.mem_append_right _ h | apply sub_tail))
         case A => rfl
         case M =>
           intro z hz
           simp only [List.mem_cons, List.not_mem_nil, or_false, not_or] at hz
           obtain ⟨q1, q2, q3, q4, q5⟩ := hz
           simp [q1, q2, q3, q4, q5]
         case J =>
           try (rename (List.any _ _ = _) => ha9; simp only [List.any_cons, List.any_nil, Bool.or_false, Bool.or_eq_true, Bool.or_eq_false_iff, beq_iff_eq, beq_eq_false_iff_ne] at ha9)
           try simp only [Int.toNat_natCast, pred_nat]
           first
             | (refine jr hJ hdig ?_; first | (refine r10 ?_; assumption) | (refine r17 ?_ ?_ <;> assumption) | (refine rlo ?_ ?_ ?_ <;> assumption) | (refine rhi ?_ ?_ ?_ <;> assumption))
             | (refine jw hJ ?_ ?_; (assumption); first | (refine o10 ?_ ?_ <;> assumption) | (refine o17 ?_ ?_ <;> assumption) | (refine oel ?_ ?_ ?_ <;> assumption))
             | (refine jb hJ ?_ ?_; (assumption); first | (refine o10 ?_ ?_ <;> assumption) | (refine o17 ?_ ?_ <;> assumption) | (refine oel ?_ ?_ ?_ <;> assumption)))
  · rintro m₁ nx h tk ⟨lD, lvs, ls, nl, w, tw, its, ns, a, ta, b, tb, np, nq, rfl, hm0, l9, hJ, hlv, hi, hlen, hw, hm⟩ F' N'
    obtain ⟨g, hg, rfl⟩ : ∃ g : Str → Option Value, g (Str.ofString "wrong") = some (.int w tw) ∧ m₁ = fun y => over [Str.ofString "wrong", Str.ofString "column", Str.ofString "right", Str.ofString "other", Str.ofString "is_right"] g _ y := ⟨m₁, hw, funext (over_eq hm)⟩
    simp only [over, hg] at F'
    clear N F9 N9
    dsimp only
    injection (show some (Value.ref _) = some (Value.ref lD) from hm0) with hl9
    injection hl9 with hl9
    subst hl9
    k_steps
    rename News h₀ _ _ _ => kN
    rename Fr h₀ _ _ _ => kF
    rename _ < _ ∧ _ < _ ∧ _ < _ ∧ _ < _ ∧ AllLt _ _ => l8
    exact ret _ _ _ _ _ _ _ _ _ _ _ _ _ _ _ _ _ hJ hlv (allLt_ne l8.2.2.2.2) (Nat.ne_of_lt l8.1) (Nat.ne_of_lt l8.2.1) (Nat.ne_of_lt l9.1) (Nat.ne_of_lt l9.2.1) hi hlen kF (cb_drop kN (sub_cons (List.Mem.tail _ (List.Mem.head _)) (sub_cons (List.Mem.tail _ (List.Mem.tail _ (List.Mem.head _))) (sub_cons (List.Mem.head _) (sub_tail (sub_tail (sub_tail fun _ h => h)))))))
end
section
open PySem PySem.W PyProof.Rows
theorem name_lt {a b : Nat} (h : a < b) {P : Prop} (k : ∀ a' b' : Nat, a' = a → b' = b → a' < b' → P) : P := k a b rfl rfl h
theorem ten_pos (n : Nat) : (0 : Int) < 10 ^ n := by
  induction n with
  | zero => decide
  | succ n ih => rw [Int.pow_succ]; omega
/-- the figures that the law lays -/
def due (n1 n2 : Int) : List Int := (List.range 10).map (fun k => n1 / 10 ^ (9 - k) % 10) ++ (List.range 5).map (fun k => n2 / 10 ^ (4 - k) % 10)
theorem due_ints {ws : List Value} {n1 n2 : Int} (h : IntsAre ws (List.map (fun k' : Int => if ¬(10 : Int) ^ (9 - k').toNat = 0 then (n1.fdiv (10 ^ (9 - k').toNat)).fmod 10 else k') (rangeKs 0 (10 - 0 : Int).toNat) ++ List.map (fun k' : Int => if ¬(10 : Int) ^ (4 - k').toNat = 0 then (n2.fdiv (10 ^ (4 - k').toNat)).fmod 10 else k') (rangeKs 0 (5 - 0 : Int).toNat))) : IntsAre ws (due n1 n2) := by
  have e : ∀ n : Nat, ¬ (10 : Int) ^ n = 0 := fun n => by have := ten_pos n; omega
  have e1 : ∀ (x : Int) (n : Nat), (x.fdiv (10 ^ n)).fmod 10 = x / 10 ^ n % 10 := fun x n => by
    rw [Int.fdiv_eq_ediv_of_nonneg _ (Int.le_of_lt (ten_pos n)), Int.fmod_eq_emod_of_nonneg _ (by decide)]
  simp only [e, not_false_eq_true, if_true, e1] at h
  exact h
theorem due_len (n1 n2 : Int) : (due n1 n2).length = 15 := by simp [due]
theorem due_dig (n1 n2 : Int) : ∀ n ∈ due n1 n2, 0 ≤ n ∧ n ≤ 9 := by
  intro n h
  simp only [due, List.mem_append, List.mem_map] at h
  rcases h with ⟨k, _, rfl⟩ | ⟨k, _, rfl⟩ <;> omega
theorem news_keep {h₀ h h' : Heap} {L : Addr} {news new : List (Addr × Obj)} (N : News h₀ L h news) (N' : News h₀ L h' new) (keep : ∀ b o, b ≠ L → h.get? b = some o → h'.get? b = some o) : News h₀ L h' (new ++ news) := fun p hp => by
  rcases List.mem_append.mp hp with q | q
  · exact N' p q
  · exact ⟨keep _ _ (N p q).2.1 (N p q).1, (N p q).2⟩
theorem pull3 {d d' d'' : Addr} {o o' o'' : Obj} {l l' l'' r : List (Addr × Obj)} (h : Pull d o l l') (h' : Pull d' o' l' l'') (h'' : Pull d'' o'' l'' r) : ∀ e ∈ (d, o) :: (d', o') :: (d'', o'') :: r, e ∈ l := by
  intro e he
  rcases List.mem_cons.mp he with h1 | h1
  · exact h.mem e (by rw [h1]; exact List.Mem.head _)
  · exact h.mem e (List.Mem.tail _ (h'.two h'' e h1))
/-- where two ways of one expression meet: an int, the pen and what the ledger held behind it -/
def JoinAt (h₀ : Heap) (L : Addr) (m : Str → Option Value) (p q : Nat) (more : List (Addr × Obj)) (P : Int → Prop) (s : Shared) (v : Value) (s' : Shared) : Prop :=
  ∃ n t its ns a ta b tb np nq h' tk', v = .int n t ∧ s' = { s with heap := h', toks := tk' } ∧ P n ∧ IntsAre its ns ∧ List.length its ≤ 2 ^ 22 ∧ Fr h₀ L h' m ∧ News h₀ L h' ((p, listOf [.ref q, .int a ta, .int b tb].toArray np) :: (q, listOf its.toArray nq) :: more)
theorem join_int {M : Model} {A : Around} {t : Sem Value} {Q : Value → Shared → Prop} {E : Value → Shared → Prop} {s : Shared} {h₀ : Heap} {L : Addr} {m : Str → Option Value} {p q : Nat} {its : List Value} {ia ib : Int} {ta tb : Tok} {np nq : Nat} {more : List (Addr × Obj)} {d : Int}
    (_hd : 0 ≤ d) (_F : Fr h₀ L s.heap m) (_N : News h₀ L s.heap ((p, listOf [.ref q, .int ia ta, .int ib tb].toArray np) :: (q, listOf its.toArray nq) :: more))
    (hw : wpAny M A t (JoinAt h₀ L m p q more (fun n => (d = 0 → 65536 ≤ n ∧ n < 100000) ∧ (¬ d = 0 → 0 ≤ n ∧ n < 65536)) s) E s)
    (k : ∀ n t its ns a ta b tb np nq h' tk', ((d = 0 → 65536 ≤ n ∧ n < 100000) ∧ (¬ d = 0 → 0 ≤ n ∧ n < 65536)) → IntsAre its ns → List.length its ≤ 2 ^ 22 → Fr h₀ L h' m → News h₀ L h' ((p, listOf [.ref q, .int a ta, .int b tb].toArray np) :: (q, listOf its.toArray nq) :: more) → Q (.int n t) { s with heap := h', toks := tk' }) :
    wpAny M A t Q E s := by
  refine wpAny_mono hw ?_ ?_
  · rintro v s' ⟨n, t, its, ns, a, ta, b, tb, np, nq, h', tk', rfl, rfl, hP, hi, hl, F, N⟩
    exact k _ _ _ _ _ _ _ _ _ _ _ _ hP hi hl F N
  · exact fun _ _ h => h
end
section
open PySem PySem.W PyProof.Rows
/-- a column's octet stands -/
def GoodI (x v : Int) : Prop := (x = 10 ∨ x = 16 → v = 32) ∧ (x = 17 → v = 110 ∨ v = 102) ∧ (x ≠ 10 → x ≠ 16 → x ≠ 17 → 48 ≤ v ∧ v ≤ 57)
theorem ten_cast {j : Nat} (h : (j : Int) = 10 ∨ (j : Int) = 16) : j = 10 ∨ j = 16 := by omega
theorem good_of_right {dns : List Int} {j : Nat} {v : Int} (hdig : ∀ n ∈ dns, 0 ≤ n ∧ n ≤ 9) (h : Right dns j v) : GoodI (j : Int) v := by
  unfold Right at h
  unfold GoodI
  have g := getD_dig (k := if j < 10 then j else j - 1) hdig
  split at h
  · rename_i q
    rcases q with rfl | rfl
    · exact ⟨fun _ => h, fun e => absurd e (by decide), fun a => absurd rfl a⟩
    · exact ⟨fun _ => h, fun e => absurd e (by decide), fun _ a => absurd rfl a⟩
  · rename_i q
    split at h
    · rename_i q2
      subst q2
      exact ⟨fun e => absurd e (by decide), fun _ => h, fun _ _ a => absurd rfl a⟩
    · rename_i q2
      refine ⟨fun e => absurd (ten_cast e) q, fun e => absurd (Int.ofNat_inj.mp e) q2, fun _ _ _ => ?_⟩
      rw [h]
      exact ⟨Int.add_le_add_left g.1 48, Int.add_le_add_left g.2 48⟩
theorem not_good_of_other {j : Nat} {v : Int} (h : Other j v) : ¬ GoodI (j : Int) v := by
  rintro ⟨g1, g2, g3⟩
  unfold Other at h
  split at h
  · rename_i q
    have e : v = 32 := g1 (q.imp (fun e => by rw [e]; rfl) fun e => by rw [e]; rfl)
    subst e
    exact absurd h (by decide)
  · rename_i q
    split at h
    · rename_i q2
      rcases g2 (by rw [q2]; rfl) with e | e <;> subst e <;> exact absurd h (by decide)
    · rename_i q2
      have e := g3 (fun e => q (Or.inl (Int.ofNat_inj.mp e))) (fun e => q (Or.inr (Int.ofNat_inj.mp e))) fun e => q2 (Int.ofNat_inj.mp e)
      rcases h with rfl | rfl | rfl | rfl | rfl <;> exact absurd e (by decide)
theorem due_one (n1 n2 : Int) : ∀ j : Nat, j < 10 → (due n1 n2).getD j 0 = n1 / 10 ^ (9 - j) % 10
  | 0, _ => rfl
  | 1, _ => rfl
  | 2, _ => rfl
  | 3, _ => rfl
  | 4, _ => rfl
  | 5, _ => rfl
  | 6, _ => rfl
  | 7, _ => rfl
  | 8, _ => rfl
  | 9, _ => rfl
  | n + 10, h => absurd (Nat.lt_of_add_lt_add_right (h : n + 10 < 0 + 10)) (Nat.not_lt_zero n)
theorem due_two (n1 n2 : Int) : ∀ j : Nat, j < 5 → (due n1 n2).getD (10 + j) 0 = n2 / 10 ^ (4 - j) % 10
  | 0, _ => rfl
  | 1, _ => rfl
  | 2, _ => rfl
  | 3, _ => rfl
  | 4, _ => rfl
  | n + 5, h => absurd (Nat.lt_of_add_lt_add_right (h : n + 5 < 0 + 5)) (Nat.not_lt_zero n)
theorem num_gen {D : List UInt8} {i n : Int} {c : Nat} (h0 : 0 ≤ n) (h1 : n < 10 ^ c) (hb : ∀ j : Nat, j < c → byteAt D (i + j) = 48 + n / 10 ^ (c - 1 - j) % 10) : ∀ m : Nat, m ≤ c → numV D i m = n / 10 ^ (c - m) := by
  intro m
  induction m with
  | zero => intro _; exact (Int.ediv_eq_zero_of_lt h0 h1).symm
  | succ m ih =>
    intro hm
    have e := ih (by omega)
    have b := hb m (by omega)
    have p : (10 : Int) ^ (c - m) = 10 ^ (c - (m + 1)) * 10 := by rw [show c - m = (c - (m + 1)) + 1 from (Nat.succ_pred_eq_of_pos (Nat.sub_pos_of_lt hm)).symm, Int.pow_succ]
    have q : n / 10 ^ (c - m) = n / 10 ^ (c - (m + 1)) / 10 := by rw [p, Int.ediv_ediv_of_nonneg (Int.le_of_lt (ten_pos _))]
    rw [Nat.sub_sub, Nat.add_comm 1 m] at b
    unfold numV
    rw [e, b, q]
    omega
theorem num_one {D : List UInt8} {i n : Int} (h0 : 0 ≤ n) (h1 : n < 10000000000) (hb : ∀ j : Nat, j < 10 → byteAt D (i + j) = 48 + n / 10 ^ (9 - j) % 10) : numV D i 10 = n := by
  rw [num_gen (c := 10) h0 h1 hb 10 (by omega)]
  simp
theorem num_two {D : List UInt8} {i n : Int} (h0 : 0 ≤ n) (h1 : n < 100000) (hb : ∀ j : Nat, j < 5 → byteAt D (i + j) = 48 + n / 10 ^ (4 - j) % 10) : numV D i 5 = n := by
  rw [num_gen (c := 5) h0 h1 hb 5 (by omega)]
  simp
/-- what the law knows of what it built, the first wrong place told (before the great one's turn) -/
structure Built (D : List UInt8) (i n1 n2 : Int) (ls : List Int) (W : Int) : Prop where
  low : -1 ≤ W
  up : W < 18
  good : ∀ x : Int, 0 ≤ x → x < 18 → (W < 0 ∨ x < W) → byteAt D (i + x) = ls.getD x.toNat 0 ∧ Right (due n1 n2) x.toNat (ls.getD x.toNat 0)
  bad : 0 ≤ W → ¬ GoodI W (byteAt D (i + W))
theorem built {D : List UInt8} {i n1 n2 w many : Int} {ls : List Int} (hJ : LaidOk (due n1 n2) 18 ls w) (hm : 0 ≤ many ∧ many ≤ 18) (hB : ∀ x : Int, 0 ≤ x → x < many → byteAt D (i + x) = ls.getD x.toNat 0) (hE : many < 18 → byteAt D (i + many) = -1) :
    ∃ W1, Built D i n1 n2 ls W1 ∧ (many < 18 ∧ (w < 0 ∨ many ≤ w) → W1 = many) ∧ (¬ (many < 18 ∧ (w < 0 ∨ many ≤ w)) → W1 = w) := by
  have hlow := hJ.low
  by_cases c : many < 18 ∧ (w < 0 ∨ many ≤ w)
  · refine ⟨many, ⟨by omega, by omega, ?_, ?_⟩, fun _ => rfl, fun h => absurd c h⟩
    · intro x hx hx' hW
      exact ⟨hB x hx (by omega), hJ.ok _ (by omega) (by omega)⟩
    · intro _
      rw [hE c.1]
      unfold GoodI
      omega
  · refine ⟨w, ⟨hlow, ?_, ?_, ?_⟩, fun h => absurd h c, fun _ => rfl⟩
    · by_cases q : 0 ≤ w
      · have := (hJ.bad q).1; omega
      · omega
    · intro x hx hx' hW
      exact ⟨hB x hx (by omega), hJ.ok _ (by omega) (by omega)⟩
    · intro hw
      obtain ⟨b1, b2⟩ := hJ.bad hw
      have := not_good_of_other b2
      rw [Int.toNat_of_nonneg hw] at this
      rw [hB w hw (by omega)]
      exact this
namespace Built
variable {D : List UInt8} {i n1 n2 W : Int} {ls : List Int}
theorem fine (h : Built D i n1 n2 ls W) (x : Int) (hx : 0 ≤ x) (hx' : x < 18) (hW : W < 0 ∨ x < W) : GoodI x (byteAt D (i + x)) := by
  obtain ⟨a, b⟩ := h.good x hx hx' hW
  have := good_of_right (due_dig n1 n2) b
  rw [Int.toNat_of_nonneg hx] at this
  rw [a]; exact this
theorem digit (h : Built D i n1 n2 ls W) (j : Nat) (k : Nat) (hj : j < 18) (h10 : j ≠ 10) (h16 : j ≠ 16) (h17 : j ≠ 17) (hk : k = if j < 10 then j else j - 1) (hW : W < 0 ∨ (j : Int) < W) : byteAt D (i + j) = 48 + (due n1 n2).getD k 0 := by
  obtain ⟨a, b⟩ := h.good j (by omega) (by omega) hW
  rw [a]
  rw [Int.toNat_natCast] at b ⊢
  unfold Right at b
  rw [if_neg (by omega), if_neg h17, ← hk] at b
  exact b
theorem one (h : Built D i n1 n2 ls W) (h0 : 0 ≤ n1) (h1 : n1 < 10000000000) (hW : W < 0 ∨ 10 ≤ W) : numV D i 10 = n1 := by
  refine num_one h0 h1 fun j hj => ?_
  rw [h.digit j j (by omega) (by omega) (by omega) (by omega) (if_pos hj).symm (by omega), due_one _ _ _ hj]
theorem two (h : Built D i n1 n2 ls W) (h0 : 0 ≤ n2) (h1 : n2 < 100000) (hW : W < 0 ∨ 16 ≤ W) : numV D (i + 10 + 1) 5 = n2 := by
  refine num_two h0 h1 fun j hj => ?_
  have e : i + 10 + 1 + (j : Int) = i + ((11 + j : Nat) : Int) := by omega
  rw [e, h.digit (11 + j) (10 + j) (by omega) (by omega) (by omega) (by omega) (by rw [if_neg (by omega)]; omega) (by omega), due_two _ _ _ hj]
end Built
theorem figsI {D : List UInt8} {i : Int} {n : Nat} (f : Figs D i n) (x : Int) (hx : 0 ≤ x) (hx' : x < n) : 48 ≤ byteAt D (i + x) ∧ byteAt D (i + x) ≤ 57 := by
  have := f x.toNat (by omega)
  rwa [Int.toNat_of_nonneg hx] at this
namespace Built
variable {D : List UInt8} {i n1 n2 W : Int} {ls : List Int}
theorem k1 (B : Built D i n1 n2 ls W) (n : Nat) (hn : n ≤ 10) (f : Figs D i n) : ¬ (0 ≤ W ∧ W < n) := fun h => by
  have b := B.bad h.1
  have a := figsI f W h.1 h.2
  exact b ⟨fun _ => by omega, fun _ => by omega, fun _ _ _ => a⟩
theorem k2 (B : Built D i n1 n2 ls W) (b : byteAt D (i + 10) = 32) : W ≠ 10 := by
  rintro rfl
  exact B.bad (by omega) ⟨fun _ => b, fun _ => by omega, fun _ _ _ => by omega⟩
theorem k3 (B : Built D i n1 n2 ls W) (n : Nat) (hn : n ≤ 5) (f : Figs D (i + 10 + 1) n) : ¬ (11 ≤ W ∧ W < 11 + n) := fun h => by
  have b := B.bad (by omega)
  have a := figsI f (W - 11) (by omega) (by omega)
  rw [show i + 10 + 1 + (W - 11) = i + W by omega] at a
  exact b ⟨fun _ => by omega, fun _ => by omega, fun _ _ _ => a⟩
theorem k4 (B : Built D i n1 n2 ls W) (b : byteAt D (i + 10 + 1 + 5) = 32) : W ≠ 16 := by
  rintro rfl
  rw [show i + 10 + 1 + 5 = i + 16 by omega] at b
  exact B.bad (by omega) ⟨fun _ => b, fun _ => by omega, fun _ _ _ => by omega⟩
theorem k5 (B : Built D i n1 n2 ls W) (b : byteAt D (i + 10 + 1 + 5 + 1) = 110 ∨ byteAt D (i + 10 + 1 + 5 + 1) = 102) : W ≠ 17 := by
  rintro rfl
  rw [show i + 10 + 1 + 5 + 1 = i + 17 by omega] at b
  exact B.bad (by omega) ⟨fun _ => by omega, fun _ => b, fun _ _ _ => by omega⟩
end Built
theorem sq_one {W n : Int} (a : ¬ (0 ≤ W ∧ W < n)) (g : ¬ (W < 0 ∨ n < W)) : W = n := by omega
theorem sq_two {W n : Int} (a : ¬ (0 ≤ W ∧ W < 10)) (a2 : W ≠ 10) (a3 : ¬ (11 ≤ W ∧ W < 11 + n)) (g : ¬ (W < 0 ∨ 11 + n < W)) : W = 11 + n := by omega
theorem sq_great {W : Int} (a : ¬ (0 ≤ W ∧ W < 10)) (a2 : W ≠ 10) (a3 : ¬ (11 ≤ W ∧ W < 11 + 5)) : W < 0 ∨ 16 ≤ W := by omega
theorem sq_last {W : Int} (up : W < 18) (a : W < 0 ∨ 16 ≤ W) (a4 : W ≠ 16) (a5 : W ≠ 17) : W < 0 := by omega
theorem sq_b {W : Int} (a : W < 0 ∨ 16 ≤ W) (g : ¬ (W < 0 ∨ 16 < W)) : W = 16 := by omega
theorem sq_l {W : Int} (up : W < 18) (a : W < 0 ∨ 16 ≤ W) (a4 : W ≠ 16) (g : ¬ (W < 0 ∨ 17 < W)) : W = 17 := by omega
theorem low_keeps {d W1 W n : Int} (r2 : ¬ (d = 0 ∧ (W1 < 0 ∨ 16 ≤ W1)) → W = W1) (h : W1 = n) (h0 : 0 ≤ n) (h1 : n < 16) : 0 ≤ W ∧ W = n := by
  have e : W = W1 := r2 (by rw [h]; omega)
  rw [e, h]; exact ⟨h0, rfl⟩
theorem small_keeps {d W1 W n2 : Int} (r2 : ¬ (d = 0 ∧ (W1 < 0 ∨ 16 ≤ W1)) → W = W1) (hg : d = 0 → 65536 ≤ n2) (c : ¬ 65535 < n2) : W = W1 :=
  r2 fun q => c (by have := hg q.1; omega)
theorem great_is {d n2 : Int} (hg' : ¬ d = 0 → n2 < 65536) (c : 65535 < n2) : d = 0 := by
  by_cases q : d = 0
  · exact q
  · have := hg' q; omega
theorem no_told {D : List UInt8} {i n1 n2 W1 W k d : Int} {ls : List Int} (B : Built D i n1 n2 ls W1) (h2 : 0 ≤ n2) (h2' : n2 < 100000) (hg : d = 0 → 65536 ≤ n2) (hg' : ¬ d = 0 → n2 < 65536)
    (r1 : d = 0 ∧ (W1 < 0 ∨ 16 ≤ W1) → W = 11) (r2 : ¬ (d = 0 ∧ (W1 < 0 ∨ 16 ≤ W1)) → W = W1) (h : EntryNo D i k) : (0 ≤ W ∧ k = i + W) ∨ (W < 0 ∧ k = i + 18 ∧ EndNo D (i + 18)) := by
  have up := B.up
  cases h with
  | one n h f b =>
    have a := B.k1 n (Nat.le_of_lt h) f
    have g : ¬ (W1 < 0 ∨ (n : Int) < W1) := fun c => b ((B.fine n (by clear hg hg' r1 r2; omega) (by clear hg hg' r1 r2; omega) c).2.2 (by clear hg hg' r1 r2; omega) (by clear hg hg' r1 r2; omega) (by clear hg hg' r1 r2; omega))
    obtain ⟨x, y⟩ := low_keeps r2 (sq_one a g) (Int.natCast_nonneg n) (by clear hg hg' r1 r2; omega)
    exact Or.inl ⟨x, by rw [y]⟩
  | blank f b =>
    have a := B.k1 10 (Nat.le_refl 10) f
    have g : ¬ (W1 < 0 ∨ 10 < W1) := fun c => b ((B.fine 10 (by decide) (by decide) c).1 (Or.inl rfl))
    obtain ⟨x, y⟩ := low_keeps r2 (sq_one a g) (by decide) (by decide)
    exact Or.inl ⟨x, by rw [y]; rfl⟩
  | two n h f b g' c =>
    have a := B.k1 10 (Nat.le_refl 10) f
    have a2 := B.k2 b
    have a3 := B.k3 n (Nat.le_of_lt h) g'
    have hn : (n : Int) < 5 := by clear hg hg' r1 r2 a a2 a3; omega
    have g : ¬ (W1 < 0 ∨ 11 + (n : Int) < W1) := fun q => by
      have z := (B.fine (11 + n) (by clear hg hg' r1 r2 a a2 a3 q; omega) (by clear hg hg' r1 r2 a a2 a3 q; omega) q).2.2 (by clear hg hg' r1 r2 a a2 a3 q; omega) (by clear hg hg' r1 r2 a a2 a3 q; omega) (by clear hg hg' r1 r2 a a2 a3 q; omega)
      rw [show i + (11 + (n : Int)) = i + 10 + 1 + n by clear hg hg' r1 r2 a a2 a3 q z; omega] at z
      exact c z
    obtain ⟨x, y⟩ := low_keeps r2 (sq_two a a2 a3 g) (by clear hg hg' r1 r2 a a2 a3 g; omega) (by clear hg hg' r1 r2 a a2 a3 g; omega)
    exact Or.inl ⟨x, by rw [y]; clear hg hg' r1 r2 a a2 a3 g x y; omega⟩
  | great f b g' c =>
    have a := sq_great (B.k1 10 (Nat.le_refl 10) f) (B.k2 b) (B.k3 5 (Nat.le_refl 5) g')
    have q := B.two h2 h2' (a.imp id id)
    rw [q] at c
    have e := r1 ⟨great_is hg' c, a⟩
    exact Or.inl ⟨by rw [e]; decide, by rw [e]; clear hg hg' r1 r2 a; omega⟩
  | blank2 f b g' c e =>
    have a := sq_great (B.k1 10 (Nat.le_refl 10) f) (B.k2 b) (B.k3 5 (Nat.le_refl 5) g')
    have q := B.two h2 h2' (a.imp id id)
    rw [q] at c
    have g : ¬ (W1 < 0 ∨ 16 < W1) := fun q => by
      have z := (B.fine 16 (by decide) (by decide) q).1 (Or.inr rfl)
      rw [show i + 16 = i + 10 + 1 + 5 by clear hg hg' r1 r2 a; omega] at z
      exact e z
    have w := small_keeps r2 hg c
    have w1 := sq_b a g
    exact Or.inl ⟨by rw [w, w1]; decide, by rw [w, w1]; clear hg hg' r1 r2 a g w w1; omega⟩
  | letter f b g' c e l l' =>
    have a := sq_great (B.k1 10 (Nat.le_refl 10) f) (B.k2 b) (B.k3 5 (Nat.le_refl 5) g')
    have q := B.two h2 h2' (a.imp id id)
    rw [q] at c
    have g : ¬ (W1 < 0 ∨ 17 < W1) := fun q => by
      have z := (B.fine 17 (by decide) (by decide) q).2.1 rfl
      rw [show i + 17 = i + 10 + 1 + 5 + 1 by clear hg hg' r1 r2 a; omega] at z
      exact z.elim l l'
    have w := small_keeps r2 hg c
    have w1 := sq_l up a (B.k4 e) g
    exact Or.inl ⟨by rw [w, w1]; decide, by rw [w, w1]; clear hg hg' r1 r2 a g w w1; omega⟩
  | last f b g' c e l z =>
    have a := sq_great (B.k1 10 (Nat.le_refl 10) f) (B.k2 b) (B.k3 5 (Nat.le_refl 5) g')
    have q := B.two h2 h2' (a.imp id id)
    rw [q] at c
    have w := small_keeps r2 hg c
    have w1 := sq_last up a (B.k4 e) (B.k5 l)
    rw [show i + 10 + 1 + 5 + 1 + 1 = i + 18 by clear hg hg' r1 r2 a w w1; omega] at z ⊢
    exact Or.inr ⟨by rw [w]; exact w1, rfl, z⟩
theorem ok_told {D : List UInt8} {i n1 n2 W1 W j d : Int} {ls : List Int} (B : Built D i n1 n2 ls W1) (h1 : 0 ≤ n1) (h1' : n1 < 10000000000) (h2 : 0 ≤ n2) (h2' : n2 < 100000) (hg : d = 0 → 65536 ≤ n2) (hg' : ¬ d = 0 → n2 < 65536)
    (r1 : d = 0 ∧ (W1 < 0 ∨ 16 ≤ W1) → W = 11) (r2 : ¬ (d = 0 ∧ (W1 < 0 ∨ 16 ≤ W1)) → W = W1) (h : EntryOk D i j) : W < 0 ∧ EndOk D (i + 18) j ∧ numV D i 10 = n1 ∧ numV D (i + 10 + 1) 5 = n2 ∧ byteAt D (i + 10 + 1 + 5 + 1) = ls.getD 17 0 := by
  obtain ⟨f, b, g', c, e, l, z⟩ := h
  have up := B.up
  have hW1 : W1 < 0 := sq_last up (sq_great (B.k1 10 (Nat.le_refl 10) f) (B.k2 b) (B.k3 5 (Nat.le_refl 5) g')) (B.k4 e) (B.k5 l)
  have q1 := B.one h1 h1' (Or.inl hW1)
  have q2 := B.two h2 h2' (Or.inl hW1)
  have q3 := (B.good 17 (by omega) (by omega) (Or.inl hW1)).1
  rw [show i + 10 + 1 + 5 + 1 + 1 = i + 18 by omega] at z
  rw [q2] at c
  refine ⟨by rw [small_keeps r2 hg c]; exact hW1, z, q1, q2, ?_⟩
  rw [show i + 10 + 1 + 5 + 1 = i + 17 by omega, q3]
  rfl
end
section
open PySem PySem.W PyProof.Rows
theorem byteAt_app {P T : List UInt8} {x : Int} (hx : 0 ≤ x) : byteAt (P ++ T) ((P.length : Int) + x) = byteAt T x := by
  unfold byteAt
  by_cases h : x < T.length
  · rw [if_pos h, if_pos (by rw [List.length_append]; omega)]
    have e : ((P.length : Int) + x).toNat = P.length + x.toNat := by omega
    rw [e]
    simp [List.getD_eq_getElem?_getD, List.getElem?_append_right]
  · rw [if_neg h, if_neg (by rw [List.length_append]; omega)]
theorem byteAt_left {P T : List UInt8} {x : Int} (hx : 0 ≤ x) (h : x < P.length) : byteAt (P ++ T) x = byteAt P x := by
  unfold byteAt
  rw [if_pos h, if_pos (by rw [List.length_append]; omega)]
  have : x.toNat < P.length := by omega
  simp [List.getD_eq_getElem?_getD, List.getElem?_append_left this]
/-- how long the line's end is, over its two octets -/
def kk (x y : Int) : Int := if x = 13 then (if y = 10 then 2 else 1) else if x = 10 then 1 else if x = 32 ∧ (y = 13 ∨ y = 10) then 2 else 0
theorem kk_no {D : List UInt8} {i : Int} (h : EndNo D i) : kk (byteAt D i) (byteAt D (i + 1)) = 0 := by
  obtain ⟨a, b, c⟩ := h
  rw [kk, if_neg a, if_neg b, if_neg fun q => q.2.elim (c q.1).1 (c q.1).2]
theorem kk_ok {D : List UInt8} {i j : Int} (h : EndOk D i j) : kk (byteAt D i) (byteAt D (i + 1)) ≠ 0 ∧ j = i + kk (byteAt D i) (byteAt D (i + 1)) := by
  rcases h with ⟨a, b, rfl⟩ | ⟨a, b, rfl⟩ | ⟨a, b, rfl⟩ | ⟨a, rfl⟩
  · rw [kk, a, if_neg (by decide), if_neg (by decide), if_pos ⟨rfl, b⟩]; exact ⟨by decide, rfl⟩
  · rw [kk, a, if_pos rfl, if_pos b]; exact ⟨by decide, rfl⟩
  · rw [kk, a, if_pos rfl, if_neg b]; exact ⟨by decide, rfl⟩
  · rw [kk, a, if_neg (by decide), if_pos rfl]; exact ⟨by decide, rfl⟩
theorem kk_ends : ∀ q ∈ Ends, ∀ r, r < 3 → kk (byteAt (q.1 ++ List.replicate r 120) 0) (byteAt (q.1 ++ List.replicate r 120) 1) = q.2 := by decide +kernel
/-- the line's end that was laid, and what take_entry makes of it -/
theorem ends_told {P e : List UInt8} {i k : Int} {r : Nat} (hP : i = (P.length : Int)) (he : (e, k) ∈ Ends) (hr : r ≤ 2) :
    (EndNo (P ++ (e ++ List.replicate r 120)) i → k = 0) ∧ ∀ j, EndOk (P ++ (e ++ List.replicate r 120)) i j → k ≠ 0 ∧ j = i + k := by
  subst hP
  have b0 := byteAt_app (P := P) (T := e ++ List.replicate r 120) (x := 0) (Int.le_refl 0)
  have b1 := byteAt_app (P := P) (T := e ++ List.replicate r 120) (x := 1) (by decide)
  rw [Int.add_zero] at b0
  have t := kk_ends _ he r (Nat.lt_succ_of_le hr)
  rw [← b0, ← b1] at t
  rw [← show _ = k from t]
  exact ⟨kk_no, fun j => kk_ok⟩
theorem ends_len {e : List UInt8} {k : Int} (h : (e, k) ∈ Ends) : e.length ≤ 3 := by
  simp only [Ends, List.mem_cons, List.not_mem_nil, or_false, Prod.mk.injEq] at h
  rcases h with ⟨rfl, _⟩ | ⟨rfl, _⟩ | ⟨rfl, _⟩ | ⟨rfl, _⟩ | ⟨rfl, _⟩ | ⟨rfl, _⟩ | ⟨rfl, _⟩ | ⟨rfl, _⟩ | ⟨rfl, _⟩ | ⟨rfl, _⟩ | ⟨rfl, _⟩ <;> simp
/-- the octets of a list of ints -/
def bs (ns : List Int) : List UInt8 := ns.map fun n => n.toNat.toUInt8
theorem bs_length (ns : List Int) : (bs ns).length = ns.length := by simp [bs]
theorem rep_len (n : Nat) (x : Int) : ((List.replicate n [x]).flatten).length = n := by simp
theorem rep_in (n : Nat) : ∀ x ∈ (List.replicate n [(120 : Int)]).flatten, 0 ≤ x ∧ x < 256 := by
  intro x hx
  simp at hx
  omega
theorem rep_bs (n : Nat) : bs (List.replicate n [(120 : Int)]).flatten = List.replicate n 120 := by
  induction n with
  | zero => rfl
  | succ n ih =>
    rw [List.replicate_succ, List.flatten_cons, List.replicate_succ, ← ih]
    rfl
section
variable {prog : Program} {w : World} {A : Around} {E : Value → Shared → Prop} {s : Shared} {h₀ : Heap} {L D : Addr} {m : PySem.Str → Option Value} {news : List (Addr × Obj)} {vs : List Value} {ns : List Int} {b c : List UInt8} {t u : Tok}
theorem make_bs {Q : Value → Shared → Prop} (F : Fr h₀ L s.heap m) (N : News h₀ L s.heap news) (hh : A.handled = none) (hl : s.heap.IsList D vs.toArray) (hi : IntsAre vs ns) (hr : ∀ n ∈ ns, 0 ≤ n ∧ n < 256) (hn : ns.length ≤ 1000)
    (h : ∀ h' t' k, Fr h₀ L h' m → News h₀ L h' news → Q (.bytes (bs ns).toArray t') { s with heap := h', toks := k }) : wpAny (model prog w) A (call (.type "bytes") [.ref D]) Q E s :=
  KBa.make_K F N hh hl hi hr (by omega) fun h' t' k F' N' _ => h h' t' k F' N'
theorem add_bs {Q : Value → Shared → Prop} (hb : b.length ≤ 1000) (hc : c.length ≤ 1000) (h : ∀ t' k, Q (.bytes (b ++ c).toArray t') { s with toks := k }) : wpAny (model prog w) A (binaryOp .Add (.bytes b.toArray t) (.bytes c.toArray u)) Q E s :=
  KBa.add_K rfl rfl (by rw [KBw.ints_length, KBw.ints_length, List.size_toArray, List.size_toArray]; omega) fun t' k _ => by simpa using h t' k
theorem len_bs {Q : Value → Shared → Prop} (hb : b.length ≤ 1000) (h : ∀ t' k, Q (.int (b.length : Nat) t') { s with toks := k }) : wpAny (model prog w) A (call (.builtin "len") [.bytes b.toArray t]) Q E s :=
  KBw.len_K rfl (by rw [KBw.ints_length, List.size_toArray]; omega) (by rw [KBw.ints_length, List.size_toArray]; exact h _ _)
end
/-- where the ways of an if meet: one name that holds an int, the pen and what the ledger held behind it -/
def JoinIf (h₀ : Heap) (L : Addr) (m : Str → Option Value) (x : Str) (p q : Nat) (more : List (Addr × Obj)) (P : Int → Prop) (s : Shared) (fl : Flow) (s' : Shared) : Prop :=
  fl = .next ∧ ∃ n t its ns a ta b tb np nq h' tk', s' = { s with heap := h', toks := tk' } ∧ P n ∧ IntsAre its ns ∧ List.length its ≤ 2 ^ 22 ∧ Fr h₀ L h' (fun y => if y = x then some (.int n t) else m y) ∧ News h₀ L h' ((p, listOf [.ref q, .int a ta, .int b tb].toArray np) :: (q, listOf its.toArray nq) :: more)
theorem join_if {M : Model} {A : Around} {t : Sem Flow} {Q : Flow → Shared → Prop} {E : Value → Shared → Prop} {s : Shared} {h₀ : Heap} {L : Addr} {m : Str → Option Value} {p q : Nat} {its : List Value} {ia ib : Int} {ta tb : Tok} {np nq : Nat} {news n1 more : List (Addr × Obj)} (x : Str) (P : Int → Prop)
    (_F : Fr h₀ L s.heap m) (_N : News h₀ L s.heap news) (_P1 : Pull p (listOf [.ref q, .int ia ta, .int ib tb].toArray np) news n1) (_P2 : Pull q (listOf its.toArray nq) n1 more)
    (hw : wpAny M A t (JoinIf h₀ L m x p q more P s) E s)
    (k : ∀ n t its ns a ta b tb np nq h' tk', P n → IntsAre its ns → List.length its ≤ 2 ^ 22 → Fr h₀ L h' (fun y => if y = x then some (.int n t) else m y) → News h₀ L h' ((p, listOf [.ref q, .int a ta, .int b tb].toArray np) :: (q, listOf its.toArray nq) :: more) → Q .next { s with heap := h', toks := tk' }) :
    wpAny M A t Q E s := by
  refine wpAny_mono hw ?_ ?_
  · rintro v s' ⟨rfl, n, t, its, ns, a, ta, b, tb, np, nq, h', tk', rfl, hP, hi, hl, F, N⟩
    exact k _ _ _ _ _ _ _ _ _ _ _ _ hP hi hl F N
  · exact fun _ _ h => h
theorem over_self {m : Str → Option Value} {x : Str} {v : Value} (h : m x = some v) : m = fun y => if y = x then some v else m y := by
  funext y
  by_cases q : y = x
  · rw [if_pos q, q, h]
  · rw [if_neg q]
theorem fr_self {h₀ h : Heap} {L : Addr} {m : Str → Option Value} {x : Str} {n : Int} {t : Tok} (F : Fr h₀ L h m) (e : m x = some (.int n t)) : Fr h₀ L h (fun y => if y = x then some (.int n t) else m y) := by
  rw [← over_self e]; exact F
/-- what is laid behind the columns -/
def JoinB (h₀ : Heap) (L : Addr) (m : Str → Option Value) (p q : Nat) (more : List (Addr × Obj)) (P : List UInt8 → Prop) (s : Shared) (v : Value) (s' : Shared) : Prop :=
  ∃ r t its ns a ta b tb np nq h' tk', v = .bytes (List.toArray r) t ∧ s' = { s with heap := h', toks := tk' } ∧ P r ∧ IntsAre its ns ∧ List.length its ≤ 2 ^ 22 ∧ Fr h₀ L h' m ∧ News h₀ L h' ((p, listOf [.ref q, .int a ta, .int b tb].toArray np) :: (q, listOf its.toArray nq) :: more)
theorem join_b {M : Model} {A : Around} {t : Sem Value} {Q : Value → Shared → Prop} {E : Value → Shared → Prop} {s : Shared} {h₀ : Heap} {L : Addr} {m : Str → Option Value} {p q : Nat} {its : List Value} {ia ib : Int} {ta tb : Tok} {np nq : Nat} {news n1 more : List (Addr × Obj)} (P : List UInt8 → Prop)
    (_F : Fr h₀ L s.heap m) (_N : News h₀ L s.heap news) (_P1 : Pull p (listOf [.ref q, .int ia ta, .int ib tb].toArray np) news n1) (_P2 : Pull q (listOf its.toArray nq) n1 more)
    (hw : wpAny M A t (JoinB h₀ L m p q more P s) E s)
    (k : ∀ r t its ns a ta b tb np nq h' tk', P r → IntsAre its ns → List.length its ≤ 2 ^ 22 → Fr h₀ L h' m → News h₀ L h' ((p, listOf [.ref q, .int a ta, .int b tb].toArray np) :: (q, listOf its.toArray nq) :: more) → Q (.bytes (List.toArray r) t) { s with heap := h', toks := tk' }) :
    wpAny M A t Q E s := by
  refine wpAny_mono hw ?_ ?_
  · rintro v s' ⟨r, t, its, ns, a, ta, b, tb, np, nq, h', tk', rfl, rfl, hP, hi, hl, F, N⟩
    exact k _ _ _ _ _ _ _ _ _ _ _ _ hP hi hl F N
  · exact fun _ _ h => h
def PMany (n : Int) : Prop := 0 ≤ n ∧ n ≤ 18
def PCut (many w n : Int) : Prop := (many < 18 ∧ (w < 0 ∨ many ≤ w) → n = many) ∧ (¬ (many < 18 ∧ (w < 0 ∨ many ≤ w)) → n = w)
def PGreat (d w n : Int) : Prop := (d = 0 ∧ (w < 0 ∨ 16 ≤ w) → n = 11) ∧ (¬ (d = 0 ∧ (w < 0 ∨ 16 ≤ w)) → n = w)
def PBack (many : Int) (e r : List UInt8) : Prop := (many = 18 → ∃ k : Nat, k ≤ 2 ∧ r = e ++ List.replicate k 120) ∧ (many ≠ 18 → r = []) ∧ r.length ≤ 5
theorem join_cut {M : Model} {A : Around} {t : Sem Flow} {Q : Flow → Shared → Prop} {E : Value → Shared → Prop} {s : Shared} {h₀ : Heap} {L : Addr} {m : Str → Option Value} {p q : Nat} {its : List Value} {ia ib : Int} {ta tb : Tok} {np nq : Nat} {news n1 more : List (Addr × Obj)} {x : Str} {many w : Int} {tm tw : Tok}
    (F : Fr h₀ L s.heap m) (N : News h₀ L s.heap news) (P1 : Pull p (listOf [.ref q, .int ia ta, .int ib tb].toArray np) news n1) (P2 : Pull q (listOf its.toArray nq) n1 more) (_h1 : m (Str.ofString "many") = some (.int many tm)) (_h2 : m x = some (.int w tw))
    (hw : wpAny M A t (JoinIf h₀ L m x p q more (PCut many w) s) E s) (k : ∀ n t its ns a ta b tb np nq h' tk', PCut many w n → IntsAre its ns → List.length its ≤ 2 ^ 22 → Fr h₀ L h' (fun y => if y = x then some (.int n t) else m y) → News h₀ L h' ((p, listOf [.ref q, .int a ta, .int b tb].toArray np) :: (q, listOf its.toArray nq) :: more) → Q .next { s with heap := h', toks := tk' }) : wpAny M A t Q E s := join_if x _ F N P1 P2 hw k
theorem join_great {M : Model} {A : Around} {t : Sem Flow} {Q : Flow → Shared → Prop} {E : Value → Shared → Prop} {s : Shared} {h₀ : Heap} {L : Addr} {m : Str → Option Value} {p q : Nat} {its : List Value} {ia ib : Int} {ta tb : Tok} {np nq : Nat} {news n1 more : List (Addr × Obj)} {x : Str} {d w : Int} {tw : Tok}
    (F : Fr h₀ L s.heap m) (N : News h₀ L s.heap news) (P1 : Pull p (listOf [.ref q, .int ia ta, .int ib tb].toArray np) news n1) (P2 : Pull q (listOf its.toArray nq) n1 more) (_h1 : m (Str.ofString "great") = some (.bool (d == 0))) (_h2 : m x = some (.int w tw))
    (hw : wpAny M A t (JoinIf h₀ L m x p q more (PGreat d w) s) E s) (k : ∀ n t its ns a ta b tb np nq h' tk', PGreat d w n → IntsAre its ns → List.length its ≤ 2 ^ 22 → Fr h₀ L h' (fun y => if y = x then some (.int n t) else m y) → News h₀ L h' ((p, listOf [.ref q, .int a ta, .int b tb].toArray np) :: (q, listOf its.toArray nq) :: more) → Q .next { s with heap := h', toks := tk' }) : wpAny M A t Q E s := join_if x _ F N P1 P2 hw k
theorem join_back {M : Model} {A : Around} {t : Sem Value} {Q : Value → Shared → Prop} {E : Value → Shared → Prop} {s : Shared} {h₀ : Heap} {L : Addr} {m : Str → Option Value} {p q : Nat} {its : List Value} {ia ib : Int} {ta tb : Tok} {np nq : Nat} {news n1 more : List (Addr × Obj)} {many : Int} {tm te : Tok} {e : List UInt8}
    (F : Fr h₀ L s.heap m) (N : News h₀ L s.heap news) (P1 : Pull p (listOf [.ref q, .int ia ta, .int ib tb].toArray np) news n1) (P2 : Pull q (listOf its.toArray nq) n1 more) (_h1 : m (Str.ofString "many") = some (.int many tm)) (_h2 : m (Str.ofString "end") = some (.bytes e.toArray te))
    (hw : wpAny M A t (JoinB h₀ L m p q more (PBack many e) s) E s) (k : ∀ r t its ns a ta b tb np nq h' tk', PBack many e r → IntsAre its ns → List.length its ≤ 2 ^ 22 → Fr h₀ L h' m → News h₀ L h' ((p, listOf [.ref q, .int a ta, .int b tb].toArray np) :: (q, listOf its.toArray nq) :: more) → Q (.bytes (List.toArray r) t) { s with heap := h', toks := tk' }) : wpAny M A t Q E s := join_b _ F N P1 P2 hw k
theorem pback_a {many d : Int} {e : List UInt8} (hm : many = 18) (he : e.length ≤ 3) (hd : d < 3) : PBack many e (e ++ bs (List.replicate d.toNat [(120 : Int)]).flatten) :=
  ⟨fun _ => ⟨d.toNat, by omega, by rw [rep_bs]⟩, fun h => absurd hm h, by rw [List.length_append, bs_length, rep_len]; omega⟩
theorem pback_b {many : Int} {e : List UInt8} (hm : ¬ many = 18) : PBack many e [] := ⟨fun h => absurd h hm, fun _ => rfl, by simp⟩
theorem pback_len {many : Int} {e r : List UInt8} (h : PBack many e r) : r.length ≤ 5 := h.2.2
theorem join_many {M : Model} {A : Around} {t : Sem Flow} {Q : Flow → Shared → Prop} {E : Value → Shared → Prop} {s : Shared} {h₀ : Heap} {L : Addr} {m : Str → Option Value} {p q : Nat} {its : List Value} {ia ib : Int} {ta tb : Tok} {np nq : Nat} {news n1 more : List (Addr × Obj)} (x : Str)
    (F : Fr h₀ L s.heap m) (N : News h₀ L s.heap news) (P1 : Pull p (listOf [.ref q, .int ia ta, .int ib tb].toArray np) news n1) (P2 : Pull q (listOf its.toArray nq) n1 more)
    (hw : wpAny M A t (JoinIf h₀ L m x p q more PMany s) E s) (k : ∀ n t its ns a ta b tb np nq h' tk', 0 ≤ n → n ≤ 18 → IntsAre its ns → List.length its ≤ 2 ^ 22 → Fr h₀ L h' (fun y => if y = x then some (.int n t) else m y) → News h₀ L h' ((p, listOf [.ref q, .int a ta, .int b tb].toArray np) :: (q, listOf its.toArray nq) :: more) → Q .next { s with heap := h', toks := tk' }) : wpAny M A t Q E s :=
  join_if x _ F N P1 P2 hw fun n t its ns a ta b tb np nq h' tk' hP => k n t its ns a ta b tb np nq h' tk' hP.1 hP.2
end
section
open PySem PySem.W PyProof.Rows
theorem byteAt_bs {ns : List Int} (h : ∀ n ∈ ns, 0 ≤ n ∧ n < 256) {x : Int} (h0 : 0 ≤ x) (h1 : x < ns.length) : byteAt (bs ns) x = ns.getD x.toNat 0 := by
  have q : x.toNat < ns.length := by omega
  unfold byteAt
  rw [bs_length, if_pos h1]
  have e : ns.getD x.toNat 0 = ns[x.toNat] := by simp [List.getD_eq_getElem?_getD, q]
  have e' : (bs ns).getD x.toNat 0 = (ns[x.toNat]).toNat.toUInt8 := by simp [bs, List.getD_eq_getElem?_getD, q]
  have b := h _ (List.getElem_mem q)
  rw [e, e']
  generalize ns[x.toNat] = n at b
  simp only [Nat.toUInt8, UInt8.toNat_ofNat']
  omega
theorem data_built {P r : List UInt8} {ls : List Int} {many n1 n2 w W1 : Int} (hJ : LaidOk (due n1 n2) 18 ls w) (h0 : 0 ≤ many) (h18 : many ≤ 18) (hc : PCut many w W1) (hr : many ≠ 18 → r = []) :
    Built (P ++ bs (ls.take many.toNat) ++ r) (P.length : Nat) n1 n2 ls W1 := by
  have hl := hJ.len
  have tl : (ls.take many.toNat).length = many.toNat := by rw [List.length_take]; omega
  obtain ⟨W, B, c1, c2⟩ := built (D := P ++ bs (ls.take many.toNat) ++ r) (i := (P.length : Nat)) hJ ⟨h0, h18⟩ (by
    intro x hx hx'
    rw [List.append_assoc, byteAt_app hx, byteAt_left hx (by rw [bs_length, tl]; omega), byteAt_bs (fun n hn => hJ.oct n (List.mem_of_mem_take hn)) hx (by rw [tl]; omega)]
    have q : x.toNat < many.toNat := by omega
    simp [List.getD_eq_getElem?_getD, List.getElem?_take, q]) (by
    intro hm
    rw [hr (by omega), List.append_nil]
    unfold byteAt
    rw [if_neg]
    rw [List.length_append, bs_length, tl]
    omega)
  have : W = W1 := by
    by_cases c : many < 18 ∧ (w < 0 ∨ many ≤ w)
    · rw [c1 c, hc.1 c]
    · rw [c2 c, hc.2 c]
  rw [← this]
  exact B
theorem great_low {d W1 W : Int} (h : PGreat d W1 W) (hW : W < 0) : W1 < 0 := by
  by_cases c : d = 0 ∧ (W1 < 0 ∨ 16 ≤ W1)
  · have := h.1 c; omega
  · have := h.2 c; omega
theorem cut_low {many w W1 : Int} (h : PCut many w W1) (h0 : 0 ≤ many) (h18 : many ≤ 18) (hW : W1 < 0) : many = 18 ∧ w < 0 := by
  by_cases c : many < 18 ∧ (w < 0 ∨ many ≤ w)
  · have := h.1 c; omega
  · have := h.2 c; omega
theorem no_end {P r e : List UInt8} {ls : List Int} {many n1 n2 w W1 W d k kk : Int} (hJ : LaidOk (due n1 n2) 18 ls w) (h0 : 0 ≤ many) (h18 : many ≤ 18) (hc : PCut many w W1) (hg : PGreat d W1 W) (hb : PBack many e r) (he : (e, kk) ∈ Ends)
    (h2 : 0 ≤ n2 ∧ n2 < 100000) (g1 : d = 0 → 65536 ≤ n2 ∧ n2 < 100000) (g2 : ¬ d = 0 → 0 ≤ n2 ∧ n2 < 65536) (h : EntryNo (P ++ bs (ls.take many.toNat) ++ r) (P.length : Nat) k) :
    (0 ≤ W → k = (P.length : Nat) + W) ∧ (W < 0 → kk = 0 ∧ k = (P.length : Nat) + 18) := by
  have B := data_built (P := P) hJ h0 h18 hc hb.2.1
  rcases no_told B h2.1 h2.2 (fun q => (g1 q).1) (fun q => (g2 q).2) hg.1 hg.2 h with ⟨a, b⟩ | ⟨a, b, c⟩
  · exact ⟨fun _ => b, fun q => by omega⟩
  · refine ⟨fun q => by omega, fun _ => ⟨?_, b⟩⟩
    obtain ⟨m18, _⟩ := cut_low hc h0 h18 (great_low hg a)
    obtain ⟨t, ht, hr⟩ := hb.1 m18
    subst hr
    have hl := hJ.len
    have tl : (ls.take many.toNat).length = 18 := by rw [List.length_take]; omega
    exact (ends_told (P := P ++ bs (ls.take many.toNat)) (by rw [List.length_append, bs_length, tl]; omega) he ht).1 c
theorem ok_end {P r e : List UInt8} {ls : List Int} {many n1 n2 w W1 W d j kk : Int} (hJ : LaidOk (due n1 n2) 18 ls w) (h0 : 0 ≤ many) (h18 : many ≤ 18) (hc : PCut many w W1) (hg : PGreat d W1 W) (hb : PBack many e r) (he : (e, kk) ∈ Ends)
    (h1 : 0 ≤ n1 ∧ n1 < 10000000000) (h2 : 0 ≤ n2 ∧ n2 < 100000) (g1 : d = 0 → 65536 ≤ n2 ∧ n2 < 100000) (g2 : ¬ d = 0 → 0 ≤ n2 ∧ n2 < 65536) (h : EntryOk (P ++ bs (ls.take many.toNat) ++ r) (P.length : Nat) j) :
    W < 0 ∧ kk ≠ 0 ∧ j = (P.length : Nat) + 18 + kk ∧ numV (P ++ bs (ls.take many.toNat) ++ r) (P.length : Nat) 10 = n1 ∧ numV (P ++ bs (ls.take many.toNat) ++ r) ((P.length : Nat) + 10 + 1) 5 = n2 ∧ byteAt (P ++ bs (ls.take many.toNat) ++ r) ((P.length : Nat) + 10 + 1 + 5 + 1) = ls.getD 17 0 := by
  have B := data_built (P := P) hJ h0 h18 hc hb.2.1
  obtain ⟨a, b, c1, c2, c3⟩ := ok_told B h1.1 h1.2 h2.1 h2.2 (fun q => (g1 q).1) (fun q => (g2 q).2) hg.1 hg.2 h
  obtain ⟨m18, _⟩ := cut_low hc h0 h18 (great_low hg a)
  obtain ⟨t, ht, hr⟩ := hb.1 m18
  subst hr
  have hl := hJ.len
  have tl : (ls.take many.toNat).length = 18 := by rw [List.length_take]; omega
  have z := (ends_told (P := P ++ bs (ls.take many.toNat)) (i := (P.length : Nat) + 18) (by rw [List.length_append, bs_length, tl]; omega) he ht).2 j b
  exact ⟨a, z.1, z.2, c1, c2, c3⟩
section
variable {prog : Program} {w : World} {A : Around} {E : Value → Shared → Prop} {s : Shared} {h₀ : Heap} {L l D : Addr} {m : Str → Option Value} {news news' : List (Addr × Obj)} {vs : List Value} {ns : List Int} {n : Nat} {t : Tok} {x : Value}
theorem item_letter {value slice : PySem.Expr} {Q : Value → Shared → Prop} {n1 n2 many d w' W1 W : Int} (N : News h₀ L s.heap news) (hm : (l, listOf vs.toArray n) ∈ news) (hi : IntsAre vs ns) (hJ : LaidOk (due n1 n2) 18 ns w') (h0 : 0 ≤ many) (h18 : many ≤ 18) (hc : PCut many w' W1) (hg : PGreat d W1 W) (hW : W < 0)
    (h1 : ∀ t, ns.getD 17 0 = 110 → Q (.int 110 t) s) (h2 : ∀ t, ns.getD 17 0 = 102 → Q (.int 102 t) s)
    (hs : subscripted slice false (.ref l) (.int 17 t) = operate [.ref l, .int 17 t] (getItem (.ref l) (.int 17 t)) := by with_unfolding_all rfl) :
    wpAny (model prog w) A (subscriptTail value slice (.ref l) (.int 17 t)) Q E s := by
  have hl := hJ.len
  refine item_int N hm hi (by decide) (by omega) (by omega) (fun t' => ?_) hs
  have hw := (cut_low hc h0 h18 (great_low hg hW)).2
  have r := hJ.ok 17 (by omega) (Or.inl hw)
  unfold Right at r
  rw [if_neg (by omega), if_pos rfl] at r
  rw [show Int.toNat 17 = 17 from rfl]
  rcases r with r | r
  · rw [r]; exact h1 _ r
  · rw [r]; exact h2 _ r
end
end
section
open PySem PySem.W PyProof.Rows
/-- a proof cut in two: what is left, and that it is enough -/
structure Veil (P : Prop) : Prop where
  out : P
structure Pack (H : Prop) where
  P : Prop
  f : Veil P → H
set_option maxHeartbeats 4000000 in
noncomputable def pack0 : Pack PySem.Challenge.rw_og0157_01.Holds := by
  apply Pack.mk
  · intro hP
    w_on
    refine holds_law ?hs fun said => ?_
    case hs => decide +kernel
    refine holds_open (q := hd.view_39) (loose := [Str.ofString "PaperError"]) (Xt := fun s => xlAt hd.view_39 [] s && recOk PySem.Challenge.rw_og0157_01.row.records s) (XP := XL hd.view_39 []) (N := 3824) raw_left (kHook hd.heap_39 [nat_lit 2, nat_lit 3, nat_lit 15, nat_lit 17, nat_lit 18, nat_lit 20, nat_lit 21, nat_lit 22, nat_lit 24, nat_lit 25, nat_lit 27, nat_lit 28, nat_lit 36, nat_lit 37, nat_lit 39, nat_lit 40, nat_lit 42, nat_lit 43, nat_lit 44, nat_lit 46, nat_lit 47, nat_lit 49, nat_lit 50, nat_lit 51, nat_lit 52, nat_lit 54, nat_lit 55, nat_lit 57, nat_lit 58, nat_lit 59, nat_lit 61, nat_lit 62, nat_lit 64, nat_lit 65, nat_lit 66, nat_lit 68, nat_lit 69, nat_lit 71, nat_lit 72, nat_lit 73, nat_lit 75, nat_lit 76, nat_lit 78, nat_lit 79, nat_lit 80, nat_lit 82, nat_lit 83, nat_lit 85, nat_lit 86, nat_lit 87, nat_lit 89, nat_lit 90, nat_lit 92, nat_lit 93, nat_lit 94, nat_lit 96, nat_lit 97, nat_lit 99, nat_lit 100, nat_lit 101, nat_lit 103, nat_lit 104, nat_lit 106, nat_lit 107, nat_lit 108, nat_lit 110, nat_lit 111, nat_lit 113, nat_lit 114, nat_lit 115, nat_lit 117, nat_lit 118, nat_lit 120, nat_lit 121, nat_lit 122, nat_lit 124, nat_lit 125, nat_lit 127, nat_lit 128, nat_lit 129, nat_lit 130, nat_lit 131, nat_lit 132, nat_lit 133, nat_lit 136, nat_lit 143, nat_lit 144, nat_lit 146, nat_lit 147, nat_lit 149, nat_lit 150, nat_lit 151, nat_lit 153, nat_lit 154, nat_lit 156, nat_lit 157, nat_lit 158, nat_lit 159, nat_lit 160, nat_lit 161, nat_lit 164, nat_lit 171, nat_lit 172, nat_lit 173, nat_lit 183, nat_lit 185, nat_lit 186, nat_lit 188, nat_lit 189, nat_lit 190, nat_lit 192, nat_lit 193, nat_lit 195, nat_lit 196, nat_lit 197, nat_lit 198, nat_lit 199, nat_lit 200, nat_lit 201, nat_lit 204, nat_lit 206, nat_lit 207, nat_lit 209, nat_lit 210, nat_lit 211, nat_lit 213, nat_lit 214, nat_lit 216, nat_lit 217, nat_lit 218, nat_lit 220, nat_lit 221, nat_lit 223, nat_lit 224, nat_lit 225, nat_lit 227, nat_lit 228, nat_lit 230, nat_lit 231, nat_lit 232, nat_lit 235, nat_lit 236, nat_lit 237, nat_lit 239, nat_lit 240, nat_lit 242, nat_lit 243, nat_lit 244, nat_lit 246, nat_lit 247, nat_lit 249, nat_lit 250, nat_lit 251, nat_lit 253, nat_lit 254, nat_lit 256, nat_lit 257, nat_lit 258, nat_lit 260, nat_lit 261, nat_lit 263, nat_lit 264, nat_lit 265, nat_lit 267, nat_lit 268, nat_lit 270, nat_lit 271, nat_lit 272, nat_lit 275, nat_lit 276] (fun _ => by kernel_rfl)).of (kHook hd.heap_39 [nat_lit 2, nat_lit 3, nat_lit 15, nat_lit 17, nat_lit 18, nat_lit 20, nat_lit 21, nat_lit 22, nat_lit 24, nat_lit 25, nat_lit 27, nat_lit 28, nat_lit 36, nat_lit 37, nat_lit 39, nat_lit 40, nat_lit 42, nat_lit 43, nat_lit 44, nat_lit 46, nat_lit 47, nat_lit 49, nat_lit 50, nat_lit 51, nat_lit 52, nat_lit 54, nat_lit 55, nat_lit 57, nat_lit 58, nat_lit 59, nat_lit 61, nat_lit 62, nat_lit 64, nat_lit 65, nat_lit 66, nat_lit 68, nat_lit 69, nat_lit 71, nat_lit 72, nat_lit 73, nat_lit 75, nat_lit 76, nat_lit 78, nat_lit 79, nat_lit 80, nat_lit 82, nat_lit 83, nat_lit 85, nat_lit 86, nat_lit 87, nat_lit 89, nat_lit 90, nat_lit 92, nat_lit 93, nat_lit 94, nat_lit 96, nat_lit 97, nat_lit 99, nat_lit 100, nat_lit 101, nat_lit 103, nat_lit 104, nat_lit 106, nat_lit 107, nat_lit 108, nat_lit 110, nat_lit 111, nat_lit 113, nat_lit 114, nat_lit 115, nat_lit 117, nat_lit 118, nat_lit 120, nat_lit 121, nat_lit 122, nat_lit 124, nat_lit 125, nat_lit 127, nat_lit 128, nat_lit 129, nat_lit 130, nat_lit 131, nat_lit 132, nat_lit 133, nat_lit 136, nat_lit 143, nat_lit 144, nat_lit 146, nat_lit 147, nat_lit 149, nat_lit 150, nat_lit 151, nat_lit 153, nat_lit 154, nat_lit 156, nat_lit 157, nat_lit 158, nat_lit 159, nat_lit 160, nat_lit 161, nat_lit 164, nat_lit 171, nat_lit 172, nat_lit 173, nat_lit 183, nat_lit 185, nat_lit 186, nat_lit 188, nat_lit 189, nat_lit 190, nat_lit 192, nat_lit 193, nat_lit 195, nat_lit 196, nat_lit 197, nat_lit 198, nat_lit 199, nat_lit 200, nat_lit 201, nat_lit 204, nat_lit 206, nat_lit 207, nat_lit 209, nat_lit 210, nat_lit 211, nat_lit 213, nat_lit 214, nat_lit 216, nat_lit 217, nat_lit 218, nat_lit 220, nat_lit 221, nat_lit 223, nat_lit 224, nat_lit 225, nat_lit 227, nat_lit 228, nat_lit 230, nat_lit 231, nat_lit 232, nat_lit 235, nat_lit 236, nat_lit 237, nat_lit 239, nat_lit 240, nat_lit 242, nat_lit 243, nat_lit 244, nat_lit 246, nat_lit 247, nat_lit 249, nat_lit 250, nat_lit 251, nat_lit 253, nat_lit 254, nat_lit 256, nat_lit 257, nat_lit 258, nat_lit 260, nat_lit 261, nat_lit 263, nat_lit 264, nat_lit 265, nat_lit 267, nat_lit 268, nat_lit 270, nat_lit 271, nat_lit 272, nat_lit 275, nat_lit 276] (fun _ => by kernel_rfl)).keeps (fun s e => xl_of s (Bool.and_eq_true_iff.mp e).1) XL.keeps (by rfl) (by rfl) (by rfl) (fun s e => recFacts_of (Bool.and_eq_true_iff.mp e).2) (by rfl) said (by decide +kernel) ⟨rfl, rfl, rfl, rfl, rfl, by decide +kernel⟩ ?hw ?hc
    case hw => w_witness2
    exact hP.out
end
section
open PySem PySem.W PyProof.Rows
theorem pw4 {k : Int} (h : k < 0 + ((5 - 0 : Int).toNat : Int)) : 0 ≤ 4 - k := by
  have e : (0 + ((5 - 0 : Int).toNat : Int)) = 5 := rfl
  rw [e] at h
  omega
theorem pw9 {k : Int} (h : k < 0 + ((10 - 0 : Int).toNat : Int)) : 0 ≤ 9 - k := by
  have e : (0 + ((10 - 0 : Int).toNat : Int)) = 10 := rfl
  rw [e] at h
  omega
theorem ten_ten : (10 : Int) ^ Int.toNat 10 = 10000000000 := by decide
theorem one_bound {n d e : Int} (h : n = d ∨ n = 10000000000 - 1 ∨ n = 0 ∨ n = e) (h0 : 0 ≤ d) (h1 : d < 10000000000) (e0 : 0 ≤ e) (e1 : e < 900) : 0 ≤ n ∧ n < 10000000000 := by omega
theorem two_bound {n d : Int} (h : d = 0 → 65536 ≤ n ∧ n < 100000) (h' : ¬ d = 0 → 0 ≤ n ∧ n < 65536) : 0 ≤ n ∧ n < 100000 := by
  by_cases q : d = 0
  · have := h q; omega
  · have := h' q; omega
theorem way_used {c x : Int} {w : Str} (h : w = wayOf c) (e : c = x) (q : x = 110) : w = Str.ofString "used" := by
  rw [h, e, q]; exact if_pos rfl
theorem way_free {c x : Int} {w : Str} (h : w = wayOf c) (e : c = x) (q : x = 102) : w = Str.ofString "free" := by
  rw [h, e, q]; exact if_neg (by decide)
end
local macro_rules | `(tactic| walk_at "call ref") => `(tactic| (k_here; (with_reducible show wpAny _ _ (call (Value.ref 236) _) _ _ _); k_dflt (refine' pen_ok ?B ?F ?X ?N ?T ?hk ?hl ?hi ?h63 ?hd ?hu ?_; walk_at "cp"; (case hl => assumption); (case hi => assumption); (case h63 => (have hz9 := IntsAre.length (by assumption); omega))); intro p9 q9 its9 ns9 np9 nq9 t19 t29 h9 tk9 hqp9 hc91 hc92 hc93 hc94 hi9 hl9 F9 N9; walk_at "ci"))
local macro_rules | `(tactic| walk_at "call ref") => `(tactic| (k_here; (with_reducible show wpAny _ _ (call (Value.ref 264) _) _ _ _); k_dflt (refine' end_ok2 ?B ?F ?X (cb_drop ?N (Pull.two ?P1 ?P2)) ?T ?hk ?hqp ?hi ?hlen ?hp ?hq ?hd ?hu ?_; walk_at "cn"); intro r9 e9 te9 kk9 t9 its9 ns9 a9 ta9 b9 tb9 np9 nq9 h9 tk9 he9 hr9 hpr9 hqr9 hi9 hl9 F9 N9; have hel9 := ends_len he9; walk_at "ci"))
local macro_rules | `(tactic| walk_at "call ref") => `(tactic| (k_here; (with_reducible show wpAny _ _ (call (Value.ref 257) _) _ _ _); k_dflt (refine' columns_ok ?B ?F ?X (cb_drop ?N (pull3 ?P1 ?P2 ?P3)) ?T ?hk ?hqp ?hi ?hlen ?hp ?hq ?hp' ?hq' ?hds ?hdn ?hdig ?hd ?hu ?_; (case N => k_asm); walk_at "ca"; (case P3 => repeat (first | exact Pull.head | apply Pull.tail)); walk_at "cb"; walk_at "cd"; (case hp' => k_ne); (case hq' => k_ne); (case hds => exact due_ints (by assumption)); (case hdn => exact due_len _ _); (case hdig => exact due_dig _ _)); intro r9 l9 lvs9 ls9 nl9 w9 tw9 its9 ns9 a9 ta9 b9 tb9 np9 nq9 h9 tk9 hJ9 hlv9 hr9 hpr9 hqr9 hpl9 hql9 hi9 hl9 F9 N9; have hlen9 := LaidOk.len hJ9; have hvl9 := IntsAre.length hlv9; walk_at "ci"))
local macro_rules | `(tactic| walk_at "eval IfExp") => `(tactic| (k_here; (with_reducible show wpAny _ _ (eval (PySem.Expr.IfExp (PySem.Expr.Name (PySem.Str.ofString "great") _) _ _ _) _) _ _ _); (fail_if_success (with_reducible show wpAny _ _ _ (JoinAt _ _ _ _ _ _ _ _) _ _)); k_dflt (refine' join_int ?hd ?F ?N ?_ ?_; (case hd => assumption); walk_at "co"; k_whole); all_goals first | (intro n9 t9 its9 ns9 a9 ta9 b9 tb9 np9 nq9 h9 tk9 hP9 hi9 hl9 F9 N9; obtain ⟨hPa9, hPb9⟩ := hP9; walk_at "ci") | skip))
local macro_rules | `(tactic| walk_at "JoinAt") => `(tactic| (k_dflt (refine' ⟨_, _, _, _, _, _, _, _, _, _, _, _, rfl, rfl, ?P, ?hi, ?hl, ?F, cb_drop ?N ?sub⟩; walk_at "co"; (case sub => walk_at "cg"); walk_at "cs"; (case P => (constructor <;> intro _ <;> omega)))))
local macro_rules | `(tactic| walk_at "call type:bytes") => `(tactic| (k_here; (with_reducible show wpAny _ _ (call (Value.type "bytes") [Value.ref _]) _ _ _); k_dflt (refine' make_bs ?F ?N ?hh ?l ?i ?r ?n ?_; walk_at "co"; (case hh => exact rfl); (case l => kmk_list); (case i => assumption); (case r => first | exact rep_in _ | exact fun n h => LaidOk.oct (by assumption) n (List.mem_of_mem_take h)); (case n => (walk_at "ch")); k_whole); intro h9 t9 k9 F9 N9; walk_at "ci"))
local macro_rules | `(tactic| walk_at "binaryOp Add bytes bytes") => `(tactic| (k_here; (with_reducible show wpAny _ _ (binaryOp Operator.Add (Value.bytes _ _) (Value.bytes _ _)) _ _ _); k_dflt (refine' add_bs ?b ?c ?_; (case b => (walk_at "ch")); (case c => (walk_at "ch")); k_whole); intro t9 k9; (try dsimp only)))
local macro_rules | `(tactic| walk_at "call builtin:len") => `(tactic| (k_here; (with_reducible show wpAny _ _ (call (Value.builtin "len") [Value.bytes _ _]) _ _ _); k_dflt (refine' len_bs ?b ?_; (case b => (walk_at "ch")); k_whole); intro t9 k9; (try dsimp only)))
local macro_rules | `(tactic| walk_at "subscriptTail Name Slice ref ref") => `(tactic| (k_here; (with_reducible show wpAny _ _ (subscriptTail _ (PySem.Expr.Slice _ _ none _) (Value.ref _) (Value.ref _)) _ _ _); k_dflt (refine' kmk_slice_ints ?F ?N ?l ?p ?q ?i ?m ?c ?_ ?s ?t ?z; walk_at "co"; (case l => exact News.isList (by k_asm) (by walk_at "cl")); (case p => kmk_part); (case q => kmk_part); (case i => assumption); (case m => kmk_nums); (case c => kmk_len); (case s => with_unfolding_all rfl); (case t => kmk_pure); (case z => (rw [List.size_toArray, sizeLine_eq]; omega))); intro D9 ws9 h9 F9 N9 l1 hI9 hC9 hL9; (try simp only [Int.reduceNeg, Int.neg_neg, Int.reduceToNat] at hI9 hC9 hL9); (try k_lt l1); (try k_sweep)))
section
open PySem PySem.W PyProof.Rows
local macro_rules | `(tactic| k_qdec) => `(tactic| decide +kernel)
local macro_rules | `(tactic| l_bnd) => `(tactic| first | assumption | (refine pw4 ?_; assumption) | (refine pw9 ?_; assumption) | decide | k_dflt omega | l_fact)
local macro_rules | `(tactic| walk_at "call ref") => `(tactic| (k_here; (with_reducible show wpAny _ _ (call (Value.ref 243) [_, Value.int 4 _]) _ _ _); refine stop_here ?_))
set_option maxHeartbeats 4000000 in
noncomputable def pack1 : Pack pack0.P := by
  apply Pack.mk
  · intro hP
    unfold pack0
    dsimp only
    k_go0
    (all_goals try k_fold)
    k_steps
    unfold Stop
    rename @LT.lt Nat _ _ _ => hqp9
    refine name_lt hqp9 ?_
    clear hqp9
    intro q0 p0 hq0 hp0 hqp
    subst hq0 hp0
    rename Shared => s1
    rename IsRange _ _ _ _ _ _ _ _ => rg9
    rename News _ _ _ _ => N9
    rename Fr _ _ _ _ => F9
    rename IntsAre _ _ => hi9
    rename List.length _ ≤ 2 ^ 22 => hl9
    refine iter_rangeM (n := 4) (fun m₀ k m₁ nx => ∃ its ns a ta b tb np nq o1 o2 v1 v2, nx = [(p0, listOf [.ref q0, .int a ta, .int b tb].toArray np), (q0, listOf its.toArray nq), (s1.heap.objs.size + 1 + 1, o1), (s1.heap.objs.size + 1, o2)] ∧ Obj.data o1 = .cell v1 ∧ Obj.data o2 = .cell v2 ∧ IntsAre its ns ∧ its.length ≤ 2 ^ 22 ∧ ∀ z, z ∉ [Str.ofString "lap", Str.ofString "great", Str.ofString "due_signs", Str.ofString "laid", Str.ofString "wrong", Str.ofString "ahead", Str.ofString "many", Str.ofString "end", Str.ofString "size", Str.ofString "data", Str.ofString "due"] → m₁ z = m₀ z) rfl rg9 (by omega) F9 N9 ?_ ?_ ?_
    · exact ⟨_, _, _, _, _, _, _, _, _, _, _, _, rfl, by assumption, by assumption, hi9, hl9, fun z _ => rfl⟩
    · rintro k t m₁ nx h tk own hkc hoff ⟨its, ns, a, ta, b, tb, np, nq, o1, o2, v1, v2, rfl, ho1, ho2, hi, hlen, hm⟩ F' N'
      obtain ⟨g, rfl⟩ : ∃ g : Str → Option Value, m₁ = fun y => over [Str.ofString "lap", Str.ofString "great", Str.ofString "due_signs", Str.ofString "laid", Str.ofString "wrong", Str.ofString "ahead", Str.ofString "many", Str.ofString "end", Str.ofString "size", Str.ofString "data", Str.ofString "due"] g _ y := ⟨m₁, funext (over_eq hm)⟩
      simp only [over] at F'
      dsimp only [List.cons_append, List.nil_append] at N'
      have hoff1 : ∀ e ∈ own, e.1 ≠ p0 := OwnOff.ne hoff (List.Mem.head _)
      have hoff2 : ∀ e ∈ own, e.1 ≠ q0 := OwnOff.ne hoff (List.Mem.tail _ (List.Mem.head _))
      have hoff3 : ∀ e ∈ own, e.1 ≠ s1.heap.objs.size + 1 + 1 := OwnOff.ne hoff (List.Mem.tail _ (List.Mem.tail _ (List.Mem.head _)))
      have hoff4 : ∀ e ∈ own, e.1 ≠ s1.heap.objs.size + 1 := OwnOff.ne hoff (List.Mem.tail _ (List.Mem.tail _ (List.Mem.tail _ (List.Mem.head _))))
      clear N9 F9 hm rg9 hi9 hl9
      try (rename CellsAre _ _ _ => z9; clear z9)
      try (rename ReadsAll _ _ _ _ => z9; clear z9)
      try (rename Reads _ _ _ _ => z9; clear z9)
      try (rename Well _ _ _ _ => z9; clear z9)
      try (rename ReadsAllW _ _ _ _ _ _ => z9; clear z9)
      k_steps
      all_goals (try (exfalso; rename (10 : Int) ^ _ = 0 => hz; exact absurd hz (Int.ne_of_gt (ten_pos _)); done))
      unfold Stop
      rename News _ _ _ _ => N8
      rename Fr _ _ _ _ => F8
      rename IntsAre _ _ => hi8
      rename List.length _ ≤ 2 ^ 22 => hl8
      rename LaidOk _ _ _ _ => hJ8
      rename List.length _ = 18 => hn8
      rename List.length _ = List.length _ => hv8
      rename _ < _ ∧ _ < _ ∧ _ < _ ∧ _ => l8
      rename _ = (0 : Int) → _ ∧ _ => hpa8
      rename ¬ _ = (0 : Int) → _ ∧ _ => hpb8
      rename _ = _ ∨ _ = _ ∨ _ = _ ∨ _ = _ => hm8
      rename _ < (900 : Int) => h900
      rename _ < (10 : Int) ^ _ => hten
      rw [ten_ten] at hten hm8
      have hone := one_bound hm8 (by assumption) hten (by assumption) h900
      have htwo := two_bound hpa8 hpb8
      clear hm8 hten h900
      have l7 := And.intro l8.1 l8.2.1
      clear l8
      replace N8 := cb_drop N8 (sub_cons (List.Mem.tail _ (List.Mem.head _)) (sub_cons (List.Mem.tail _ (List.Mem.tail _ (List.Mem.head _))) (sub_cons (List.Mem.tail _ (List.Mem.tail _ (List.Mem.tail _ (List.Mem.tail _ (List.Mem.head _))))) (sub_cons (List.Mem.head _) (sub_tail (sub_tail (sub_tail (sub_tail (sub_tail (sub_tail (sub_tail (sub_tail (sub_tail fun _ h => h)))))))))))))
      rename IntsAre _ (List.map _ _ ++ List.map _ _) => z9; clear z9
      repeat (rename IntsAre _ (List.map _ _) => z9; clear z9)
      revert hi8 hl8
      rename IntsAre _ _ => hlv8
      revert hlv8 hv8 N8 F8
      rename Fr _ _ _ _ => z9; clear z9
      rename News _ _ _ _ => z9; clear z9
      repeat (rename List.length _ = List.length _ => z9; clear z9)
      repeat (rename List.length _ ≤ 2 ^ 22 => z9; clear z9)
      repeat (rename IntsAre _ _ => z9; clear z9)
      intro hlv8 hv8 N8 F8 hi8 hl8
      repeat (rename List.length _ = Int.toNat _ => z9; clear z9)
      repeat (rename IsRange _ _ _ _ _ _ _ _ => z9; clear z9)
      repeat (rename _ < _ ∧ _ < _ ∧ _ < _ ∧ _ => z9; clear z9)
      repeat (rename _ ≠ _ ∧ _ ≠ _ ∧ _ ≠ _ ∧ _ => z9; clear z9)
      repeat (rename ∀ b o, Heap.get? _ b = some o → Heap.get? _ b = some o => z9; clear z9)
      repeat (rename Obj.data _ = .cell (bindC _ _ _ _) => z9; clear z9)
      repeat (rename_i x9; revert x9)
      (try revert s1)
      (try revert q0)
      (try revert p0)
      (try revert k)
      (try revert t)
      (try revert h)
      (try revert tk)
      (try revert own)
      (try revert its)
      (try revert ns)
      (try revert a)
      (try revert ta)
      (try revert b)
      (try revert tb)
      (try revert np)
      (try revert nq)
      (try revert o1)
      (try revert o2)
      (try revert v1)
      (try revert v2)
      (try revert g)
      (try revert m₁)
      (try revert nx)
      repeat (revert ys)
      repeat (rename_i x9; revert x9)
      exact hP.out
    · rintro m₁ nx h tk ⟨its, ns, a, ta, b, tb, np, nq, o1, o2, v1, v2, rfl, ho1, ho2, hi, hlen, hm⟩ F' N'
      clear N9 F9 rg9 hi9 hl9
      dsimp only
      k_steps
end
local macro_rules | `(tactic| walk_at "exec If") => `(tactic| (k_here; (fail_if_success (with_reducible show wpAny _ _ _ (JoinIf _ _ _ _ _ _ _ _ _) _ _)); (with_reducible show wpAny _ _ (exec (PySem.Stmt.If (PySem.Expr.Compare (PySem.Expr.Call (PySem.Expr.Name (PySem.Str.ofString "_law_draw") _) _ _ _) _ _ _) _ _ _) _) _ _ _); k_dflt (refine' join_many (PySem.Str.ofString "many") ?F ?N ?P1 ?P2 ?_ ?_; walk_at "co"; walk_at "ca"; skip; k_whole); all_goals first | (intro n9 t9 its9 ns9 a9 ta9 b9 tb9 np9 nq9 h9 tk9 hPa9 hPb9 hi9 hl9 F9 N9; walk_at "ci") | skip))
local macro_rules | `(tactic| walk_at "exec If") => `(tactic| (k_here; (fail_if_success (with_reducible show wpAny _ _ _ (JoinIf _ _ _ _ _ _ _ _ _) _ _)); (with_reducible show wpAny _ _ (exec (PySem.Stmt.If (PySem.Expr.BoolOp _ (PySem.Expr.Compare (PySem.Expr.Name (PySem.Str.ofString "many") _) _ _ _ :: _) _) _ _ _) _) _ _ _); k_dflt (refine' join_cut (x := PySem.Str.ofString "wrong") ?F ?N ?P1 ?P2 ?h1 ?h2 ?_ ?_; walk_at "co"; walk_at "ca"; walk_at "cr"; k_whole); all_goals first | (intro n9 t9 its9 ns9 a9 ta9 b9 tb9 np9 nq9 h9 tk9 hP9 hi9 hl9 F9 N9; walk_at "ci") | skip))
local macro_rules | `(tactic| walk_at "exec If") => `(tactic| (k_here; (fail_if_success (with_reducible show wpAny _ _ _ (JoinIf _ _ _ _ _ _ _ _ _) _ _)); (with_reducible show wpAny _ _ (exec (PySem.Stmt.If (PySem.Expr.BoolOp _ (PySem.Expr.Name (PySem.Str.ofString "great") _ :: _) _) _ _ _) _) _ _ _); k_dflt (refine' join_great (x := PySem.Str.ofString "wrong") ?F ?N ?P1 ?P2 ?h1 ?h2 ?_ ?_; walk_at "co"; walk_at "ca"; walk_at "cr"; k_whole); all_goals first | (intro n9 t9 its9 ns9 a9 ta9 b9 tb9 np9 nq9 h9 tk9 hP9 hi9 hl9 F9 N9; walk_at "ci") | skip))
local macro_rules | `(tactic| walk_at "eval IfExp") => `(tactic| (k_here; (fail_if_success (with_reducible show wpAny _ _ _ (JoinB _ _ _ _ _ _ _ _) _ _)); (with_reducible show wpAny _ _ (eval (PySem.Expr.IfExp (PySem.Expr.Compare (PySem.Expr.Name (PySem.Str.ofString "many") _) _ _ _) _ _ _) _) _ _ _); k_dflt (refine' join_back ?F ?N ?P1 ?P2 ?h1 ?h2 ?_ ?_; walk_at "co"; walk_at "ca"; walk_at "cr"; k_whole); all_goals first | (intro n9 t9 its9 ns9 a9 ta9 b9 tb9 np9 nq9 h9 tk9 hP9 hi9 hl9 F9 N9; have hrl9 := pback_len hP9; walk_at "ci") | skip))
local macro_rules | `(tactic| walk_at "JoinIf") => `(tactic| (k_dflt (refine' ⟨rfl, _, _, _, _, _, _, _, _, _, _, _, _, rfl, ?P, ?hi, ?hl, ?F, cb_drop ?N ?sub⟩; (case N => k_asm); (case sub => walk_at "cg"); walk_at "cs"; (case F => first | (with_reducible assumption) | (refine' fr_self ?FA ?FE; (case FA => with_reducible assumption); (case FE => first | exact rfl | (with_unfolding_all exact rfl)))); (case P => first | (unfold PMany; omega) | (unfold PCut; omega) | (unfold PGreat; omega)))))
local macro_rules | `(tactic| walk_at "JoinB") => `(tactic| (k_dflt (refine' ⟨_, _, _, _, _, _, _, _, _, _, _, _, rfl, rfl, ?P, ?hi, ?hl, ?F, cb_drop ?N ?sub⟩; (case N => k_asm); (case sub => walk_at "cg"); walk_at "cs"; (case F => k_asm); (case P => first | exact pback_a (by assumption) (by assumption) (by assumption) | exact pback_b (by assumption)))))
section
open PySem PySem.W PyProof.Rows
local macro_rules | `(tactic| walk_at "call ref") => `(tactic| (k_here; (with_reducible show wpAny _ _ (call (Value.ref 264) _) _ _ _); refine stop_here ?_))
set_option maxHeartbeats 4000000 in
noncomputable def pack2 : Pack pack1.P := by
  apply Pack.mk
  · intro hP
    unfold pack1
    dsimp only
    intros
    k_steps
    unfold Stop
    rename News _ _ _ _ => N8
    rename Fr _ _ _ _ => F8
    rename IntsAre _ _ => hi8
    rename List.length _ ≤ 2 ^ 22 => hl8
    replace N8 := cb_drop N8 (sub_cons (List.Mem.head _) (sub_cons (List.Mem.tail _ (List.Mem.head _)) (sub_cons (List.Mem.tail _ (List.Mem.tail _ (List.Mem.tail _ (List.Mem.tail _ (List.Mem.head _))))) (sub_tail (sub_tail (sub_tail (sub_tail (sub_tail (sub_tail fun _ h => h)))))))))
    rename IntsAre _ (List.flatten _) => z9; clear z9
    revert hi8 hl8 
    repeat (rename List.length _ ≤ 2 ^ 22 => z9; clear z9)
    rename IntsAre _ _ => z9; clear z9
    rename IntsAre _ _ => z9; clear z9
    rename IntsAre _ _ => z9; clear z9
    rename IntsAre _ _ => z9; clear z9
    intro hi8 hl8
    repeat (rename _ < _ ∧ _ < _ ∧ _ < _ ∧ _ => z9; clear z9)
    rename _ < _ ∧ _ < _ => z9; clear z9
    rename _ < (0 : Int) → _ => z9; clear z9
    rename (0 : Int) ≤ _ → ((_ : Nat) : Int) = _ => z9; clear z9
    rename List.length (List.flatten _) = _ => z9; clear z9
    rename Array.size _ = _ => z9; clear z9
    repeat (rename_i x9; revert x9)
    exact hP.out
end
section
open PySem PySem.W PyProof.Rows
local macro_rules | `(tactic| walk_at "subscriptTail Name Constant ref int") => `(tactic| (k_here; (with_reducible show wpAny _ _ (subscriptTail _ _ (Value.ref _) (Value.int 17 _)) _ _ _); k_dflt (refine' item_letter ?N ?m ?i ?J ?c0 ?c18 ?c ?g ?W ?_ ?_ ?hs; (case N => k_asm); (case m => walk_at "cl"); (case i => assumption); (case J => assumption); (case c => assumption); (case c0 => assumption); (case c18 => assumption); (case g => assumption); (case W => assumption); (case hs => with_unfolding_all rfl); k_whole); all_goals (intro t9 hq9; (try dsimp only))))
local macro_rules | `(tactic| walk_at "call ref") => `(tactic| (k_here; (with_reducible show wpAny _ _ (call (Value.ref 271) _) _ _ _); refine stop_here ?_))
set_option maxHeartbeats 6000000 in
theorem rest3 : pack2.P := by
  unfold pack2
  dsimp only
  intros
  k_steps
  all_goals unfold Stop
  all_goals as_aux_lemma =>
    rename News _ _ _ _ => N8
    rename Fr _ _ _ _ => F8
    rename LaidOk _ _ _ _ => hJ
    rename PCut _ _ _ => hc
    rename PGreat _ _ _ => hg
    rename PBack _ _ _ => hb
    rename _ ∈ Ends => he
    k_here
    refine' heard_ok ?F ?X ?T ?hk ?hi ?hi' ?hD ?hd ?hu ?_ ?_
    (case F => k_asm)
    (case X => k_asm)
    (case T => k_asm)
    (case hk => exact rfl)
    (case hi => omega)
    (case hi' => (simp only [List.length_append]; omega))
    (case hD => (simp only [bs_length, rep_len, List.length_append, List.length_take]; omega))
    (case hd => ktr_room)
    (case hu => ktr_units)
    · intro k9 r9 t9 h9 tk9 hno9 F9 kp9 nn9 M9
      have N9 := news_keep N8 M9 kp9
      clear M9 kp9 nn9
      have hz := no_end hJ (by assumption) (by assumption) hc hg hb he (by assumption) (by assumption) (by assumption) hno9
      first
      | (exfalso; omega)
      | (have hk := hz.1 (by omega); subst hk)
      | (have hk := (hz.2 (by omega)).2; subst hk)
      all_goals clear N8 F8
      all_goals dsimp only [List.cons_append, List.nil_append] at N9
      all_goals dsimp only
      all_goals k_steps
      all_goals
        rename News _ _ _ _ => kN9
        rename Fr _ _ _ _ => kF9
        rename IntsAre _ _ => hi7
        rename List.length _ ≤ 2 ^ 22 => hl7
        refine' InvEndN.intro kF9 kN9 ⟨_, _, _, _, _, _, _, _, _, _, _, _, rfl, ?o1, ?o2, hi7, hl7, ?M⟩ ?A ?H ?O
        case H => exact sub_cons (by repeat (first | exact List.Mem.head _ | apply List.Mem.tail)) (sub_cons (by repeat (first | exact List.Mem.head _ | apply List.Mem.tail)) (sub_cons (by repeat (first | exact List.Mem.head _ | apply List.Mem.tail)) (sub_cons (by repeat (first | exact List.Mem.head _ | apply List.Mem.tail)) (by exact List.forall_mem_nil _))))
        case O => (repeat (first | exact fun _ h => h | apply sub_tail))
        case A => rfl
        case o1 => assumption
        case o2 => assumption
        case M =>
          intro z hz
          simp only [List.mem_cons, List.not_mem_nil, or_false, not_or] at hz
          obtain ⟨q1, q2, q3, q4, q5, q6, q7, q8, q9, q10, q11⟩ := hz
          simp [q1, q2, q3, q4, q5, q6, q7, q8, q9, q10, q11]
    · intro j9 way9 r9 r29 t9 tw9 t19 t29 h9 tk9 hok9 hway9 F9 kp9 nn9 nn29 M9
      have N9 := news_keep N8 M9 kp9
      clear M9 kp9 nn9 nn29
      have hz := ok_end hJ (by assumption) (by assumption) hc hg hb he (by assumption) (by assumption) (by assumption) (by assumption) hok9
      obtain ⟨z1, z2, z3, z4, z5, z6⟩ := hz
      first
      | (exfalso; omega)
      | (have hw9 := way_used hway9 z6 (by assumption)
         subst hw9 z3
         rw [z4, z5] at N9)
      | (have hw9 := way_free hway9 z6 (by assumption)
         subst hw9 z3
         rw [z4, z5] at N9)
      all_goals clear N8 F8
      all_goals dsimp only [List.cons_append, List.nil_append] at N9
      all_goals dsimp only
      all_goals k_steps
      all_goals
        rename News _ _ _ _ => kN9
        rename Fr _ _ _ _ => kF9
        rename IntsAre _ _ => hi7
        rename List.length _ ≤ 2 ^ 22 => hl7
        refine' InvEndN.intro kF9 kN9 ⟨_, _, _, _, _, _, _, _, _, _, _, _, rfl, ?o1, ?o2, hi7, hl7, ?M⟩ ?A ?H ?O
        case H => exact sub_cons (by repeat (first | exact List.Mem.head _ | apply List.Mem.tail)) (sub_cons (by repeat (first | exact List.Mem.head _ | apply List.Mem.tail)) (sub_cons (by repeat (first | exact List.Mem.head _ | apply List.Mem.tail)) (sub_cons (by repeat (first | exact List.Mem.head _ | apply List.Mem.tail)) (by exact List.forall_mem_nil _))))
        case O => (repeat (first | exact fun _ h => h | apply sub_tail))
        case A => rfl
        case o1 => assumption
        case o2 => assumption
        case M =>
          intro z hz
          simp only [List.mem_cons, List.not_mem_nil, or_false, not_or] at hz
          obtain ⟨q1, q2, q3, q4, q5, q6, q7, q8, q9, q10, q11⟩ := hz
          simp [q1, q2, q3, q4, q5, q6, q7, q8, q9, q10, q11]
theorem whole : PySem.Challenge.rw_og0157_01.Holds := pack0.f ⟨pack1.f ⟨pack2.f ⟨rest3⟩⟩⟩
end
end
end Mine
theorem PySem.Challenge.cw_og0157_01_holds : PySem.Challenge.rw_og0157_01.Holds := by
  exact Mine.whole
